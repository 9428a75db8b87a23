import PyProof.Rows.All
import HandS.ForExc
import HandS.ForMost
import HandS.IsInst
import HandS.TupAny
import HandS.Deep
import HandS.NoneIn
import HandS.Style
import HandS.Zip
import HandS.Text
import HandS.Lambda
import KE.KNest
import KE.GoesMore
import KE.GoesZip
import HandS.TryOnly
import HandS.Strs
import HandS.Defaults
import PyProof.StrLawsRepr
import PySem.Challenge.RW_stepcrowds_k34_whole_images_and_parts_by
set_option Elab.async false
set_option linter.all false
section
/-! EvA: our own small syntax, its data, its evaluator. -/
namespace Ev
open PySem

abbrev D := PyData

/-- a function at hand: a lambda that was made, a def by its name -/
inductive Fv where
  | lam (i : Nat)
  | def_ (f : Nat) (x : Str)
/-- a tuple of which more is known: it is a plain one; three things, the last a plain tuple -/
inductive Xt where
  | x (xs : List D)
  | t3 (a b : D) (xs : List D)
/-- a value at hand: data, or a thing of the store, or a function, or such a tuple -/
inductive U where
  | d (x : D)
  | m (n : Nat)
  | f (h : Fv)
  | s (z : Xt)
/-- what stands in the store -/
inductive Cell where
  | lst (xs : List U)
  | dead
abbrev Store := List Cell
abbrev Env := List (Option U)

/-- what an expression comes to -/
inductive R (α : Type) where
  | ok (a : α) (st : Store)
  | exc (c : Nat) (x : D) (st : Store)
  | stuck
/-- no exception may leave -/
def R.nox {α : Type} (r : R α) : R α := match r with
  | .ok a st => .ok a st
  | _ => .stuck
def R.bind {α β : Type} (r : R α) (f : α → Store → R β) : R β := match r with
  | .ok a st => f a st
  | .exc c x st => .exc c x st
  | .stuck => .stuck
/-- what a statement comes to -/
inductive RS where
  | nx (ε : Env) (st : Store)
  | ret (u : U) (st : Store)
  | brk (ε : Env) (st : Store)
  | cnt (ε : Env) (st : Store)
  | exc (c : Nat) (x : D) (ε : Env) (st : Store)
  | stuck
def R.bindS {α : Type} (ε : Env) (r : R α) (f : α → Store → RS) : RS := match r with
  | .ok a st => f a st
  | .exc c x st => .exc c x ε st
  | .stuck => .stuck

/-- built-in types that isinstance asks -/
inductive Ty where
  | int | bool | str | tuple | list | dict
  deriving DecidableEq
def Ty.name : Ty → String
  | .int => "int" | .bool => "bool" | .str => "str" | .tuple => "tuple" | .list => "list" | .dict => "dict"
/-- built-in functions -/
inductive Bf where
  | len | int | abs | repr | divmod | tuple | list (mu : Bool) | sum | any | all | max2 | min2
  deriving DecidableEq
/-- methods of built-in types: without an argument, with one -/
inductive M0 where
  | pop
  deriving DecidableEq
inductive M1 where
  | append
  deriving DecidableEq
/-- methods that take data and give data -/
inductive DM where
  | split | count
  deriving DecidableEq
def dmName : DM → Str
  | .split => "split" | .count => "count"
/-- what a loop walks -/
inductive Ik where
  | val | r1 | r2 | enum | zip
  deriving DecidableEq
/-- targets by names -/
inductive Tn where
  | one (i : Nat)
  | tup (is : List Nat)
  | nest (i : Nat) (js : List Nat)
  deriving DecidableEq

mutual
inductive E where
  | con (c : Const)
  | var (i : Nat)
  | glob (g : Nat)
  | bin (op : Operator) (a b : E)
  | neg (a : E)
  | not_ (a : E)
  | cmp (op : CmpOp) (a b : E)
  | chain (op op2 : CmpOp) (a b c : E)
  | and_ (a b : E)
  | or_ (a b : E)
  | ite (c a b : E)
  | tup (es : Es)
  | lst (mu : Bool) (es : Es)
  | ix (a b : E)
  | slice (a : E) (lo hi : Es)
  | call (f : Nat) (es : Es)
  | callK (f : Nat) (ks js : List Nat) (es : Es)
  | bcall (b : Bf) (es : Es)
  | isty (t : Ty) (e : E)
  | meth0 (m : M0) (o : E)
  | meth1 (m : M1) (o a : E)
  | comp (mu : Bool) (elt : E) (tg : Tn) (ik : Ik) (its : Es) (ifs : Es) (own : List Nat)
  | dict (ks : List Str) (es : Es)
  | rep (es : Es) (n : Nat)
  | dm (m : DM) (o a : E)
  | isn (neg : Bool) (e : E)
  | tupX (e : E)
  | trip (a b c : E)
  | weak (e : E)
  | tix (o a : E)
  | catM (a b : E)
  | lam (i : Nat) (e : E)
  | fnv (f : Nat) (x : Str)
  | callV (i : Nat) (es : Es)
  | comp2 (mu : Bool) (elt : E) (tg : Tn) (ik : Ik) (its ifs : Es) (tg1 : Tn) (ik1 : Ik) (its1 ifs1 : Es) (own own1 : List Nat)
  deriving DecidableEq
inductive Es where
  | nil
  | cons (e : E) (es : Es)
  deriving DecidableEq
end

/-- targets of an assignment -/
inductive Tg where
  | name (i : Nat)
  | sub (o i : E)
mutual
inductive S where
  | pass
  | ret (e : E)
  | retN
  | asg (t : Tg) (e : E)
  | tup (ts : List Tg) (e : E)
  | par (is : List Nat) (es : Es)
  | par3 (is : List Nat) (es : Es)
  | aug (i : Nat) (op : Operator) (e : E)
  | ex (e : E)
  | ifs (c : E) (a b : Ss)
  | for_ (t : Tn) (ik : Ik) (its : Es) (body : Ss)
  | whil (c : E) (body : Ss)
  | brk
  | cnt
  | never
  | freeze (i : Nat)
inductive Ss where
  | nil
  | cons (s : S) (ss : Ss)
end

structure Fn where
  name : Str
  ps : List Str
  N : List Str
  pure : Bool
  body : Ss
  dfl : List D
  kss : List (List Nat × List Nat)
  lm : Bool
structure Gm where
  fns : List Fn
  consts : List (Str × D)
  bts : List Str
  excs : List (Str × Option Str)
  lams : List Nat := []

/-! ### data -/
def sizeMax : Nat := 16777216
def conD : Const → Option D
  | .none => some .none
  | .bool b => some (.bool b)
  | .int i => some (.int i)
  | .str s => some (.str s)
  | _ => none
def cmulOk (i j : Int) : Bool := (decide (-(2 ^ 64) < i) && decide (i < 2 ^ 64)) || (decide (-(2 ^ 64) < j) && decide (j < 2 ^ 64))
def binD : Operator → D → D → Option D
  | .Add, .int i, .int j => some (.int (i + j))
  | .Sub, .int i, .int j => some (.int (i - j))
  | .Mult, .int i, .int j => if cmulOk i j then some (.int (i * j)) else none
  | .FloorDiv, .int i, .int j => if j ≠ 0 ∧ j.natAbs < 1073741824 then some (.int (i.fdiv j)) else none
  | .Mod, .int i, .int j => if j ≠ 0 then some (.int (i.fmod j)) else none
  | .Pow, .int i, .int j => if 0 ≤ j ∧ j ≤ 1000000 ∧ i.natAbs < 2 ^ 64 then some (.int (i ^ j.toNat)) else none
  | .Add, .str a, .str b => if a.length + b.length ≤ sizeMax then some (.str (a ++ b)) else none
  | .Add, .list a, .list b => if a.length + b.length ≤ sizeMax then some (.list (a ++ b)) else none
  | .Add, .tuple a, .tuple b => if a.length + b.length ≤ sizeMax then some (.tuple (a ++ b)) else none
  | _, _, _ => none
def augD : Operator → D → D → Option D
  | .Add, .int i, .int j => some (.int (i + j))
  | .Sub, .int i, .int j => some (.int (i - j))
  | .Mult, .int i, .int j => if cmulOk i j then some (.int (i * j)) else none
  | .Add, .str a, .str b => if a.length + b.length ≤ sizeMax then some (.str (a ++ b)) else none
  | _, _, _ => none
def scalD : D → D → Bool
  | .none, .none => true | .none, .int _ => true | .int _, .none => true | .none, .bool _ => true | .bool _, .none => true | .none, .str _ => true | .str _, .none => true
  | .int _, .int _ => true | .bool _, .bool _ => true | .str _, .str _ => true
  | .int _, .str _ => true | .str _, .int _ => true | .bool _, .str _ => true | .str _, .bool _ => true
  | _, _ => false
def eqOk (a b : D) : Bool := scalD a b || (SeqAt.shaped a && SeqAt.shaped b)
def eqD (a b : D) : Option Bool := if eqOk a b then some (PyData.eqv a b) else none
def flatD : D → Bool
  | .none | .bool _ | .int _ | .str _ => true
  | _ => false
def memD (x : D) (ys : List D) : Bool := ys.any fun y => PyData.eqv y x
def inD : D → D → Option Bool
  | .str x, .str y => some (!(Builtin.Str.occurrences y x 0 y.length 1).isEmpty)
  | x, .list ys => if flatD x && ys.all flatD then some (memD x ys) else none
  | x, .tuple ys => if flatD x && ys.all flatD then some (memD x ys) else none
  | _, _ => none
def isNoneD : D → Bool
  | .none => true
  | _ => false
def cmpD : CmpOp → D → D → Option Bool
  | .Eq, a, b => eqD a b
  | .NotEq, a, b => (eqD a b).map not
  | .Lt, .int i, .int j => some (decide (i < j))
  | .LtE, .int i, .int j => some (decide (i ≤ j))
  | .Gt, .int i, .int j => some (decide (j < i))
  | .GtE, .int i, .int j => some (decide (j ≤ i))
  | .Is, a, .none => some (isNoneD a)
  | .Is, .bool a, .bool b => some (decide (a = b))
  | .IsNot, .bool a, .bool b => some (!decide (a = b))
  | .IsNot, a, .none => some (!isNoneD a)
  | .In, a, b => inD a b
  | .NotIn, a, b => (inD a b).map not
  | _, _, _ => none
/-- the items of a sequence -/
def itemsU : U → Store → Option (List U)
  | .d (.list xs), _ => some (xs.map .d)
  | .d (.tuple xs), _ => some (xs.map .d)
  | .d (.str s), _ => if s.length ≤ sizeMax then some (s.cps.toList.map fun c => .d (.str ⟨#[c]⟩)) else none
  | _, _ => none
def isKey (k : Str) : D → Bool
  | .str s => decide (s = k)
  | _ => false
def lookD : List (D × D) → Str → Option D
  | [], _ => none
  | p :: r, k => if isKey k p.1 then some p.2 else lookD r k
def ixU : U → U → Store → Option U
  | .d (.dict kvs), .d (.str k), _ => (lookD kvs k).map .d
  | .d (.list xs), .d (.int i), _ => (L2.atI xs i).map .d
  | .d (.tuple xs), .d (.int i), _ => (L2.atI xs i).map .d
  | .d (.str s), .d (.int i), _ => if s.length ≤ sizeMax then (L2.atI s.cps.toList i).map fun c => .d (.str ⟨#[c]⟩) else none
  | .m n, .d (.int i), st => match st[n]? with
    | some (.lst xs) => L2.atI xs i
    | _ => none
  | _, _, _ => none
def toDs : List U → Option (List D)
  | [] => some []
  | .d x :: us => (toDs us).map (x :: ·)
  | _ :: _ => none
/-- what a dict with such keys holds -/
def dictU (ks : List Str) (us : List U) : Option U := match toDs us with
  | some ds => if ks.length = ds.length then some (.d (.dict ((ks.map PyData.str).zip ds))) else none
  | none => none
/-- a list written out, so many times -/
def repU (n : Nat) (us : List U) : Option U := match toDs us with
  | some ds => if ds.length ≤ sizeMax ∧ ds.length * n ≤ sizeMax then some (.d (.list (List.replicate n ds).flatten)) else none
  | none => none
def sl {α : Type} (xs : List α) (lo hi : Option Int) : List α := (xs.drop (HT.sIx xs.length 0 lo)).take (HT.sIx xs.length xs.length hi - HT.sIx xs.length 0 lo)
def slU (u : U) (lo hi : Option Int) (st : Store) : Option U := match u with
  | .d (.list xs) => some (.d (.list (sl xs lo hi)))
  | .d (.tuple xs) => some (.d (.tuple (sl xs lo hi)))
  | .m n => match st[n]? with
    | some (.lst us) => (toDs us).map fun xs => .d (.list (sl xs lo hi))
    | _ => none
  | _ => none
def tyName : D → String
  | .none => "NoneType" | .bool _ => "bool" | .int _ => "int" | .str _ => "str" | .list _ => "list" | .tuple _ => "tuple" | .dict _ => "dict"
def isTy (t : String) (x : D) : Option Bool := L2.kitB (tyName x) t
/-- the sum of a list of ints -/
def toInts : List D → Option (List Int)
  | [] => some []
  | .int i :: ds => (toInts ds).map (i :: ·)
  | _ :: _ => none
def toBools : List D → Option (List Bool)
  | [] => some []
  | .bool i :: ds => (toBools ds).map (i :: ·)
  | _ :: _ => none
def reprOk (d : D) : Bool := PyData.showable d && !PyData.hasDict d && decide (PyData.depth d ≤ 64) && decide ((PyData.shown d).length + 64 ≤ sizeMax)
def noneU : U → Bool
  | .d x => isNoneD x
  | _ => false
/-- two lists behind one another, as a thing of the store -/
def catU (x y : U) (st : Store) : R U := match x, y with
  | .d (.list xs), .d (.list ys) => if xs.length + ys.length ≤ sizeMax then .ok (.m st.length) (st ++ [.lst ((xs ++ ys).map .d)]) else .stuck
  | _, _ => .stuck
def weakU : U → U
  | .s (.x xs) => .d (.tuple xs)
  | u => u
def tupXU : U → Option U
  | .d (.list xs) => some (.s (.x xs))
  | _ => none
def tripU : U → U → U → Option U
  | .d a, .d b, .s (.x xs) => some (.s (.t3 a b xs))
  | _, _, _ => none
/-- the first place -/
def placeD (xs : List D) (d : D) : Option Nat := xs.findIdx? fun z => PyData.eqv z d
def isX : U → Bool
  | .s (.x _) => true
  | _ => false
def tixU : U → U → Option U
  | .s (.x xs), .d d => if SeqAt.shaped (.tuple xs) && SeqAt.shaped d then (placeD xs d).map fun j => .d (.int (j : Nat)) else none
  | _, _ => none
/-- the receiver is of the method's type -/
def dmOk : DM → U → Bool
  | .split, .d (.str _) => true
  | .count, .d (.list _) => true
  | _, _ => false
def dmD : DM → D → D → Option D
  | .split, .str a, .str b => if (b.length == 0) = false ∧ a.length + 2 ≤ sizeMax then some (.list ((PySem.Txt.split a b).map .str)) else none
  | .count, .list xs, d => if SeqAt.shaped (.list xs) && SeqAt.shaped d then some (.int (xs.countP fun z => PyData.eqv z d : Nat)) else none
  | _, _, _ => none
def dmU (m : DM) (x y : U) : Option U := match x, y with
  | .d a, .d b => (dmD m a b).map .d
  | _, _ => none
def bfD : Bf → List U → Store → R U
  | .len, [.d (.list xs)], st => .ok (.d (.int xs.length)) st
  | .len, [.d (.tuple xs)], st => .ok (.d (.int xs.length)) st
  | .len, [.d (.str s)], st => if s.length ≤ sizeMax then .ok (.d (.int s.length)) st else .stuck
  | .len, [.m n], st => match st[n]? with
    | some (.lst xs) => .ok (.d (.int xs.length)) st
    | _ => .stuck
  | .int, [.d (.int i)], st => .ok (.d (.int i)) st
  | .int, [.d (.bool b)], st => .ok (.d (.int (if b then 1 else 0))) st
  | .abs, [.d (.int i)], st => .ok (.d (.int (if i < 0 then -i else i))) st
  | .repr, [.d x], st => if reprOk x then .ok (.d (.str (PyData.shown x))) st else .stuck
  | .divmod, [.d (.int i), .d (.int j)], st => if 0 < j ∧ j < 1073741824 then .ok (.d (.tuple [.int (i / j), .int (i % j)])) st else .stuck
  | .tuple, [.d (.list xs)], st => .ok (.d (.tuple xs)) st
  | .tuple, [.d (.tuple xs)], st => .ok (.d (.tuple xs)) st
  | .tuple, [.m n], st => match st[n]? with
    | some (.lst us) => match toDs us with
      | some ds => .ok (.d (.tuple ds)) st
      | none => .stuck
    | _ => .stuck
  | .list mu, [.d (.list xs)], st => if mu then .ok (.m st.length) (st ++ [.lst (xs.map .d)]) else .ok (.d (.list xs)) st
  | .list mu, [.d (.tuple xs)], st => if mu then .ok (.m st.length) (st ++ [.lst (xs.map .d)]) else .ok (.d (.list xs)) st
  | .sum, [.d (.list xs)], st => match toInts xs with
    | some ns => .ok (.d (.int ns.sum)) st
    | none => .stuck
  | .any, [.d (.list xs)], st => match toBools xs with
    | some bs => .ok (.d (.bool (bs.any id))) st
    | none => .stuck
  | .all, [.d (.list xs)], st => match toBools xs with
    | some bs => .ok (.d (.bool (bs.all id))) st
    | none => .stuck
  | .max2, [.d (.int i), .d (.int j)], st => .ok (.d (.int (if j > i then j else i))) st
  | .min2, [.d (.int i), .d (.int j)], st => .ok (.d (.int (if j < i then j else i))) st
  | _, _, _ => .stuck
def m0D : M0 → U → Store → R U
  | .pop, .m n, st => match st[n]? with
    | some (.lst us) => match us[us.length - 1]? with
      | some u => .ok u (st.set n (.lst us.dropLast))
      | none => .stuck
    | _ => .stuck
  | .pop, _, _ => .stuck
/-- the receiver is of the method's type, ahead of the argument -/
def r1Ok : M1 → U → Store → Bool
  | .append, .m n, st => match st[n]? with
    | some (.lst _) => true
    | _ => false
  | .append, _, _ => false
def m1D : M1 → U → U → Store → R U
  | .append, .m n, u, st => match st[n]? with
    | some (.lst us) => if us.length < sizeMax then .ok (.d .none) (st.set n (.lst (us ++ [u]))) else .stuck
    | _ => .stuck
  | .append, _, _, _ => .stuck

/-! ### environments -/
def setE (i : Nat) (u : U) (ε : Env) : Env := ε.set i (some u)
def setEs : List Nat → List U → Env → Option Env
  | [], [], ε => some ε
  | i :: is, u :: us, ε => setEs is us (setE i u ε)
  | _, _, _ => none
def setTn : Tn → U → Env → Option Env
  | .one i, u, ε => some (setE i u ε)
  | .tup is, .d (.tuple xs), ε => if xs.length = is.length then setEs is (xs.map .d) ε else none
  | .tup is, .d (.list xs), ε => if xs.length = is.length then setEs is (xs.map .d) ε else none
  | .nest i js, .d (.tuple [a, .tuple xs]), ε => if xs.length = js.length then setEs js (xs.map .d) (setE i (.d a) ε) else none
  | _, _, _ => none
def wipeE (ε : Env) : List Nat → Env
  | [] => ε
  | v :: vs => (wipeE ε vs).set v none

/-! ### loops -/
/-- what an iterable yields -/
def enumD : Nat → List D → List D
  | _, [] => []
  | n, x :: xs => .tuple [.int n, x] :: enumD (n + 1) xs
def zipD : List D → List D → List D
  | x :: xs, y :: ys => .tuple [x, y] :: zipD xs ys
  | _, _ => []
def rangeU (lo : Int) : Nat → List U
  | 0 => []
  | n + 1 => .d (.int lo) :: rangeU (lo + 1) n
def wVal : List U → Store → Option (List U)
  | [u], st => itemsU u st
  | _, _ => none
def wR1 : List U → Option (List U)
  | [.d (.int j)] => if -(2 ^ 62) ≤ j ∧ j < 2 ^ 62 then some (rangeU 0 j.toNat) else none
  | _ => none
def wR2 : List U → Option (List U)
  | [.d (.int i), .d (.int j)] => if -(2 ^ 62) ≤ i ∧ i < 2 ^ 62 ∧ -(2 ^ 62) ≤ j ∧ j < 2 ^ 62 then some (rangeU i (j - i).toNat) else none
  | _ => none
def wEnum : List U → Option (List U)
  | [.d (.tuple xs)] => some ((enumD 0 xs).map .d)
  | [.d (.list xs)] => some ((enumD 0 xs).map .d)
  | _ => none
def signsD (s : Str) : List D := s.cps.toList.map fun c => .str ⟨#[c]⟩
def wZip : List U → Option (List U)
  | [.d (.str s), .d (.tuple ys)] => some ((zipD (signsD s) ys).map .d)
  | [.d (.list xs), .d (.list ys)] => some ((zipD xs ys).map .d)
  | [.d (.tuple xs), .d (.tuple ys)] => some ((zipD xs ys).map .d)
  | _ => none
def walkU (ik : Ik) (us : List U) (st : Store) : Option (List U) := match ik with
  | .val => wVal us st
  | .r1 => wR1 us
  | .r2 => wR2 us
  | .enum => wEnum us
  | .zip => wZip us
/-- a for -/
def forLoop (set : U → Env → Option Env) (body : Env → Store → RS) : List U → Env → Store → RS
  | [], ε, st => .nx ε st
  | u :: us, ε, st => match set u ε with
    | none => .stuck
    | some ε1 => match body ε1 st with
      | .nx ε2 st2 => forLoop set body us ε2 st2
      | .cnt ε2 st2 => forLoop set body us ε2 st2
      | .brk ε2 st2 => .nx ε2 st2
      | r => r
/-- a while, with so many turns at most -/
def whileLoop (c : Env → Store → R U) (body : Env → Store → RS) : Nat → Env → Store → RS
  | 0, _, _ => .stuck
  | n + 1, ε, st => (c ε st).bindS ε fun u st1 => match u with
    | .d (.bool true) => match body ε st1 with
      | .nx ε2 st2 => whileLoop c body n ε2 st2
      | .cnt ε2 st2 => whileLoop c body n ε2 st2
      | .brk ε2 st2 => .nx ε2 st2
      | r => r
    | .d (.bool false) => .nx ε st1
    | _ => .stuck
/-- a comprehension: the items made, from the left -/
def compLoop (f : U → Store → R (Option U)) : List U → List U → Store → R (List U)
  | [], acc, st => .ok acc st
  | u :: us, acc, st => (f u st).bind fun o st1 => match o with
    | none => compLoop f us acc st1
    | some x => if acc.length < sizeMax then compLoop f us (acc ++ [x]) st1 else .stuck

/-- a comprehension's outer turns -/
def compLoopA (f : U → List U → Store → R (List U)) : List U → List U → Store → R (List U)
  | [], acc, st => .ok acc st
  | u :: us, acc, st => (f u acc st).bind fun acc1 st1 => compLoopA f us acc1 st1
/-- what a comprehension's tests say -/
def tstB : List U → Option Bool
  | [] => some true
  | [.d (.bool b)] => some b
  | _ => none

/-- builtins by their names -/
def bfName : Bf → Str
  | .len => "len" | .int => "int" | .abs => "abs" | .repr => "repr" | .divmod => "divmod" | .tuple => "tuple" | .list _ => "list" | .sum => "sum" | .any => "any" | .all => "all"
  | .max2 => "max" | .min2 => "min"
def m0Name : M0 → Str
  | .pop => "pop"
def m1Name : M1 → Str
  | .append => "append"

/-- no thing of the store from k on -/
def lowU (k : Nat) : U → Bool
  | .m n => decide (n < k)
  | _ => true
def lowC (k : Nat) : Cell → Bool
  | .lst us => us.all (lowU k)
  | .dead => true
/-- behind a def's call the store is as long as it was -/
def cutStore (k : Nat) : R U → R U
  | .ok u st => if st.length = k then .ok u st else if lowU k u && (st.take k).all (lowC k) then .ok u (st.take k) else .ok u st
  | .exc c x st => if st.length = k then .exc c x st else if (st.take k).all (lowC k) then .exc c x (st.take k) else .exc c x st
  | .stuck => .stuck

section
variable (G : Gm) (W : Nat) (cp : Nat → List D → R D) (cm : Nat → List U → Store → R U)

/-- a call of a def: pure ones see data alone -/
def callU (f : Nat) (us : List U) (st : Store) : R U := match G.fns[f]? with
  | none => .stuck
  | some F => if F.pure then match toDs us with
      | none => .stuck
      | some ds => match cp f ds with
        | .ok x _ => .ok (.d x) st
        | .exc c x _ => .exc c x st
        | .stuck => .stuck
    else cm f us st

/-- a call of a function that is at hand -/
def okF (h : Fv) : Bool := match h with
  | .lam _ => true
  | .def_ f x => match G.fns[f]? with
    | some F => decide (F.name = x) && decide (x ≠ "<lambda>")
    | none => false
def callF (h : Fv) (us : List U) (st : Store) : R U := match h with
  | .lam i => match G.lams[i]? with
    | some g => callU G cp cm g us st
    | none => .stuck
  | .def_ f _ => callU G cp cm f us st
def allocL (mu : Bool) (us : List U) (st : Store) : R U :=
  if mu then .ok (.m st.length) (st ++ [.lst us]) else match toDs us with
    | some ds => .ok (.d (.list ds)) st
    | none => .stuck
def ofO {α : Type} (o : Option α) (st : Store) : R α := match o with
  | some a => .ok a st
  | none => .stuck
def b2 (o : Option Bool) (st : Store) : R U := match o with
  | some b => .ok (.d (.bool b)) st
  | none => .stuck
def partI (us : List U) (st : Store) : R (Option Int) := match us with
  | [] => .ok none st
  | [.d (.int i)] => .ok (some i) st
  | _ => .stuck
/-- the arguments in the parameters' order: js tells for each parameter which of the keywords it is -/
def pick {α : Type} (us : List α) : List Nat → Option (List α)
  | [] => some []
  | j :: js => match us[j]?, pick us js with
    | some a, some r => some (a :: r)
    | _, _ => none
mutual
def evE : E → Env → Store → R U
  | .con c, _, st => match conD c with
    | some x => .ok (.d x) st
    | none => .stuck
  | .var i, ε, st => match ε[i]? with
    | some (some u) => .ok u st
    | _ => .stuck
  | .glob g, _, st => match G.consts[g]? with
    | some p => .ok (.d p.2) st
    | none => .stuck
  | .bin op a b, ε, st => (evE a ε st).bind fun x st1 => (evE b ε st1).bind fun y st2 => match x, y with
    | .d x, .d y => ofO ((binD op x y).map .d) st2
    | _, _ => .stuck
  | .neg a, ε, st => (evE a ε st).bind fun x st1 => match x with
    | .d (.int i) => .ok (.d (.int (-i))) st1
    | _ => .stuck
  | .not_ a, ε, st => (evE a ε st).bind fun x st1 => match x with
    | .d (.bool b) => .ok (.d (.bool (!b))) st1
    | _ => .stuck
  | .cmp op a b, ε, st => (evE a ε st).bind fun x st1 => (evE b ε st1).bind fun y st2 => match x, y with
    | .d x, .d y => b2 (cmpD op x y) st2
    | _, _ => .stuck
  | .chain op op2 a b c, ε, st => (evE a ε st).bind fun x st1 => (evE b ε st1).bind fun y st2 => match x, y with
    | .d x, .d y => match cmpD op x y with
      | some true => (evE c ε st2).bind fun z st3 => match z with
        | .d z => b2 (cmpD op2 y z) st3
        | _ => .stuck
      | some false => .ok (.d (.bool false)) st2
      | none => .stuck
    | _, _ => .stuck
  | .and_ a b, ε, st => (evE a ε st).bind fun x st1 => match x with
    | .d (.bool true) => evE b ε st1
    | .d (.bool false) => .ok (.d (.bool false)) st1
    | _ => .stuck
  | .or_ a b, ε, st => (evE a ε st).bind fun x st1 => match x with
    | .d (.bool true) => .ok (.d (.bool true)) st1
    | .d (.bool false) => evE b ε st1
    | _ => .stuck
  | .ite c a b, ε, st => (evE c ε st).bind fun x st1 => match x with
    | .d (.bool true) => evE a ε st1
    | .d (.bool false) => evE b ε st1
    | _ => .stuck
  | .tup es, ε, st => (evEs es ε st).bind fun us st1 => match toDs us with
    | some ds => if ds.length ≤ sizeMax then .ok (.d (.tuple ds)) st1 else .stuck
    | none => .stuck
  | .lst mu es, ε, st => (evEs es ε st).bind fun us st1 => if us.length ≤ sizeMax then allocL mu us st1 else .stuck
  | .ix a b, ε, st => (evE a ε st).bind fun x st1 => (evE b ε st1).bind fun y st2 => ofO (ixU x y st2) st2
  | .slice a lo hi, ε, st => (evE a ε st).bind fun x st1 => ((evEs lo ε st1).bind partI).bind fun l st2 => ((evEs hi ε st2).bind partI).bind fun h st3 => ofO (slU x l h st3) st3
  | .call f es, ε, st => (evEs es ε st).bind fun us st1 => callU G cp cm f us st1
  | .callK f ks js es, ε, st => (evEs es ε st).bind fun us st1 => match pick us js with
    | some vs => callU G cp cm f vs st1
    | none => .stuck
  | .bcall b es, ε, st => (evEs es ε st).bind fun us st1 => bfD b us st1
  | .isty t e, ε, st => (evE e ε st).bind fun u st1 => match u with
    | .d x => b2 (isTy t.name x) st1
    | _ => .stuck
  | .meth0 m o, ε, st => (evE o ε st).bind fun x st1 => m0D m x st1
  | .meth1 m o a, ε, st => (evE o ε st).bind fun x st1 => if r1Ok m x st1 then (evE a ε st1).bind fun u st2 => m1D m x u st2 else .stuck
  | .comp mu elt tg ik its ifs own, ε, st => ((evEs its ε st).bind fun us st1 => ofO (walkU ik us st1) st1).bind fun items st1 => (compLoop (fun u st2 => match setTn tg u (wipeE ε own) with
        | none => .stuck
        | some ε1 => (evEs ifs ε1 st2).nox.bind fun bs st3 => match bs with
          | [] => (evE elt ε1 st3).nox.bind fun x st4 => .ok (some x) st4
          | [.d (.bool true)] => (evE elt ε1 st3).nox.bind fun x st4 => .ok (some x) st4
          | [.d (.bool false)] => .ok none st3
          | _ => .stuck) items [] st1).bind fun acc st5 => allocL mu acc st5
  | .dict ks es, ε, st => (evEs es ε st).bind fun us st1 => ofO (dictU ks us) st1
  | .isn neg e, ε, st => (evE e ε st).bind fun x st1 => .ok (.d (.bool (neg != noneU x))) st1
  | .catM a b, ε, st => (evE a ε st).bind fun x st1 => (evE b ε st1).bind fun y st2 => catU x y st2
  | .tupX e, ε, st => (evE e ε st).bind fun x st1 => ofO (tupXU x) st1
  | .trip a b d, ε, st => (evE a ε st).bind fun x st1 => (evE b ε st1).bind fun y st2 => (evE d ε st2).bind fun z st3 => ofO (tripU x y z) st3
  | .weak e, ε, st => (evE e ε st).bind fun x st1 => .ok (weakU x) st1
  | .tix o a, ε, st => (evE o ε st).bind fun x st1 => if isX x then (evE a ε st1).bind fun u st2 => ofO (tixU x u) st2 else .stuck
  | .dm m o a, ε, st => (evE o ε st).bind fun x st1 => if dmOk m x then (evE a ε st1).bind fun u st2 => ofO (dmU m x u) st2 else .stuck
  | .lam i _, _, st => .ok (.f (.lam i)) st
  | .fnv f x, _, st => .ok (.f (.def_ f x)) st
  | .callV i es, ε, st => match ε[i]? with
    | some (some (.f h)) => if okF G h then (evEs es ε st).bind fun us st1 => callF G cp cm h us st1 else .stuck
    | _ => .stuck
  | .rep es n, ε, st => (evEs es ε st).bind fun us st1 => ofO (repU n us) st1
  | .comp2 mu elt tg ik its ifs tg1 ik1 its1 ifs1 own own1, ε, st => ((evEs its ε st).bind fun us st1 => ofO (walkU ik us st1) st1).bind fun items st1 => (compLoopA (fun u acc st2 => match setTn tg u (wipeE ε own) with
        | none => .stuck
        | some ε1 => (evEs ifs ε1 st2).nox.bind fun bs st3 => match tstB bs with
          | some true => ((evEs its1 ε1 st3).bind fun us st4 => ofO (walkU ik1 us st4) st4).nox.bind fun items1 st5 => compLoop (fun u st2 => match setTn tg1 u (wipeE ε1 own1) with
            | none => .stuck
            | some ε2 => (evEs ifs1 ε2 st2).nox.bind fun bs st3 => match bs with
              | [] => (evE elt ε2 st3).nox.bind fun x st4 => .ok (some x) st4
              | [.d (.bool true)] => (evE elt ε2 st3).nox.bind fun x st4 => .ok (some x) st4
              | [.d (.bool false)] => .ok none st3
              | _ => .stuck) items1 acc st5
          | some false => .ok acc st3
          | none => .stuck) items [] st1).bind fun acc st5 => allocL mu acc st5
def evEs : Es → Env → Store → R (List U)
  | .nil, _, st => .ok [] st
  | .cons e es, ε, st => (evE e ε st).bind fun u st1 => (evEs es ε st1).bind fun us st2 => .ok (u :: us) st2
end

def setSub (o i v : U) (st : Store) : R Unit := match o, i with
  | .m n, .d (.int k) => match st[n]? with
    | some (.lst us) => match L2.ixN us.length k with
      | some j => .ok () (st.set n (.lst (us.set j v)))
      | none => .stuck
    | _ => .stuck
  | _, _ => .stuck
def asgTg (t : Tg) (u : U) (ε : Env) (st : Store) : RS := match t with
  | .name i => .nx (setE i u ε) st
  | .sub o i => (evE G cp cm o ε st).bindS ε fun ov st1 => (evE G cp cm i ε st1).bindS ε fun iv st2 => (setSub ov iv u st2).bindS ε fun _ st3 => .nx ε st3
def asgTgs : List Tg → List U → Env → Store → RS
  | [], [], ε, st => .nx ε st
  | t :: ts, u :: us, ε, st => match asgTg G cp cm t u ε st with
    | .nx ε1 st1 => asgTgs ts us ε1 st1
    | r => r
  | _, _, _, _ => .stuck

mutual
def exS : S → Env → Store → RS
  | .pass, ε, st => .nx ε st
  | .ret e, ε, st => (evE G cp cm e ε st).bindS ε fun u st1 => .ret u st1
  | .retN, _, st => .ret (.d .none) st
  | .asg t e, ε, st => (evE G cp cm e ε st).bindS ε fun u st1 => asgTg G cp cm t u ε st1
  | .tup ts e, ε, st => (evE G cp cm e ε st).bindS ε fun u st1 => match u with
    | .s (.t3 a b xs) => if ts.length = 3 then asgTgs G cp cm ts [.d a, .d b, .s (.x xs)] ε st1 else .stuck
    | .d (.tuple xs) => if xs.length = ts.length then asgTgs G cp cm ts (xs.map .d) ε st1 else .stuck
    | _ => .stuck
  | .par is es, ε, st => (evEs G cp cm es ε st).bindS ε fun us st1 => match setEs is us ε with
    | some ε1 => .nx ε1 st1
    | none => .stuck
  | .par3 is es, ε, st => (evEs G cp cm es ε st).bindS ε fun us st1 => match setEs is us ε with
    | some ε1 => .nx ε1 st1
    | none => .stuck
  | .aug i op e, ε, st => match ε[i]? with
    | some (some (.d x)) => (evE G cp cm e ε st).bindS ε fun u st1 => match u with
      | .d y => match augD op x y with
        | some z => .nx (setE i (.d z) ε) st1
        | none => .stuck
      | _ => .stuck
    | _ => .stuck
  | .ex e, ε, st => (evE G cp cm e ε st).bindS ε fun _ st1 => .nx ε st1
  | .ifs c a b, ε, st => (evE G cp cm c ε st).bindS ε fun u st1 => match u with
    | .d (.bool true) => exSs a ε st1
    | .d (.bool false) => exSs b ε st1
    | _ => .stuck
  | .for_ t ik its body, ε, st => ((evEs G cp cm its ε st).bind fun us st1 => ofO (walkU ik us st1) st1).bindS ε fun items st1 => forLoop (setTn t) (fun ε1 st2 => exSs body ε1 st2) items ε st1
  | .whil c body, ε, st => whileLoop (fun ε1 st1 => evE G cp cm c ε1 st1) (fun ε1 st1 => exSs body ε1 st1) W ε st
  | .brk, ε, st => .brk ε st
  | .cnt, ε, st => .cnt ε st
  | .never, _, _ => .stuck
  | .freeze i, ε, st => match ε[i]? with
    | some (some (.m n)) => match st[n]? with
      | some (.lst us) => match toDs us with
        | some ds => .nx (setE i (.d (.list ds)) ε) (st.set n .dead)
        | none => .stuck
      | _ => .stuck
    | _ => .stuck
def exSs : Ss → Env → Store → RS
  | .nil, ε, st => .nx ε st
  | .cons s ss, ε, st => match exS s ε st with
    | .nx ε1 st1 => exSs ss ε1 st1
    | r => r
end
end

/-- a def's run -/
def fin (r : RS) : R U := match r with
  | .nx _ st => .ok (.d .none) st
  | .ret u st => .ok u st
  | .exc c x _ st => .exc c x st
  | _ => .stuck
def fill (F : Fn) (us : List U) : List U := us ++ (F.dfl.drop (F.dfl.length - (F.ps.length - us.length))).map .d
def startE (F : Fn) (us : List U) : Env := us.map some ++ List.replicate (F.N.length - us.length) none
def lowR : R U → R D
  | .ok (.d x) st => .ok x st
  | .ok _ _ => .stuck
  | .exc c x st => .exc c x st
  | .stuck => .stuck
def callRaw (G : Gm) (W : Nat) : Nat → Nat → List U → Store → R U
  | 0, _, _, _ => .stuck
  | k + 1, f, us, st => match G.fns[f]? with
    | none => .stuck
    | some F => if (fill F us).length = F.ps.length then
        fin (exSs G W (fun g ds => lowR (callRaw G W k g (ds.map .d) [])) (fun g vs st1 => cutStore st1.length (callRaw G W k g vs st1)) F.body (startE F (fill F us)) st)
      else .stuck
/-- a pure def upon data; any def upon things at hand -/
def callP (G : Gm) (W k f : Nat) (ds : List D) : R D := lowR (callRaw G W k f (ds.map .d) [])
def callM (G : Gm) (W k f : Nat) (us : List U) (st : Store) : R U := cutStore st.length (callRaw G W k f us st)
/-! ### the given text is this syntax -/
structure Ct where
  N : List Str
  sc : Scope
  sv : Str → Bool
  lm : Bool
def visB (sc : Scope) (x : Str) : Bool := match sc.names.lookup x with
  | some .local => true | some .cell => true | some .free => true
  | _ => false
def locB (sc : Scope) (x : Str) : Bool := match sc.names.lookup x with
  | some .local => true | some .cell => true
  | _ => false
def glB (sc : Scope) (x : Str) : Bool := match sc.names.lookup x with
  | some .globalImplicit => true
  | _ => false
def isE {α : Type} [DecidableEq α] (o : Option α) (x : α) : Bool := decide (o = some x)
def nmOk (x : Str) : Bool := decide ((x == ("__debug__" : Str)) = false) && decide ((x == ("__classdict__" : Str)) = false)
def chkName (c : Ct) (i : Nat) (x : Str) : Bool := isE c.N[i]? x && visB c.sc x && nmOk x
def stName (c : Ct) (i : Nat) (x : Str) : Bool := isE c.N[i]? x && c.sv x
def chkTns (c : Ct) : List Nat → List Expr → Bool
  | [], [] => true
  | i :: is, .Name x _ :: es => stName c i x && chkTns c is es
  | _, _ => false
def chkNest (c : Ct) (i : Nat) (js : List Nat) : List Expr → Bool
  | [.Name x _, .Tuple es _ _] => stName c i x && chkTns c js es
  | _ => false
def chkTn (c : Ct) : Tn → Expr → Bool
  | .nest i js, .Tuple es _ _ => chkNest c i js es
  | .one i, .Name x _ => stName c i x
  | .tup is, .Tuple es _ _ => chkTns c is es
  | _, _ => false
def tnSlots : Tn → List Nat
  | .one i => [i]
  | .tup is => is
  | .nest i js => i :: js
def blkCt (c : Ct) (scope : Scope) : Ct := ⟨c.N, L2.relS scope c.sc, fun x => locB scope x, false⟩
def ownOf (c : Ct) (own : List Nat) : List (Str × Nat) := own.map fun i => (c.N.getD i ⟨#[]⟩, i)
/-- keyword names: of the parameters ks of a def -/
def chkKw (ps : List Str) : List Nat → List Keyword → Bool
  | [], [] => true
  | k :: ks, ⟨some n, _, _⟩ :: r => isE ps[k]? n && chkKw ps ks r
  | _, _ => false
def kwVals : List Keyword → List Expr
  | [] => []
  | ⟨_, v, _⟩ :: r => v :: kwVals r

/-- keys that are texts written out -/
def keysB : List Str → List (Option Expr) → Bool
  | [], [] => true
  | k :: ks, some (.Constant (.str k') _ _) :: r => decide (k = k') && keysB ks r
  | _, _ => false
def isVarE : Expr → Bool
  | .Name .. => true
  | _ => false
def isNon : Expr → Bool
  | .Constant .none _ _ => true
  | _ => false
def repShape (n : Nat) : Expr → Bool
  | .BinOp (.List _ _) .Mult (.Constant (.int k) _ _) _ => decide (k = (n : Int)) && decide (n ≤ 1000)
  | _ => false
def repItems : Expr → List Expr
  | .BinOp (.List xs _) _ _ _ => xs
  | _ => []
def gen2 : Expr → Option (Expr × Comprehension × Comprehension × Scope)
  | .ListComp el [g, g1] scope _ => some (el, g, g1, scope)
  | _ => none
def dictShape (ks : List Str) : Expr → Bool
  | .Dict keys vals _ => keysB ks keys && decide (ks ≠ []) && decide (ks.length ≤ 15) && decide ks.Nodup && decide (keys.length = vals.length)
  | _ => false
def dictVals : Expr → List Expr
  | .Dict _ vals _ => vals
  | _ => []
/-- the arguments of an iterable -/
def itArgs : Ik → Expr → List Expr
  | .val, a => [a]
  | _, .Call _ xs _ _ => xs
  | _, _ => []
def itName : Ik → Str
  | .r1 => "range" | .r2 => "range" | .enum => "enumerate" | .zip => "zip" | .val => ""
def isTupE : Expr → Bool
  | .Tuple .. => true
  | _ => false
/-- its outward shape -/
def itShape (ik : Ik) (iter t : Expr) (sc : Scope) (bts : List Str) : Bool := match ik, iter with
  | .val, _ => true
  | .r1, .Call (.Name x _) [_] [] _ => decide (x = "range") && glB sc x && bts.contains x
  | .r2, .Call (.Name x _) [_, _] [] _ => decide (x = "range") && glB sc x && bts.contains x
  | .enum, .Call (.Name x _) [_] [] _ => decide (x = "enumerate") && glB sc x && bts.contains x && isTupE t
  | .zip, .Call (.Name x _) [_, _] [] _ => decide (x = "zip") && glB sc x && bts.contains x && isTupE t
  | _, _ => false
section
variable (G : Gm)
def chkF (c : Ct) (f : Nat) (x : Str) : Bool := (match G.fns[f]? with
  | some F => decide (F.name = x)
  | none => false) && glB c.sc x && nmOk x && decide (x ≠ "super") && decide (x ≠ "<lambda>")
/-- a lambda's def -/
def lamFn (i : Nat) : Option Fn := match G.lams[i]? with
  | some g => G.fns[g]?
  | none => none
def retOf : Ss → Option E
  | .cons (.ret e) .nil => some e
  | _ => none
def onePar : Arguments → Option Str
  | ⟨[], [a], none, [], [], none, []⟩ => some a.arg
  | _ => none
def scopeB (N P : List Str) (sc : Scope) : Bool := decide (sc.kind = .function) && !sc.isCoroutine && !sc.isGenerator && decide N.Nodup && decide (N.take P.length = P) && P.all (fun x => decide (sc.names.lookup x = some .local)) && sc.names.all (fun y => !decide (y.2 = .free))
def lamHead (i : Nat) (e : E) (params : Arguments) (scope : Scope) : Bool := match lamFn G i with
  | some F => decide (retOf F.body = some e) && scopeB F.N F.ps scope && decide (F.ps.length = 1) && decide (onePar params = F.ps[0]?) && F.dfl.isEmpty && decide (F.name = "<lambda>")
  | none => false
def lamCt (i : Nat) (scope : Scope) : Ct := match lamFn G i with
  | some F => ⟨F.N, scope, fun x => locB scope x, false⟩
  | none => ⟨[], scope, fun x => locB scope x, false⟩
mutual
def chkE : Ct → E → Expr → Bool
  | _, .con k, .Constant k' _ _ => decide (k = k')
  | c, .var i, .Name x _ => chkName c i x
  | c, .glob g, .Name x _ => isE (G.consts[g]?.map (·.1)) x && glB c.sc x && nmOk x
  | c, .bin op a b, .BinOp l o r _ => decide (o = op) && chkE c a l && chkE c b r
  | c, .neg a, .UnaryOp .USub x _ => chkE c a x
  | c, .not_ a, .UnaryOp .Not x _ => chkE c a x
  | c, .cmp op a b, .Compare l [o] [r] _ => decide (o = op) && chkE c a l && chkE c b r
  | c, .chain op op2 a b d, .Compare l [o, o2] [r, r2] _ => decide (o = op) && decide (o2 = op2) && chkE c a l && chkE c b r && chkE c d r2
  | c, .and_ a b, .BoolOp .And [x, y] _ => chkE c a x && chkE c b y
  | c, .and_ a b, .BoolOp .And (x :: y :: z :: r) pos => chkE c a x && chkE c b (.BoolOp .And (y :: z :: r) pos)
  | c, .or_ a b, .BoolOp .Or [x, y] _ => chkE c a x && chkE c b y
  | c, .or_ a b, .BoolOp .Or (x :: y :: z :: r) pos => chkE c a x && chkE c b (.BoolOp .Or (y :: z :: r) pos)
  | c, .ite t a b, .IfExp t' a' b' _ => chkE c t t' && chkE c a a' && chkE c b b'
  | c, .tup es, .Tuple xs _ _ => chkEs c es xs
  | c, .lst _ es, .List xs _ => chkEs c es xs
  | c, .slice a lo hi, .Subscript x (.Slice l h none _) _ => chkE c a x && chkEs c lo l.toList && chkEs c hi h.toList
  | c, .ix a b, .Subscript x y _ => chkE c a x && chkE c b y
  | c, .call f es, .Call (.Name x _) xs [] _ => chkF G c f x && chkEs c es xs
  | c, .callK f ks js es, .Call (.Name x _) [] kws _ => chkF G c f x && (match G.fns[f]? with
    | some F => chkKw F.ps ks kws && F.kss.contains (ks, js) && decide (js.length = F.ps.length)
    | none => false) && chkEs c es (kwVals kws)
  | c, .isty t e, .Call (.Name x _) [a, .Name y _] [] _ => decide (x = "isinstance") && glB c.sc x && G.bts.contains x && chkE c e a && decide (y = Str.ofString t.name) && glB c.sc y && G.bts.contains y
  | c, .bcall b es, .Call (.Name x _) xs [] _ => decide (x = bfName b) && decide (xs ≠ []) && glB c.sc x && G.bts.contains x && chkEs c es xs
  | c, .meth0 m o, .Call (.Attribute x n apos) [] [] cpos => decide (n = m0Name m) && (apos.endLine == cpos.line) && chkE c o x
  | c, .meth1 m o a, .Call (.Attribute x n apos) [y] [] cpos => decide (n = m1Name m) && (apos.endLine == cpos.line) && chkE c o x && chkE c a y
  | c, .comp _ elt tg ik its ifs own, .ListComp el [⟨t, iter, fs, k⟩] scope _ => decide (k = 0) && L2.blkC c.N c.sc scope (ownOf c own) && chkTn (blkCt c scope) tg t && chkE (blkCt c scope) elt el && chkEs (blkCt c scope) ifs fs && decide (fs.length ≤ 1) && (tnSlots tg).all (own.contains ·) &&
      itShape ik iter t c.sc G.bts && chkEs c its (itArgs ik iter)
  | c, .dict ks es, x => dictShape ks x && chkEs c es (dictVals x)
  | c, .isn neg e, .Compare l [o] [r] _ => decide (o = if neg then .IsNot else .Is) && isNon r && chkE c e l
  | c, .catM a b, .BinOp l o r _ => decide (o = .Add) && chkE c a l && chkE c b r
  | c, .tupX e, .Call (.Name x _) [y] [] _ => decide (x = "tuple") && glB c.sc x && G.bts.contains x && chkE c e y
  | c, .trip a b d, .Tuple [x, y, z] _ _ => chkE c a x && chkE c b y && chkE c d z
  | c, .weak e, x => isVarE x && chkE c e x
  | c, .tix o a, .Call (.Attribute x n apos) [y] [] cpos => decide (n = "index") && (apos.endLine == cpos.line) && chkE c o x && chkE c a y
  | c, .dm m o a, .Call (.Attribute x n apos) [y] [] cpos => decide (n = dmName m) && (apos.endLine == cpos.line) && chkE c o x && chkE c a y
  | c, .lam i e, .Lambda params body scope _ => c.lm && lamHead G i e params scope && chkE (lamCt G i scope) e body
  | c, .fnv f y, .Name x _ => decide (x = y) && chkF G c f x
  | c, .callV i es, .Call (.Name x _) xs [] _ => chkName c i x && decide (xs ≠ []) && chkEs c es xs
  | c, .rep es n, x => repShape n x && chkEs c es (repItems x)
  | c, .comp2 _ elt tg ik its ifs tg1 ik1 its1 ifs1 own own1, x => match gen2 x with
    | none => false
    | some (el, g, g1, scope) => decide (g.is_async = 0) && decide (g1.is_async = 0) && L2.blkC c.N c.sc scope (ownOf c own) && chkTn (blkCt c scope) tg g.target && chkTn (blkCt c scope) tg1 g1.target && chkE (blkCt c scope) elt el && chkEs (blkCt c scope) ifs g.ifs && chkEs (blkCt c scope) ifs1 g1.ifs &&
      decide (g.ifs.length ≤ 1) && decide (g1.ifs.length ≤ 1) && (tnSlots tg).all (own.contains ·) && (tnSlots tg1).all (own1.contains ·) && own1.all (own.contains ·) &&
      itShape ik g.iter g.target c.sc G.bts && chkEs c its (itArgs ik g.iter) && itShape ik1 g1.iter g1.target (blkCt c scope).sc G.bts && chkEs (blkCt c scope) its1 (itArgs ik1 g1.iter)
  | _, _, _ => false
def chkEs : Ct → Es → List Expr → Bool
  | _, .nil, [] => true
  | c, .cons e es, x :: xs => chkE c e x && chkEs c es xs
  | _, _, _ => false
end

/-! statements -/
def isLC : Expr → Bool
  | .ListComp .. => true
  | _ => false
/-- names that the machine stores from the right: two or three different locals on one line, the values not all constants -/
def parNames (sc : Scope) (line : Nat) : List Expr → Option (List Str)
  | [] => some []
  | .Name x p :: es => if sc.names.lookup x = some .local ∧ p.line = line then (parNames sc line es).map (x :: ·) else none
  | _ :: _ => none
def chkTg (c : Ct) : Tg → Expr → Bool
  | .name i, .Name x _ => stName c i x
  | .sub o i, .Subscript a b _ => chkE G c o a && chkE G c i b
  | _, _ => false
def chkTgs (c : Ct) : List Tg → List Expr → Bool
  | [], [] => true
  | t :: ts, x :: xs => chkTg G c t x && chkTgs c ts xs
  | _, _ => false
def isNotTup (x : Expr) : Bool := !isTupE x
def chkAsg (c : Ct) (t : Tg) (e : E) (tgs : List Expr) (v : Expr) : Bool := match tgs with
  | [tg] => chkTg G c t tg && chkE G c e v && !isTupE tg
  | _ => false
def chkTup (c : Ct) (ts : List Tg) (e : E) (tgs : List Expr) (v : Expr) : Bool := match tgs with
  | [.Tuple es _ _] => chkTgs G c ts es && chkE G c e v && !isTupE v
  | _ => false
def par2 (c : Ct) (i j : Nat) (es : Es) : List Expr → List Expr → Bool
  | [.Name x px, .Name y py], [a, b] => chkEs G c es [a, b] && isE c.N[i]? x && isE c.N[j]? y && decide (i ≠ j) && decide (c.sc.names.lookup x = some .local) && decide (c.sc.names.lookup y = some .local) &&
      decide (x ≠ y) && decide (px.line = py.line) && !([a, b].all (foldedForSure 8)) && !([a, b].all (constantsAlone 8))
  | _, _ => false
def chkPar (c : Ct) (is : List Nat) (es : Es) (tgs : List Expr) (v : Expr) : Bool := match is, tgs, v with
  | [i, j], [.Tuple ts _ _], .Tuple vs _ _ => par2 G c i j es ts vs
  | _, _, _ => false
def three (c : Ct) (i j l : Nat) (es : Es) : List Expr → List Expr → Bool
  | [.Name x px, .Name y py, .Name z pz], [a, b, d] => chkEs G c es [a, b, d] && isE c.N[i]? x && isE c.N[j]? y && isE c.N[l]? z && decide (i ≠ j) && decide (i ≠ l) && decide (j ≠ l) && decide (c.sc.names.lookup x = some .local) && decide (c.sc.names.lookup y = some .local) && decide (c.sc.names.lookup z = some .local) &&
      decide (x ≠ y) && decide (x ≠ z) && decide (y ≠ z) && decide (px.line = py.line) && decide (px.line = pz.line) && !([a, b, d].all (foldedForSure 8)) && !([a, b, d].all (constantsAlone 8))
  | _, _ => false
def chkThree (c : Ct) (is : List Nat) (es : Es) (tgs : List Expr) (v : Expr) : Bool := match is, tgs, v with
  | [i, j, l], [.Tuple ts _ _], .Tuple vs _ _ => three G c i j l es ts vs
  | _, _, _ => false
def isGhost : S → Bool
  | .freeze _ => true
  | _ => false
mutual
def chkS : Ct → S → Stmt → Bool
  | _, .pass, .Pass _ => true
  | c, .ret e, .Return (some x) _ => chkE G c e x
  | _, .retN, .Return none _ => true
  | c, .asg t e, .Assign tgs v _ => chkAsg G c t e tgs v
  | c, .tup ts e, .Assign tgs v _ => chkTup G c ts e tgs v
  | c, .par is es, .Assign tgs v _ => chkPar G c is es tgs v
  | c, .par3 is es, .Assign tgs v _ => chkThree G c is es tgs v
  | c, .aug i op e, .AugAssign (.Name x _) o v _ => decide (o = op) && stName c i x && chkE G c e v
  | c, .ex e, .Expr v _ => chkE G c e v && !isLC v
  | c, .ifs t a b, .If t' a' b' _ => chkE G c t t' && chkSs c a a' && chkSs c b b'
  | c, .for_ t ik its body, .For tg iter b [] _ => chkTn c t tg && itShape ik iter tg c.sc G.bts && chkEs G c its (itArgs ik iter) && chkSs c body b
  | c, .whil t body, .While t' b [] _ => chkE G c t t' && chkSs c body b
  | _, .brk, .Break _ => true
  | _, .cnt, .Continue _ => true
  | _, .never, _ => true
  | _, _, _ => false
def chkSs : Ct → Ss → List Stmt → Bool
  | _, .nil, [] => true
  | c, .cons s ss, xs => if isGhost s then chkSs c ss xs else match xs with
    | x :: r => chkS c s x && chkSs c ss r
    | [] => false
  | _, _, _ => false
end
end
end Ev
end

section
set_option maxRecDepth 10000
set_option autoImplicit false
/-! EvB: what stands for what: data and things of the store beside the hand layer's values and heaps; the weakest wishes. -/
namespace Ev
open PySem PySem.Spec PyProof.Rows L2

section
variable {K : PySem.W.Frag}

/-! ### data beside values -/
def keyD : Key → D
  | .inl i => .int i
  | .inr s => .str s
mutual
inductive Rep (K : PySem.W.Frag) (P : Hp) : V → D → Prop
  | non : Rep K P .non .none
  | bl (b : Bool) : Rep K P (.bl b) (.bool b)
  | int (i : Int) : Rep K P (.int i) (.int i)
  | str (x : Str) : Rep K P (.str x) (.str x)
  | lst {a : Addr} {xs : List V} {ds : List D} : SqL K P a xs → RepAll K P xs ds → Rep K P (.ref a) (.list ds)
  | tup {a : Addr} {xs : List V} {ds : List D} : SqT K P a xs → RepAll K P xs ds → Rep K P (.ref a) (.tuple ds)
  | dct {a : Addr} {kvs : List (Key × V)} {ds : List (D × D)} : Rd P a (.dK kvs) → RepKv K P kvs ds → Rep K P (.ref a) (.dict ds)
inductive RepAll (K : PySem.W.Frag) (P : Hp) : List V → List D → Prop
  | nil : RepAll K P [] []
  | cons {v : V} {vs : List V} {d : D} {ds : List D} : Rep K P v d → RepAll K P vs ds → RepAll K P (v :: vs) (d :: ds)
inductive RepKv (K : PySem.W.Frag) (P : Hp) : List (Key × V) → List (D × D) → Prop
  | nil : RepKv K P [] []
  | cons {k : Key} {v : V} {vs : List (Key × V)} {d : D} {ds : List (D × D)} : Rep K P v d → RepKv K P vs ds → RepKv K P ((k, v) :: vs) ((keyD k, d) :: ds)
end

theorem Same.sqt {H H' : Hp} {a : Addr} {xs : List V} (e : Same H H') (h : SqT K H a xs) : SqT K H' a xs := by
  rcases h with (h | ⟨o, h⟩) | h
  · exact .inl (.inl (e _ _ h))
  · exact .inl (.inr ⟨o, e _ _ h⟩)
  · exact .inr h
theorem Same.sql {H H' : Hp} {a : Addr} {xs : List V} (e : Same H H') (h : SqL K H a xs) : SqL K H' a xs := by
  rcases h with (h | ⟨o, h⟩) | h
  · exact .inl (.inl (e _ _ h))
  · exact .inl (.inr ⟨o, e _ _ h⟩)
  · exact .inr h
theorem Same.rd {H H' : Hp} {a : Addr} {u : HO} (e : Same H H') (h : Rd H a u) : Rd H' a u := by
  rcases h with h | ⟨o, h⟩
  · exact .inl (e _ _ h)
  · exact .inr ⟨o, e _ _ h⟩

mutual
theorem Rep.mono {P P' : Hp} (e : Same P P') : ∀ {v : V} {d : D}, Rep K P v d → Rep K P' v d
  | _, _, .non => .non
  | _, _, .bl b => .bl b
  | _, _, .int i => .int i
  | _, _, .str x => .str x
  | _, _, .lst h r => .lst (Same.sql e h) (RepAll.mono e r)
  | _, _, .tup h r => .tup (Same.sqt e h) (RepAll.mono e r)
  | _, _, .dct h r => .dct (Same.rd e h) (RepKv.mono e r)
theorem RepAll.mono {P P' : Hp} (e : Same P P') : ∀ {vs : List V} {ds : List D}, RepAll K P vs ds → RepAll K P' vs ds
  | _, _, .nil => .nil
  | _, _, .cons h r => .cons (Rep.mono e h) (RepAll.mono e r)
theorem RepKv.mono {P P' : Hp} (e : Same P P') : ∀ {vs : List (Key × V)} {ds : List (D × D)}, RepKv K P vs ds → RepKv K P' vs ds
  | _, _, .nil => .nil
  | _, _, .cons h r => .cons (Rep.mono e h) (RepKv.mono e r)
end
theorem RepAll.length {P : Hp} : ∀ {vs : List V} {ds : List D}, RepAll K P vs ds → vs.length = ds.length
  | _, _, .nil => rfl
  | _, _, .cons _ r => by simp [RepAll.length r]
theorem RepAll.get {P : Hp} : ∀ {vs : List V} {ds : List D} {i : Nat} {d : D}, RepAll K P vs ds → ds[i]? = some d → ∃ v, vs[i]? = some v ∧ Rep K P v d
  | _, _, _, _, .nil, h => by simp at h
  | _, _, 0, _, .cons h r, e => by simp at e; subst e; exact ⟨_, rfl, h⟩
  | _, _, i + 1, _, .cons h r, e => by
    obtain ⟨v, e1, e2⟩ := RepAll.get (i := i) r (by simpa using e)
    exact ⟨v, by simpa using e1, e2⟩
theorem RepAll.get' {P : Hp} : ∀ {vs : List V} {ds : List D} {i : Nat} {v : V}, RepAll K P vs ds → vs[i]? = some v → ∃ d, ds[i]? = some d ∧ Rep K P v d
  | _, _, _, _, .nil, h => by simp at h
  | _, _, 0, _, .cons h r, e => by simp at e; subst e; exact ⟨_, rfl, h⟩
  | _, _, i + 1, _, .cons h r, e => by
    obtain ⟨v, e1, e2⟩ := RepAll.get' (i := i) r (by simpa using e)
    exact ⟨v, by simpa using e1, e2⟩
theorem RepAll.append {P : Hp} : ∀ {vs ws : List V} {ds es : List D}, RepAll K P vs ds → RepAll K P ws es → RepAll K P (vs ++ ws) (ds ++ es)
  | _, _, _, _, .nil, s => s
  | _, _, _, _, .cons h r, s => .cons h (RepAll.append r s)
theorem RepAll.take {P : Hp} : ∀ {vs : List V} {ds : List D} (n : Nat), RepAll K P vs ds → RepAll K P (vs.take n) (ds.take n)
  | _, _, 0, _ => .nil
  | _, _, _ + 1, .nil => .nil
  | _, _, n + 1, .cons h r => .cons h (RepAll.take n r)
theorem RepAll.drop {P : Hp} : ∀ {vs : List V} {ds : List D} (n : Nat), RepAll K P vs ds → RepAll K P (vs.drop n) (ds.drop n)
  | _, _, 0, r => r
  | _, _, _ + 1, .nil => .nil
  | _, _, n + 1, .cons h r => RepAll.drop n r

/-- what stands for good at a law: the top's names, the syntax, the tables of code objects -/
class Lams where
  mg : Str → Option Value
  G : Gm
  tabs : List (Addr × Addr × Str)
  uniq : ∀ s ∈ tabs, ∀ t ∈ tabs, s.2.1 = t.2.1 → s.2.2 = t.2.2
variable [Lams]
def lamB (G : Gm) (i : Nat) (params : Arguments) (body : Expr) (scope : Scope) : Prop := ∃ e, lamHead G i e params scope = true ∧ chkE G (lamCt G i scope) e body = true
/-- a function object without captured names -/
def FunO (a : Addr) (o : Obj) : HO := .ext fun h => h.get? a = some o
theorem funO_ok {P : Program} {w : World} {H : Hp} {h : Heap} {a : Addr} {o : Obj} (e : h.get? a = some o) : ObjOk P w H h a (FunO a o) := ⟨e, ⟨o, e⟩, fun _ _ h1 k => k _ h1⟩
/-- a table of code objects: each that it tells lasts and bears the name -/
def TabP (P H : Hp) (a : Addr) (q : Str) : Prop := ∃ ps : Array Value, H a = some (.tbl ps) ∧ PySem.TriplesOk ps.toList ∧ ∀ (pos : Pos) (cv : Value), PySem.codeAmong pos ps.toList = some cv → ∃ c, cv = .ref c ∧ P c = some (LamX.CodeO c q)
structure Tb (P Fr H : Hp) : Prop where
  tb : ∀ p ∈ Lams.tabs, TabP P H p.2.1 p.2.2
  nt : ∀ b ps, H b = some (.tbl ps) → P b = none ∧ Fr b = none
theorem TabP.mono {P P' H H' : Hp} {a : Addr} {q : Str} (t : TabP P H a q) (s : Same P P') (k : ∀ ps, H a = some (.tbl ps) → H' a = some (.tbl ps)) : TabP P' H' a q := by
  obtain ⟨ps, h1, h2, h3⟩ := t
  exact ⟨ps, k ps h1, h2, fun pos cv hc => (h3 pos cv hc).imp fun c z => ⟨z.1, s _ _ z.2⟩⟩
theorem Tb.upd {P Fr H : Hp} (t : Tb P Fr H) {a : Addr} (o : HO) (hn : ∀ ps, H a ≠ some (.tbl ps)) (ho : ∀ ps, o ≠ .tbl ps) : Tb P Fr (upd H a o) := by
  refine ⟨fun p hp => (t.tb p hp).mono (Same.refl _) fun ps e => ?_, fun b ps e => ?_⟩
  · rw [upd_ne (show p.2.1 ≠ a from fun z => by rw [z] at e; exact hn ps e)]; exact e
  · by_cases hb : b = a
    · subst hb; rw [upd_same] at e; cases e; exact absurd rfl (ho ps)
    · rw [upd_ne hb] at e; exact t.nt b ps e
theorem Tb.grow {P P' Fr H : Hp} (t : Tb P Fr H) (s : Same P P') (k : ∀ b ps, H b = some (.tbl ps) → P' b = none) : Tb P' Fr H :=
  ⟨fun p hp => (t.tb p hp).mono s fun _ e => e, fun b ps e => ⟨k b ps e, (t.nt b ps e).2⟩⟩
theorem Tb.frame {P Fr Fr' H : Hp} (t : Tb P Fr H) (k : ∀ b ps, H b = some (.tbl ps) → Fr' b = none) : Tb P Fr' H :=
  ⟨t.tb, fun b ps e => ⟨(t.nt b ps e).1, k b ps e⟩⟩
/-- a lambda's object -/
def lamO (q : Str) (params : Arguments) (body : Expr) (scope : Scope) (pm : Value) (c : Addr) (ctv : Value) : Obj := PySem.W.kla_obj "<lambda>" q params body scope [] pm c ctv
/-- a plain tuple -/
def ExT (P : Hp) (a : Addr) (vs : List V) : Prop := ∃ o : Obj, P a = some (.frz o (.tup vs)) ∧ o.cls = .type "tuple" ∧ o.dict = none
theorem ExT.mono {P P' : Hp} (e : Same P P') {a : Addr} {vs : List V} (h : ExT P a vs) : ExT P' a vs := h.imp fun o z => ⟨e _ _ z.1, z.2⟩
theorem ExT.sqt {K : PySem.W.Frag} {P : Hp} {a : Addr} {vs : List V} (h : ExT P a vs) : SqT K P a vs := let ⟨o, z, _⟩ := h; .inl (.inr ⟨o, z⟩)
/-- things at hand -/
inductive RepU (K : PySem.W.Frag) (P : Hp) (α : List Addr) : V → U → Prop
  | d {v : V} {x : D} : Rep K P v x → RepU K P α v (.d x)
  | m {n : Nat} {a : Addr} : α[n]? = some a → RepU K P α (.ref a) (.m n)
  | l {i : Nat} {a c : Addr} {q : Str} {params : Arguments} {body : Expr} {scope : Scope} {pm ctv : Value} : lamB Lams.G i params body scope → P a = some (FunO a (lamO q params body scope pm c ctv)) → P c = some (LamX.CodeO c q) → RepU K P α (.ref a) (.f (.lam i))
  | g {f : Nat} {x : Str} {a : Addr} : Lams.mg x = some (.ref a) → RepU K P α (.ref a) (.f (.def_ f x))
  | x {a : Addr} {vs : List V} {xs : List D} : ExT P a vs → RepAll K P vs xs → RepU K P α (.ref a) (.s (.x xs))
  | t3 {p q : Addr} {va vb : V} {vs : List V} {a b : D} {xs : List D} : SqT K P p [va, vb, .ref q] → Rep K P va a → Rep K P vb b → ExT P q vs → RepAll K P vs xs → RepU K P α (.ref p) (.s (.t3 a b xs))
theorem RepU.mono {P P' : Hp} {α α' : List Addr} (e : Same P P') (p : α <+: α') {v : V} {u : U} (h : RepU K P α v u) : RepU K P' α' v u := by
  cases h with
  | d r => exact .d (r.mono e)
  | m r =>
    obtain ⟨t, rfl⟩ := p
    refine .m ?_
    rw [List.getElem?_append_left]
    · exact r
    · exact (List.getElem?_eq_some_iff.mp r).1
  | l h1 h2 h3 => exact .l h1 (e _ _ h2) (e _ _ h3)
  | g h => exact .g h
  | x h r => exact .x (h.mono e) (r.mono e)
  | t3 h h1 h2 h3 h4 => exact .t3 (Same.sqt e h) (h1.mono e) (h2.mono e) (h3.mono e) (h4.mono e)
abbrev RepUs (K : PySem.W.Frag) (P : Hp) (α : List Addr) := Paired (RepU K P α)
theorem pmono {α β : Type} {F F' : α → β → Prop} (h : ∀ a b, F a b → F' a b) : ∀ {l : List α} {l' : List β}, Paired F l l' → Paired F' l l'
  | _, _, .nil => .nil
  | _, _, .cons p r => .cons (h _ _ p) (pmono h r)
theorem RepUs.mono {P P' : Hp} {α α' : List Addr} (e : Same P P') (p : α <+: α') {vs : List V} {us : List U} (h : RepUs K P α vs us) : RepUs K P' α' vs us := pmono (fun _ _ => RepU.mono e p) h
theorem pget {α β : Type} {F : α → β → Prop} : ∀ {l : List α} {l' : List β} {i : Nat} {b : β}, Paired F l l' → l'[i]? = some b → ∃ a, l[i]? = some a ∧ F a b
  | _, _, _, _, .nil, h => by simp at h
  | _, _, 0, _, .cons h r, e => by simp at e; subst e; exact ⟨_, rfl, h⟩
  | _, _, i + 1, _, .cons h r, e => by
    obtain ⟨v, e1, e2⟩ := pget (i := i) r (by simpa using e)
    exact ⟨v, by simpa using e1, e2⟩
theorem pget' {α β : Type} {F : α → β → Prop} : ∀ {l : List α} {l' : List β} {i : Nat} {a : α}, Paired F l l' → l[i]? = some a → ∃ b, l'[i]? = some b ∧ F a b
  | _, _, _, _, .nil, h => by simp at h
  | _, _, 0, _, .cons h r, e => by simp at e; subst e; exact ⟨_, rfl, h⟩
  | _, _, i + 1, _, .cons h r, e => by
    obtain ⟨v, e1, e2⟩ := pget' (i := i) r (by simpa using e)
    exact ⟨v, by simpa using e1, e2⟩
theorem pappend {α β : Type} {F : α → β → Prop} : ∀ {l m : List α} {l' m' : List β}, Paired F l l' → Paired F m m' → Paired F (l ++ m) (l' ++ m')
  | _, _, _, _, .nil, s => s
  | _, _, _, _, .cons h r, s => .cons h (pappend r s)
theorem pset {α β : Type} {F : α → β → Prop} {a : α} {b : β} (h : F a b) : ∀ {l : List α} {l' : List β} (i : Nat), Paired F l l' → Paired F (l.set i a) (l'.set i b)
  | _, _, _, .nil => .nil
  | _, _, 0, .cons _ t => .cons h t
  | _, _, i + 1, .cons q t => .cons q (pset h i t)
theorem pdropLast {α β : Type} {F : α → β → Prop} : ∀ {l : List α} {l' : List β}, Paired F l l' → Paired F l.dropLast l'.dropLast
  | _, _, .nil => .nil
  | _, _, .cons _ .nil => .nil
  | _, _, .cons h (.cons h2 r) => .cons h (pdropLast (.cons h2 r))
theorem RepUs.of_all {P : Hp} {α : List Addr} : ∀ {vs : List V} {ds : List D}, RepAll K P vs ds → RepUs K P α vs (ds.map .d)
  | _, _, .nil => .nil
  | _, _, .cons h r => .cons (.d h) (RepUs.of_all r)
theorem RepUs.toDs {P : Hp} {α : List Addr} : ∀ {vs : List V} {us : List U} {ds : List D}, RepUs K P α vs us → toDs us = some ds → RepAll K P vs ds
  | _, _, _, .nil, e => by simp [Ev.toDs] at e; subst e; exact .nil
  | _, u :: us, _, .cons h r, e => by
    cases u with
    | d x =>
      simp only [Ev.toDs, Option.map_eq_some_iff] at e
      obtain ⟨t, e1, rfl⟩ := e
      cases h with | d h =>
      exact .cons h (RepUs.toDs r e1)
    | m n => simp [Ev.toDs] at e
    | f h => simp [Ev.toDs] at e
    | s z => simp [Ev.toDs] at e
omit [Lams] in
theorem toDs_map : ∀ ds : List D, toDs (ds.map U.d) = some ds
  | [] => rfl
  | d :: ds => by simp [toDs, toDs_map ds]
omit [Lams] in
theorem toDs_some : ∀ {us : List U} {ds : List D}, toDs us = some ds → us = ds.map U.d
  | [], ds, e => by simp [toDs] at e; subst e; rfl
  | .d x :: us, ds, e => by
    simp only [toDs, Option.map_eq_some_iff] at e
    obtain ⟨t, e1, rfl⟩ := e
    rw [toDs_some e1]; rfl
  | .m _ :: us, ds, e => by simp [toDs] at e
  | .f _ :: us, ds, e => by simp [toDs] at e
  | .s _ :: us, ds, e => by simp [toDs] at e

/-- the heap H is: what is lasting (P), the things of the store (α, st), the frame that is left alone (Fr), and what does not matter -/
structure Rel (K : PySem.W.Frag) (P : Hp) (α : List Addr) (Fr : Hp) (st : Store) (H : Hp) : Prop where
  sub : Same P H
  fr : Same Fr H
  len : α.length = st.length
  nd : α.Nodup
  cell : ∀ (n : Nat) (a : Addr) (us : List U), α[n]? = some a → st[n]? = some (Cell.lst us) → P a = none ∧ Fr a = none ∧ ∃ vs, H a = some (.lst vs) ∧ RepUs K P α vs us
  dis : ∀ b o, Fr b = some o → P b = none
  gone : ∀ (n : Nat) (a : Addr), α[n]? = some a → st[n]? = some Cell.dead → ∃ o, P a = some o
  tb : Tb P Fr H
theorem Rel.there {P : Hp} {α : List Addr} {Fr : Hp} {st : Store} {H : Hp} (r : Rel K P α Fr st H) {a : Addr} (h : a ∈ α) : ∃ o, H a = some o := by
  obtain ⟨n, hn, e⟩ := List.mem_iff_getElem.mp h
  have h1 : α[n]? = some a := by rw [List.getElem?_eq_getElem hn, e]
  have hs : n < st.length := by rw [← r.len]; exact hn
  cases q : st[n] with
  | dead =>
    obtain ⟨o, z⟩ := r.gone n a h1 (by rw [List.getElem?_eq_getElem hs, q])
    exact ⟨o, r.sub _ _ z⟩
  | lst us =>
    obtain ⟨_, _, vs, z, _⟩ := r.cell n a us h1 (by rw [List.getElem?_eq_getElem hs, q])
    exact ⟨_, z⟩
theorem Rel.notin {P : Hp} {α : List Addr} {Fr : Hp} {st : Store} {H : Hp} (r : Rel K P α Fr st H) {p : Addr} (h : H p = none) : p ∉ α := fun z => by
  obtain ⟨o, e⟩ := r.there z
  rw [h] at e; cases e

/-- behind it: more may last, the store may have grown -/
structure Aft (K : PySem.W.Frag) (P : Hp) (α : List Addr) (Fr : Hp) (st' : Store) (H' : Hp) (P' : Hp) (α' : List Addr) : Prop where
  rel : Rel K P' α' Fr st' H'
  same : Same P P'
  pre : α <+: α'
theorem Aft.refl {P : Hp} {α : List Addr} {Fr : Hp} {st : Store} {H : Hp} (r : Rel K P α Fr st H) : Aft K P α Fr st H P α := ⟨r, Same.refl _, List.prefix_rfl⟩
theorem Aft.trans {P P' P2 : Hp} {α α' α2 : List Addr} {Fr : Hp} {st' st2 : Store} {H' H2 : Hp} (a : Aft K P α Fr st' H' P' α') (b : Aft K P' α' Fr st2 H2 P2 α2) : Aft K P α Fr st2 H2 P2 α2 :=
  ⟨b.rel, a.same.trans b.same, a.pre.trans b.pre⟩

structure EnvOk (K : PySem.W.Frag) (P : Hp) (α : List Addr) (σ : L2.St) (ε : Env) : Prop where
  len : σ.length = ε.length
  at_ : ∀ (i : Nat) (u : U), ε[i]? = some (some u) → ∃ v, σ[i]? = some (some v) ∧ RepU K P α v u
theorem EnvOk.mono {P P' : Hp} {α α' : List Addr} (e : Same P P') (p : α <+: α') {σ : L2.St} {ε : Env} (h : EnvOk K P α σ ε) : EnvOk K P' α' σ ε :=
  ⟨h.len, fun i u q => let ⟨v, a, b⟩ := h.at_ i u q; ⟨v, a, b.mono e p⟩⟩
theorem EnvOk.set {P : Hp} {α : List Addr} {σ : L2.St} {ε : Env} (h : EnvOk K P α σ ε) {v : V} {u : U} (r : RepU K P α v u) (i : Nat) : EnvOk K P α (σ.set i (some v)) (setE i u ε) := by
  refine ⟨by simp [setE, h.len], fun j w q => ?_⟩
  unfold setE at q
  by_cases hj : i = j
  · subst hj
    by_cases hi : i < ε.length
    · rw [List.getElem?_set_self hi] at q
      cases q
      exact ⟨v, by rw [List.getElem?_set_self (by rw [h.len]; exact hi)], r⟩
    · rw [List.getElem?_eq_none (by simpa using hi)] at q; cases q
  · rw [List.getElem?_set_ne hj] at q
    obtain ⟨w', a, b⟩ := h.at_ j w q
    exact ⟨w', by rw [List.getElem?_set_ne hj]; exact a, b⟩
theorem EnvOk.unset {P : Hp} {α : List Addr} {σ : L2.St} {ε : Env} (h : EnvOk K P α σ ε) (i : Nat) : EnvOk K P α (σ.set i none) (ε.set i none) := by
  refine ⟨by simp [h.len], fun j w q => ?_⟩
  by_cases hj : i = j
  · subst hj
    by_cases hi : i < ε.length
    · rw [List.getElem?_set_self hi] at q; cases q
    · rw [List.getElem?_eq_none (by simpa using hi)] at q; cases q
  · rw [List.getElem?_set_ne hj] at q
    obtain ⟨w', a, b⟩ := h.at_ j w q
    exact ⟨w', by rw [List.getElem?_set_ne hj]; exact a, b⟩
theorem EnvOk.wipe {P : Hp} {α : List Addr} {σ : L2.St} {ε : Env} (h : EnvOk K P α σ ε) : ∀ vs : List Nat, EnvOk K P α (wipe σ vs) (wipeE ε vs)
  | [] => h
  | v :: vs => (EnvOk.wipe h vs).unset v

/-! ### growing -/
/-- a new object that lasts -/
theorem Rel.new {P : Hp} {α : List Addr} {Fr : Hp} {st : Store} {H : Hp} (r : Rel K P α Fr st H) {p : Addr} (hp : H p = none) (o : HO) (ho : ∀ ps, o ≠ .tbl ps := by intro ps h; cases h) : Aft K P α Fr st (upd H p o) (upd P p o) α := by
  have hP : P p = none := r.sub.free hp
  have hF : Fr p = none := r.fr.free hp
  have s1 : Same P (upd P p o) := fun b x e => by
    rw [upd_ne (ne_of_none e hP)]; exact e
  refine ⟨⟨fun b x e => ?_, fun b x e => ?_, r.len, r.nd, fun n a us h1 h2 => ?_, fun b x e => ?_, fun n a h1 h2 => (r.gone n a h1 h2).imp fun x e => s1 _ _ e, ?_⟩, s1, List.prefix_rfl⟩
  rotate_left 4
  · have t1 := r.tb.upd (a := p) o (fun ps z => by rw [hp] at z; cases z) ho
    refine t1.grow s1 fun b ps e => ?_
    by_cases hb : b = p
    · subst hb; rw [upd_same] at e; cases e; exact absurd rfl (ho ps)
    · rw [upd_ne hb] at e ⊢; exact (r.tb.nt b ps e).1
  · by_cases hb : b = p
    · subst hb; rw [upd_same] at e ⊢; exact e
    · rw [upd_ne hb] at e ⊢; exact r.sub b x e
  · rw [upd_ne (ne_of_none e hF)]; exact r.fr b x e
  · obtain ⟨c1, c2, vs, c3, c4⟩ := r.cell n a us h1 h2
    have na : a ≠ p := ne_of_none c3 hp
    exact ⟨by rw [upd_ne na]; exact c1, c2, vs, by rw [upd_ne na]; exact c3, c4.mono s1 List.prefix_rfl⟩
  · rw [upd_ne (ne_of_none e hF)]; exact r.dis b x e
/-- a new thing of the store -/
theorem Rel.alloc {P : Hp} {α : List Addr} {Fr : Hp} {st : Store} {H : Hp} (r : Rel K P α Fr st H) {p : Addr} (hp : H p = none) {vs : List V} {us : List U} (h : RepUs K P α vs us) :
    Aft K P α Fr (st ++ [.lst us]) (upd H p (.lst vs)) P (α ++ [p]) := by
  have hP : P p = none := r.sub.free hp
  have hF : Fr p = none := r.fr.free hp
  have hα := r.notin hp
  have pre : α <+: α ++ [p] := List.prefix_append _ _
  refine ⟨⟨fun b x e => ?_, fun b x e => ?_, by simp [r.len], ?_, fun n a us' h1 h2 => ?_, r.dis, fun n a h1 h2 => ?_, r.tb.upd _ (fun ps z => by rw [hp] at z; cases z) (fun ps h => by cases h)⟩, Same.refl _, pre⟩
  · rw [upd_ne (ne_of_none e hP)]; exact r.sub b x e
  · rw [upd_ne (ne_of_none e hF)]; exact r.fr b x e
  · rw [List.nodup_append]
    refine ⟨r.nd, by simp, fun a ha b hb => ?_⟩
    have e : b = p := by simpa using hb
    rintro rfl
    exact hα (e ▸ ha)
  · by_cases hn : n < α.length
    · rw [List.getElem?_append_left hn] at h1
      rw [List.getElem?_append_left (by rw [← r.len]; exact hn)] at h2
      obtain ⟨c1, c2, ws, c3, c4⟩ := r.cell n a us' h1 h2
      exact ⟨c1, c2, ws, by rw [upd_ne (ne_of_none c3 hp)]; exact c3, c4.mono (Same.refl _) pre⟩
    · have hn' : n = α.length := by
        have := (List.getElem?_eq_some_iff.mp h1).1
        rw [List.length_append, List.length_singleton] at this
        omega
      subst hn'
      rw [List.getElem?_append_right (Nat.le_refl _), Nat.sub_self] at h1
      rw [r.len, List.getElem?_append_right (Nat.le_refl _), Nat.sub_self] at h2
      have e1 : p = a := by simpa using h1
      have e2 : us = us' := by simpa using h2
      subst e1 e2
      exact ⟨hP, hF, vs, upd_same, h.mono (Same.refl _) pre⟩
  · by_cases hn : n < α.length
    · rw [List.getElem?_append_left hn] at h1
      rw [List.getElem?_append_left (by rw [← r.len]; exact hn)] at h2
      exact r.gone n a h1 h2
    · rw [List.getElem?_append_right (by rw [← r.len]; omega)] at h2
      rcases Nat.eq_zero_or_pos (n - st.length) with z | z
      · rw [z] at h2; cases h2
      · rw [List.getElem?_eq_none (by rw [List.length_singleton]; exact z)] at h2; cases h2
/-- a thing of the store is changed -/
theorem Rel.put {P : Hp} {α : List Addr} {Fr : Hp} {st : Store} {H : Hp} (r : Rel K P α Fr st H) {n : Nat} {a : Addr} {us : List U} (h1 : α[n]? = some a) (h2 : st[n]? = some (.lst us)) {ws : List V} {us' : List U} (h : RepUs K P α ws us') :
    Aft K P α Fr (st.set n (.lst us')) (upd H a (.lst ws)) P α := by
  obtain ⟨c1, c2, vs, c3, c4⟩ := r.cell n a us h1 h2
  have hst : n < st.length := (List.getElem?_eq_some_iff.mp h2).1
  refine ⟨⟨fun b x e => ?_, fun b x e => ?_, by simp [r.len], r.nd, fun m b us2 q1 q2 => ?_, r.dis, fun m b q1 q2 => ?_, r.tb.upd _ (fun ps z => by rw [c3] at z; cases z) (fun ps h => by cases h)⟩, Same.refl _, List.prefix_rfl⟩
  · rw [upd_ne (ne_of_none e c1)]; exact r.sub b x e
  · rw [upd_ne (ne_of_none e c2)]; exact r.fr b x e
  · by_cases hm : n = m
    · subst hm
      rw [h1] at q1; cases q1
      rw [List.getElem?_set_self hst] at q2
      cases q2
      exact ⟨c1, c2, ws, upd_same, h⟩
    · rw [List.getElem?_set_ne hm] at q2
      obtain ⟨d1, d2, vs2, d3, d4⟩ := r.cell m b us2 q1 q2
      have nb : b ≠ a := by
        rintro rfl
        exact hm (nd_ix r.nd h1 q1)
      exact ⟨d1, d2, vs2, by rw [upd_ne nb]; exact d3, d4⟩
  · by_cases hm : n = m
    · subst hm
      rw [List.getElem?_set_self hst] at q2
      cases q2
    · rw [List.getElem?_set_ne hm] at q2
      exact r.gone m b q1 q2
/-- a thing of the store becomes data -/
theorem Rel.freeze {P : Hp} {α : List Addr} {Fr : Hp} {st : Store} {H : Hp} (r : Rel K P α Fr st H) {n : Nat} {a : Addr} {us : List U} {ds : List D} (h1 : α[n]? = some a) (h2 : st[n]? = some (.lst us)) (h3 : toDs us = some ds) :
    ∃ vs, H a = some (.lst vs) ∧ Aft K P α Fr (st.set n .dead) H (upd P a (.lst vs)) α ∧ Rep K (upd P a (.lst vs)) (.ref a) (.list ds) := by
  obtain ⟨c1, c2, vs, c3, c4⟩ := r.cell n a us h1 h2
  have hst : n < st.length := (List.getElem?_eq_some_iff.mp h2).1
  have s1 : Same P (upd P a (.lst vs)) := fun b x e => by
    rw [upd_ne (ne_of_none e c1)]; exact e
  refine ⟨vs, c3, ⟨⟨fun b x e => ?_, r.fr, by simp [r.len], r.nd, fun m b us2 q1 q2 => ?_, fun b x e => ?_, fun m b q1 q2 => ?_, r.tb.grow s1 fun b ps e => ?_⟩, s1, List.prefix_rfl⟩, .lst (.inl (.inl upd_same)) ((c4.toDs h3).mono s1)⟩
  · by_cases hb : b = a
    · subst hb; rw [upd_same] at e; rw [c3]; exact e
    · rw [upd_ne hb] at e; exact r.sub b x e
  · by_cases hm : n = m
    · subst hm
      rw [List.getElem?_set_self hst] at q2
      cases q2
    · rw [List.getElem?_set_ne hm] at q2
      obtain ⟨d1, d2, vs2, d3, d4⟩ := r.cell m b us2 q1 q2
      have nb : b ≠ a := by
        rintro rfl
        exact hm (nd_ix r.nd h1 q1)
      exact ⟨by rw [upd_ne nb]; exact d1, d2, vs2, d3, d4.mono s1 List.prefix_rfl⟩
  · rw [upd_ne (ne_of_none e c2)]; exact r.dis b x e
  · by_cases hm : n = m
    · subst hm
      rw [h1] at q1; cases q1
      exact ⟨_, upd_same⟩
    · rw [List.getElem?_set_ne hm] at q2
      exact (r.gone m b q1 q2).imp fun x e => s1 _ _ e
  · rw [upd_ne fun z => by rw [z, c3] at e; cases e]; exact (r.tb.nt b ps e).1
end
end Ev
end

section
set_option maxRecDepth 10000
set_option autoImplicit false
/-! EvC: the weakest wishes of the hand layer's judgements; what is fixed of a context; what a result must meet. -/
namespace Ev
open PySem PySem.Spec PyProof.Rows L2
variable [Lams]

/-! ### the weakest wishes -/
section
variable (X : Cx)
def WE (e : Expr) (σ : L2.St) (H : Hp) (Q : VK) : Prop := ∀ (pins : List (Addr × Obj)) (s : Shared), Inv X pins σ H s → wpAny (model X.prog X.w) X.A (eval e X.env) (EP X pins σ Q) X.xe s
def WT (e : Expr) (σ : L2.St) (H : Hp) (Q : Bool → Hp → Prop) : Prop := ∀ (pins : List (Addr × Obj)) (s : Shared), Inv X pins σ H s → wpAny (model X.prog X.w) X.A (isTrue e X.env (eval e X.env)) (TP X pins σ Q) X.xe s
def WW (e : Expr) (σ : L2.St) (H : Hp) (Q : Bool → Hp → Prop) : Prop := ∀ (whole : Sem Value) (pins : List (Addr × Obj)) (s : Shared), Inv X pins σ H s → wpAny (model X.prog X.w) X.A (isTrue e X.env whole) (TP X pins σ Q) X.xe s
def WA (es : List Expr) (σ : L2.St) (H : Hp) (Q : List V → Hp → Prop) : Prop := ∀ (pos : Pos) (pins : List (Addr × Obj)) (s : Shared), Inv X pins σ H s → wpAny (model X.prog X.w) X.A (spliced (backTo pos (starEach es X.env))) (AP X pins σ Q) X.xe s
def WK (kws : List Keyword) (σ : L2.St) (H : Hp) (Q : List V → Hp → Prop) : Prop := ∀ (pos : Pos) (pins : List (Addr × Obj)) (s : Shared), Inv X pins σ H s → wpAny (model X.prog X.w) X.A (evalAll ((backToKw pos (keywordEach kws X.env)).map (·.2))) (AP X pins σ Q) X.xe s
def WS (st : Stmt) (D : Ends) (σ : L2.St) (H : Hp) : Prop := ∀ (pins : List (Addr × Obj)) (s : Shared), Inv X pins σ H s → wpAny (model X.prog X.w) X.A (exec st X.env) (SP X pins D) X.xe s
def WSs (st : List Stmt) (D : Ends) (σ : L2.St) (H : Hp) : Prop := ∀ (pins : List (Addr × Obj)) (s : Shared), Inv X pins σ H s → wpAny (model X.prog X.w) X.A (execs st X.env) (SP X pins D) X.xe s
def WG (tg : Expr) (v : V) (σ : L2.St) (H : Hp) (Q : L2.St → Hp → Prop) : Prop := ∀ (pins : List (Addr × Obj)) (s : Shared) (u : Value), Inv X pins σ H s → RelV v u →
    wpAny (model X.prog X.w) X.A (assign tg X.env u) (fun _ s' => ∃ σ' H', Inv X pins σ' H' s' ∧ Q σ' H') X.xe s
def WGs (ts : List Expr) (vs : List V) (σ : L2.St) (H : Hp) (Q : L2.St → Hp → Prop) : Prop := ∀ (pins : List (Addr × Obj)) (s : Shared) (us : List Value), Inv X pins σ H s → Vals vs us →
    wpAny (model X.prog X.w) X.A (assignInOrder ((assignEach ts X.env).map (·.2)) us) (fun _ s' => ∃ σ' H', Inv X pins σ' H' s' ∧ Q σ' H') X.xe s
def WI (tg iter : Expr) (σ : L2.St) (H : Hp) (Rr : It → Hp → Prop) : Prop := ∀ (pins : List (Addr × Obj)) (s : Shared), Inv X pins σ H s →
    wpAny (model X.prog X.w) X.A (eval iter X.env) (fun v s1 => wpAny (model X.prog X.w) X.A (pyIter v) (PIE X pins σ tg Rr) X.xe s1) X.xe s
def WTs (ifs : List Expr) (σ : L2.St) (H : Hp) (Q : Bool → Hp → Prop) : Prop := ∃ t, PTs X ifs t ∧ t σ H Q
end
section
variable {X : Cx}
theorem pe_W {e : Expr} : PE X e (WE X e) := ⟨fun pins s _ _ _ I h => h pins s I⟩
theorem pt_W {e : Expr} : PT X e (WT X e) := ⟨fun pins s _ _ _ I h => h pins s I⟩
theorem pw_W {e : Expr} : PW X e (WW X e) := ⟨fun wh pins s _ _ _ I h => h wh pins s I⟩
theorem pa_W {es : List Expr} : PA X es (WA X es) := ⟨fun pos pins s _ _ _ I h => h pos pins s I⟩
theorem pk_W {es : List Keyword} : PK X es (WK X es) := ⟨fun pos pins s _ _ _ I h => h pos pins s I⟩
theorem ps_W {st : Stmt} : PS X st (WS X st) := ⟨fun pins s _ _ _ I h => h pins s I⟩
theorem pss_W {st : List Stmt} : PSs X st (WSs X st) := ⟨fun pins s _ _ _ I h => h pins s I⟩
theorem pg_W {tg : Expr} : PG X tg (WG X tg) := ⟨fun pins s _ _ _ u _ I r h => h pins s u I r⟩
theorem pgs_W {ts : List Expr} : PGs X ts (WGs X ts) := ⟨fun pins s _ _ _ us _ I r h => h pins s us I r⟩
theorem pi_W {tg iter : Expr} : PI X tg iter (WI X tg iter) := ⟨fun pins s _ _ _ I h => h pins s I⟩
theorem WE.of {e : Expr} {t : TE} {σ : L2.St} {H : Hp} {Q : VK} (h : PE X e t) (q : t σ H Q) : WE X e σ H Q := fun pins s I => h.run pins s σ H Q I q
theorem WT.of {e : Expr} {t : TT} {σ : L2.St} {H : Hp} {Q : Bool → Hp → Prop} (h : PT X e t) (q : t σ H Q) : WT X e σ H Q := fun pins s I => h.run pins s σ H Q I q
theorem WW.of {e : Expr} {t : TT} {σ : L2.St} {H : Hp} {Q : Bool → Hp → Prop} (h : PW X e t) (q : t σ H Q) : WW X e σ H Q := fun wh pins s I => h.run wh pins s σ H Q I q
theorem WA.of {e : List Expr} {t : TA} {σ : L2.St} {H : Hp} {Q : List V → Hp → Prop} (h : PA X e t) (q : t σ H Q) : WA X e σ H Q := fun pos pins s I => h.run pos pins s σ H Q I q
theorem WK.of {e : List Keyword} {t : TA} {σ : L2.St} {H : Hp} {Q : List V → Hp → Prop} (h : PK X e t) (q : t σ H Q) : WK X e σ H Q := fun pos pins s I => h.run pos pins s σ H Q I q
theorem WS.of {st : Stmt} {t : TS} {σ : L2.St} {H : Hp} {D : Ends} (h : PS X st t) (q : t D σ H) : WS X st D σ H := fun pins s I => h.run pins s σ H D I q
theorem WSs.of {st : List Stmt} {t : TS} {σ : L2.St} {H : Hp} {D : Ends} (h : PSs X st t) (q : t D σ H) : WSs X st D σ H := fun pins s I => h.run pins s σ H D I q
theorem WG.of {tg : Expr} {t : TG} {v : V} {σ : L2.St} {H : Hp} {Q : L2.St → Hp → Prop} (h : PG X tg t) (q : t v σ H Q) : WG X tg v σ H Q := fun pins s u I r => h.run pins s σ H v u Q I r q
theorem WGs.of {ts : List Expr} {t : TGs} {vs : List V} {σ : L2.St} {H : Hp} {Q : L2.St → Hp → Prop} (h : PGs X ts t) (q : t vs σ H Q) : WGs X ts vs σ H Q := fun pins s us I r => h.run pins s σ H vs us Q I r q
theorem WI.of {tg iter : Expr} {t : TI} {σ : L2.St} {H : Hp} {Rr : It → Hp → Prop} (h : PI X tg iter t) (q : t σ H Rr) : WI X tg iter σ H Rr := fun pins s I => h.run pins s σ H Rr I q
end

/-! ### what a result must meet -/
section
variable {K : PySem.W.Frag} (G : Gm) (cl : Nat → Value)
/-- an exception of the program's own, beside its class and value -/
def XR (K : PySem.W.Frag) (P : Hp) (c : Nat) (x : D) (d : Option Addr) : Prop := match G.excs[c]? with
  | some (_, some f) => ∃ dx v, d = some dx ∧ P dx = some (.xd [(f, v)]) ∧ Rep K P v x
  | some (_, none) => True
  | none => False
variable (K) in
def FitR {β γ : Type} (P : Hp) (α : List Addr) (Fr : Hp) (Wx : Value → Option Addr → Hp → Prop) (rep : Hp → List Addr → β → γ → Prop) (r : R γ) (Q : β → Hp → Prop) : Prop := match r with
  | .ok u st' => ∀ v H' P' α', Aft K P α Fr st' H' P' α' → rep P' α' v u → Q v H'
  | .exc c x st' => ∀ H' P' α' d, Aft K P α Fr st' H' P' α' → XR G K P' c x d → Wx (cl c) d H'
  | .stuck => False
variable {G} {cl}
theorem FitR.weak {β γ : Type} {P P1 : Hp} {α α1 : List Addr} {Fr : Hp} {st1 : Store} {H1 : Hp} {Wx : Value → Option Addr → Hp → Prop} {rep : Hp → List Addr → β → γ → Prop} {r : R γ} {Q : β → Hp → Prop}
    (h : FitR K G cl P α Fr Wx rep r Q) (a : Aft K P α Fr st1 H1 P1 α1) : FitR K G cl P1 α1 Fr Wx rep r Q := by
  cases r with
  | ok u st' => exact fun v H' P' α' b q => h v H' P' α' (a.trans b) q
  | exc c x st' => exact fun H' P' α' d b q => h H' P' α' d (a.trans b) q
  | stuck => exact h
theorem FitR.bind {β γ β' γ' : Type} {P : Hp} {α : List Addr} {Fr : Hp} {Wx : Value → Option Addr → Hp → Prop} {repA : Hp → List Addr → β → γ → Prop} {rep : Hp → List Addr → β' → γ' → Prop} {r : R γ} {f : γ → Store → R γ'} {Q : β' → Hp → Prop} {Qa : β → Hp → Prop}
    (h : FitR K G cl P α Fr Wx rep (r.bind f) Q)
    (k : ∀ u st1 v H1 P1 α1, r = .ok u st1 → Aft K P α Fr st1 H1 P1 α1 → repA P1 α1 v u → FitR K G cl P1 α1 Fr Wx rep (f u st1) Q → Qa v H1) : FitR K G cl P α Fr Wx repA r Qa := by
  cases r with
  | ok u st' => exact fun v H' P' α' b q => k u st' v H' P' α' rfl b q (FitR.weak h b)
  | exc c x st' => exact fun H' P' α' d b q => h H' P' α' d b q
  | stuck => exact h
theorem FitR.imp {β γ : Type} {P : Hp} {α : List Addr} {Fr : Hp} {Wx : Value → Option Addr → Hp → Prop} {rep : Hp → List Addr → β → γ → Prop} {r : R γ} {Q Q' : β → Hp → Prop}
    (h : FitR K G cl P α Fr Wx rep r Q) (k : ∀ v H, Q v H → Q' v H) : FitR K G cl P α Fr Wx rep r Q' := by
  cases r with
  | ok u st' => exact fun v H' P' α' b q => k _ _ (h v H' P' α' b q)
  | exc c x st' => exact h
  | stuck => exact h
end

/-! ### what is fixed of a context -/
/-- what a def promises: the run of its syntax -/
def spec (K : PySem.W.Frag) (G : Gm) (cl : Nat → Value) (k f : Nat) (ps : List Str) : Sp := fun vs H Q E => vs.length = ps.length ∧ ∃ (W : Nat) (P : Hp) (α : List Addr) (Fr : Hp) (st : Store) (us : List U),
  Rel K P α Fr st H ∧ RepUs K P α vs us ∧ FitR K G cl P α Fr E (RepU K) (callRaw G W k f us st) Q
/-- a def at f keeps a promise, wherever it is called with so much room and nothing being shown around it -/
structure FnG (P : Program) (w : World) (K : PySem.W.Frag) (mg : Str → Option Value) (base : Heap) (k : Nat) (f : Addr) (fd : FuncData) (ps : List Str) (sp : Sp) : Prop where
  len : ∀ vs H Q E, sp vs H Q E → vs.length = ps.length
  run : ∀ (A : Around) (outer : List PySem.Env) (s : Shared) (H : Hp) (args : Args) (us : List Value) (vs : List V) (Q : VK) (E : XK), Room k A → A.guards = some [] → Env0 P w K mg base A outer s H →
    BindsTo s fd args (ps.zip us) → Vals vs us → sp vs H Q E → codeAny (model P w) A (.call (.ref f) args) (CR (CX P w) outer P w H s Q E) s
structure FnIn (P : Program) (w : World) (K : PySem.W.Frag) (mg : Str → Option Value) (base : Heap) (G : Gm) (cl : Nat → Value) (k f : Nat) (F : Fn) : Prop where
  ex : ∃ (a : Addr) (fd : FuncData), mg F.name = some (.ref a) ∧ PySem.W.keepIn K (.ref a) = true ∧ FnG P w K mg base k a fd F.ps (spec K G cl k f F.ps) ∧
    (∀ j, j ≤ F.dfl.length → ∃ (ds : List Value) (vs : List V), Binds K fd F.ps ds ∧ Vals vs ds ∧ RepAll K (fun _ => none) vs (F.dfl.drop (F.dfl.length - j))) ∧
    ∀ p ∈ F.kss, ∀ (s : Shared) (ws vs : List Value), K.In s.heap → ws.length = p.1.length → pick ws p.2 = some vs → BindsTo s fd ⟨[], (p.1.filterMap (F.ps[·]?)).zip ws⟩ (F.ps.zip vs)
/-- a lambda's promise, whatever object it is -/
structure FnL (P : Program) (w : World) (K : PySem.W.Frag) (mg : Str → Option Value) (base : Heap) (G : Gm) (cl : Nat → Value) (k i g : Nat) (F : Fn) : Prop where
  run : ∀ (A : Around) (outer : List PySem.Env) (s : Shared) (H : Hp) (us : List Value) (vs : List V) (Q : VK) (E : XK) (a c : Addr) (q : Str) (params : Arguments) (body : Expr) (scope : Scope) (pm ctv : Value),
    Room k A → A.guards = some [] → Env0 P w K mg base A outer s H → Vals vs us → lamB G i params body scope → H a = some (FunO a (lamO q params body scope pm c ctv)) → H c = some (LamX.CodeO c q) → spec K G cl k g F.ps vs H Q E →
      codeAny (model P w) A (.call (.ref a) ⟨us, []⟩) (CR (CX P w) outer P w H s Q E) s
structure Sta (G : Gm) (cl : Nat → Value) (k : Nat) (X : Cx) (c : Ct) : Prop where
  hN : X.N = c.N
  nd : c.N.Nodup
  sc : X.env.scope = c.sc
  kind : c.sc.kind = .function
  calm : X.calm = true
  room : Room k X.A
  guards : X.A.guards = some []
  sv : ∀ x, c.sv x = true → Loc c.sc x ∧ (X.fn x = true ∨ c.sc.names.lookup x = some .local)
  fn : ∀ f F, G.fns[f]? = some F → F.name ≠ (("<lambda>" : Str)) → FnIn X.prog X.w X.K X.mg X.base G cl k f F
  con : ∀ (g : Nat) p, G.consts[g]? = some p → ∃ u v, X.mg p.1 = some u ∧ RelV v u ∧ Rep X.K (fun _ => none) v p.2
  bt : ∀ x ∈ G.bts, X.mg x = none
  hG : Lams.G = G
  hmg : Lams.mg = X.mg
  lam : ∀ i g F, G.lams[i]? = some g → G.fns[g]? = some F → FnL X.prog X.w X.K X.mg X.base G cl k i g F
  tab : c.lm = true → ∃ c0 P0, X.env.code = .ref c0 ∧ LamX.TabB X.base X.mg c0 P0 ∧ (c0, P0, X.env.qual ++ "<lambda>") ∈ Lams.tabs

theorem same_none (P : Hp) : Same (fun _ => none) P := fun _ _ e => nomatch e

section
variable {G : Gm} {cl : Nat → Value} {k : Nat} {X : Cx} {c : Ct}
theorem vis_of {sc : Scope} {x : Str} (h : visB sc x = true) : Vis sc x := by
  unfold visB at h
  split at h
  · exact .inl (by assumption)
  · exact .inr (.inl (by assumption))
  · exact .inr (.inr (by assumption))
  · cases h
theorem loc_of {sc : Scope} {x : Str} (h : locB sc x = true) : Loc sc x := by
  unfold locB at h
  split at h
  · exact .inl (by assumption)
  · exact .inr (by assumption)
  · cases h
theorem gl_of {sc : Scope} {x : Str} (h : glB sc x = true) : sc.names.lookup x = some .globalImplicit := by
  unfold glB at h
  split at h
  · assumption
  · cases h
theorem isE_of {α : Type} [DecidableEq α] {o : Option α} {x : α} (h : isE o x = true) : o = some x := of_decide_eq_true h
theorem nm_of {x : Str} (h : nmOk x = true) : (x == ("__debug__" : Str)) = false ∧ (x == ("__classdict__" : Str)) = false := by
  unfold nmOk at h
  rw [Bool.and_eq_true] at h
  exact ⟨of_decide_eq_true h.1, of_decide_eq_true h.2⟩
theorem Sta.hu (S : Sta G cl k X c) : X.A.units + 80 < cLine := by have := S.room.un; omega
theorem Sta.gl (S : Sta G cl k X c) {x : Str} (h : glB c.sc x = true) : Gl X x := by
  show X.env.scope.names.lookup x = _
  rw [S.sc]; exact gl_of h

/-! ### a name, a constant -/
theorem we_var (S : Sta G cl k X c) {i : Nat} {x : Str} {pos : Pos} (h : chkName c i x = true) {P : Hp} {α : List Addr} {σ : L2.St} {ε : Env} (ev : EnvOk X.K P α σ ε) {u : U} (e : ε[i]? = some (some u)) {H : Hp} {Q : VK} (q : ∀ v, RepU X.K P α v u → Q v H) : WE X (.Name x pos) σ H Q := by
  simp only [chkName, Bool.and_eq_true] at h
  obtain ⟨⟨h1, h2⟩, h3⟩ := h
  obtain ⟨v, e1, r⟩ := ev.at_ i u e
  exact WE.of (pe_var (i := i) (by rw [S.hN]; exact isE_of h1) (by rw [S.sc]; exact vis_of h2) (nm_of h3).1 (nm_of h3).2) ⟨v, e1, q v r⟩
theorem we_con {kc : Const} {j : Nat} {pos : Pos} {d : D} (h : conD kc = some d) {σ : L2.St} {H : Hp} {Q : VK} (q : ∀ v, (∀ P, Rep X.K P v d) → Q v H) : WE X (.Constant kc j pos) σ H Q := by
  cases kc with
  | none => cases h; exact WE.of pe_non (q _ fun _ => .non)
  | bool b => cases h; exact WE.of pe_bl (q _ fun _ => .bl b)
  | int i => cases h; exact WE.of pe_int (q _ fun _ => .int i)
  | str x => cases h; exact WE.of pe_str (q _ fun _ => .str x)
  | _ => cases h
theorem we_glob (S : Sta G cl k X c) {g : Nat} {p : Str × D} {pos : Pos} (hg : glB c.sc p.1 = true) (hn : nmOk p.1 = true) (e : G.consts[g]? = some p) {σ : L2.St} {H : Hp} {Q : VK} (q : ∀ v, (∀ P, Rep X.K P v p.2) → Q v H) : WE X (.Name p.1 pos) σ H Q := by
  obtain ⟨u, v, h1, h2, h3⟩ := S.con g p e
  exact WE.of (pe_glob (S.gl hg) h1 h2 (nm_of hn).1) (q v fun P => h3.mono (same_none P))
end
end Ev
end

section
set_option maxRecDepth 10000
set_option autoImplicit false
/-! EvD: operators, comparisons, subscripts and built-in functions by values. -/
namespace Ev
open PySem PySem.Spec PyProof.Rows L2
variable [Lams]

section
variable {X : Cx}
/-- xs + ys of lists that may be read alone -/
def rCatL (K : PySem.W.Frag) : R2 := fun x y H Q => ∃ l b xs zs, x = .ref l ∧ y = .ref b ∧ SqL K H l xs ∧ SqL K H b zs ∧ xs.length + zs.length ≤ sizeLine ∧ ∀ p, H p = none → Q (.ref p) (upd H p (.lst (xs ++ zs)))
theorem op_catL : OpR X (binaryOp .Add) (rCatL X.K) := by
  intro pins s σ H x y v u Q I rx ry h
  obtain ⟨l, b, xs, zs, rfl, rfl, hH, hB, hz, q⟩ := h
  cases rx
  cases ry
  obtain ⟨its, r, ⟨o1, n1, e1, c1, d1, s1⟩, z1⟩ := I.list hH
  obtain ⟨its2, r2, ⟨o2, n2, e2, c2, d2, s2⟩, z2⟩ := I.list hB
  have hl := r.length
  have hl2 := r2.length
  obtain ⟨cls1, dict1, data1, slots1⟩ := o1
  obtain ⟨cls2, dict2, data2, slots2⟩ := o2
  simp only at c1 d1 s1 c2 d2 s2
  subst c1 d1 s1 c2 d2 s2
  have e : its.toArray ++ its2.toArray = (its ++ its2).toArray := by simp
  refine concat_meets ⟨_, e1, rfl⟩ ⟨_, e2, rfl⟩ noFill_list_add seq_list_add PySem.F.slot_list_add PySem.F.entry_list_add (PySem.F.args_list_add_2 _ _) (list_addW l b its.toArray its2.toArray n1 n2 none none slots1 slots2 (by simp only [List.size_toArray]; omega)) ⟨e1, e2, ?_⟩
  rw [e]
  exact ⟨.ref _, _, I.lnew (t' := s.toks) (r.append r2) (by rw [List.length_append]; omega), rfl, q _ I.fresh⟩
end
theorem sizeMax_eq : sizeMax = sizeLine := by rw [sizeLine_eq]; rfl
theorem cmul_of {i j : Int} (h : cmulOk i j = true) : CMul i j := by
  unfold cmulOk at h
  simp only [Bool.or_eq_true, Bool.and_eq_true, decide_eq_true_eq] at h
  exact h
theorem sq_up {H : Hp} {p : Addr} (hp : H p = none) {o : HO} : Same H (upd H p o) := fun b x e => by
  rw [upd_ne (ne_of_none e hp)]; exact e

section
variable {K : PySem.W.Frag} {P : Hp}
mutual
theorem Rep.dp : ∀ {v : V} {d : D}, PyData.hasDict d = false → Rep K P v d → Dp K P v d
  | _, _, _, .non => .non
  | _, _, _, .bl b => .bl b
  | _, _, _, .int i => .int i
  | _, _, _, .str x => .str x
  | _, _, h, .lst hs r => .lst hs (RepAll.dp (by simpa [PyData.hasDict] using h) r)
  | _, _, h, .tup hs r => .tup hs (RepAll.dp (by simpa [PyData.hasDict] using h) r)
  | _, _, h, .dct _ _ => by simp [PyData.hasDict] at h
theorem RepAll.dp : ∀ {vs : List V} {ds : List D}, PyData.hasDictAll ds = false → RepAll K P vs ds → DpAll K P vs ds
  | _, _, _, .nil => .nil
  | _, _, h, .cons r rs => by
    have h' := by simpa [PyData.hasDictAll] using h
    exact .cons (Rep.dp h'.1 r) (RepAll.dp h'.2 rs)
end
theorem flat_of {v : V} {d : D} (h : flatD d = true) (r : Rep K P v d) : flatV v = true := by
  cases r <;> first | rfl | cases h
theorem flats_of : ∀ {vs : List V} {ds : List D}, ds.all flatD = true → RepAll K P vs ds → vs.all flatV = true
  | _, _, _, .nil => rfl
  | _, _, h, .cons r rs => by
    rw [List.all_cons, Bool.and_eq_true] at h ⊢
    exact ⟨flat_of h.1 r, flats_of h.2 rs⟩
theorem eqV_of {v w : V} {d e : D} (hd : flatD d = true) (he : flatD e = true) (r : Rep K P v d) (q : Rep K P w e) : eqV v w = PyData.eqv d e := by
  cases r <;> cases q <;> first | rfl | (simp [flatD] at hd he; done) | (simp [eqV, PyData.eqv]; done) | skip
theorem memV_of {v : V} {d : D} (hd : flatD d = true) (r : Rep K P v d) : ∀ {vs : List V} {ds : List D}, ds.all flatD = true → RepAll K P vs ds → inV v vs = memD d ds
  | _, _, _, .nil => rfl
  | _, _, h, .cons r' rs => by
    rw [List.all_cons, Bool.and_eq_true] at h
    unfold inV memD
    rw [List.any_cons, List.any_cons, eqV_of h.1 hd r' r]
    have ih := memV_of hd r h.2 rs
    unfold inV memD at ih
    rw [ih]
theorem Rep.non_iff {v : V} {d : D} (r : Rep K P v d) : decide (v = .non) = isNoneD d := by
  cases r <;> first | rfl | exact decide_eq_false (fun z => nomatch z)
theorem scal_of {v w : V} {d e : D} (h : scalD d e = true) (r : Rep K P v d) (q : Rep K P w e) : scal v w = true ∧ decide (v = w) = PyData.eqv d e := by
  cases r <;> cases q <;> first | (simp [scalD] at h; done) | exact ⟨rfl, by simp [PyData.eqv, Bool.beq_eq_decide_eq]⟩
end

section
variable {X : Cx} {P : Hp} {α : List Addr} {Fr : Hp} {st : Store} {H : Hp}
/-- wishes of a value made without a change of the store -/
abbrev Gives (K : PySem.W.Frag) (P : Hp) (α : List Addr) (Fr : Hp) (st : Store) (z : D) (Q : VK) : Prop := ∀ v H' P' α', Aft K P α Fr st H' P' α' → RepU K P' α' v (.d z) → Q v H'
theorem gives_new (r : Rel X.K P α Fr st H) {z : D} {Q : VK} (q : Gives X.K P α Fr st z Q) {o : HO} (h : ∀ p, Same P (upd P p o) → Rep X.K (upd P p o) (.ref p) z) (p : Addr) (hp : H p = none) (ho : ∀ ps, o ≠ .tbl ps := by intro ps h; cases h) : Q (.ref p) (upd H p o) :=
  q _ _ _ _ (r.new hp o ho) (.d (h p (sq_up (r.sub.free hp))))
theorem gives_now (r : Rel X.K P α Fr st H) {z : D} {v : V} {Q : VK} (q : Gives X.K P α Fr st z Q) (h : Rep X.K P v z) : Q v H := q _ _ _ _ (Aft.refl r) (.d h)
theorem rep_lst {K : PySem.W.Frag} {p : Addr} {vs : List V} {ds : List D} (s : Same P (upd P p (.lst vs))) (r : RepAll K P vs ds) : Rep K (upd P p (.lst vs)) (.ref p) (.list ds) := .lst (.inl (.inl upd_same)) (r.mono s)
theorem rep_tup {K : PySem.W.Frag} {p : Addr} {vs : List V} {ds : List D} (s : Same P (upd P p (.tup vs))) (r : RepAll K P vs ds) : Rep K (upd P p (.tup vs)) (.ref p) (.tuple ds) := .tup (.inl (.inl upd_same)) (r.mono s)

theorem bin_sound (r : Rel X.K P α Fr st H) {op : Operator} {x y z : D} {vx vy : V} (hx : Rep X.K P vx x) (hy : Rep X.K P vy y) (e : binD op x y = some z) {Q : VK} (q : Gives X.K P α Fr st z Q) : ∃ rr, OpR X (binaryOp op) rr ∧ rr vx vy H Q := by
  unfold binD at e
  split at e
  · cases hx; cases hy; cases e
    exact ⟨_, op_add, _, _, rfl, rfl, gives_now r q (.int _)⟩
  · cases hx; cases hy; cases e
    exact ⟨_, op_sub, _, _, rfl, rfl, gives_now r q (.int _)⟩
  · cases hx; cases hy
    split at e
    · rename_i h
      cases e
      exact ⟨_, op_mul, _, _, rfl, rfl, cmul_of h, gives_now r q (.int _)⟩
    · cases e
  · cases hx; cases hy
    split at e
    · rename_i h
      cases e
      exact ⟨_, op_fdivN, _, _, rfl, rfl, h, gives_now r q (.int _)⟩
    · cases e
  · cases hx; cases hy
    split at e
    · rename_i h
      cases e
      exact ⟨_, op_modN, _, _, rfl, rfl, h, gives_now r q (.int _)⟩
    · cases e
  · cases hx; cases hy
    split at e
    · rename_i h
      cases e
      exact ⟨_, op_pow, _, _, rfl, rfl, h, gives_now r q (.int _)⟩
    · cases e
  · cases hx; cases hy
    split at e
    · rename_i h
      cases e
      exact ⟨_, op_add_str, _, _, rfl, rfl, by rw [← sizeMax_eq]; exact h, gives_now r q (.str _)⟩
    · cases e
  · cases hx with | lst hl ra =>
    cases hy with | lst hl2 ra2 =>
    split at e
    · rename_i h
      cases e
      exact ⟨_, op_catL, _, _, _, _, rfl, rfl, Same.sql r.sub hl, Same.sql r.sub hl2, by rw [ra.length, ra2.length, ← sizeMax_eq]; exact h, fun p hp => gives_new r q (fun p s => rep_lst s (ra.append ra2)) p hp⟩
    · cases e
  · cases hx with | @tup a1 vs1 _ hl ra =>
    cases hy with | @tup a2 vs2 _ hl2 ra2 =>
    split at e
    · rename_i h
      cases e
      refine ⟨_, op_catA, _, _, _, _, rfl, rfl, Same.sqt r.sub hl, Same.sqt r.sub hl2, by rw [ra.length, ra2.length, ← sizeMax_eq]; exact h, fun z => gives_now r q ?_, fun _ z => gives_now r q ?_, fun _ _ p hp => gives_new r q (fun p s => rep_tup s (ra.append ra2)) p hp⟩
      · subst z
        cases ra
        exact .tup hl2 ra2
      · subst z
        cases ra2
        rw [List.append_nil]
        exact .tup hl ra
    · cases e
  · cases e

theorem eq_sound (r : Rel X.K P α Fr st H) (hu : X.A.units + 64 < cLine) {x y : D} {b : Bool} {vx vy : V} (hx : Rep X.K P vx x) (hy : Rep X.K P vy y) (e : eqD x y = some b) {Q : VK} (q : Q (.bl b) H) : ∃ rr, OpR X (compareOp .Eq) rr ∧ rr vx vy H Q := by
  unfold eqD at e
  split at e
  · rename_i h
    cases e
    unfold eqOk at h
    rw [Bool.or_eq_true, Bool.and_eq_true] at h
    rcases h with h | ⟨h1, h2⟩
    · obtain ⟨a1, a2⟩ := scal_of h hx hy
      exact ⟨_, op_eq, a1, by rw [a2]; exact q⟩
    · exact ⟨_, op_eqD hu, _, _, (hx.mono r.sub).dp (PyData.hasDict_of_canLay _ (SeqAt.canLay_of_shaped h1)), (hy.mono r.sub).dp (PyData.hasDict_of_canLay _ (SeqAt.canLay_of_shaped h2)), h1, h2, q⟩
  · cases e
theorem ne_sound (r : Rel X.K P α Fr st H) (hu : X.A.units + 64 < cLine) {x y : D} {b : Bool} {vx vy : V} (hx : Rep X.K P vx x) (hy : Rep X.K P vy y) (e : eqD x y = some b) {Q : VK} (q : Q (.bl (!b)) H) : ∃ rr, OpR X (compareOp .NotEq) rr ∧ rr vx vy H Q := by
  unfold eqD at e
  split at e
  · rename_i h
    cases e
    unfold eqOk at h
    rw [Bool.or_eq_true, Bool.and_eq_true] at h
    rcases h with h | ⟨h1, h2⟩
    · obtain ⟨a1, a2⟩ := scal_of h hx hy
      exact ⟨_, op_ne, a1, by rw [a2]; exact q⟩
    · exact ⟨_, op_neD hu, _, _, (hx.mono r.sub).dp (PyData.hasDict_of_canLay _ (SeqAt.canLay_of_shaped h1)), (hy.mono r.sub).dp (PyData.hasDict_of_canLay _ (SeqAt.canLay_of_shaped h2)), h1, h2, q⟩
  · cases e
theorem in_sound (r : Rel X.K P α Fr st H) {x y : D} {b : Bool} {vx vy : V} (hx : Rep X.K P vx x) (hy : Rep X.K P vy y) (e : inD x y = some b) {Q : VK} (q : Q (.bl b) H) : ∃ rr, OpR X (compareOp .In) rr ∧ rr vx vy H Q := by
  unfold inD at e
  split at e
  · cases hx; cases hy; cases e
    exact ⟨_, op_in_str, _, _, rfl, rfl, q⟩
  · cases hy with | lst hl ra =>
    split at e
    · rename_i h
      rw [Bool.and_eq_true] at h
      cases e
      exact ⟨_, op_in_seq, _, _, rfl, .inl (Same.sql r.sub hl), flat_of h.1 hx, flats_of h.2 ra, by rw [if_neg (by decide), memV_of h.1 hx h.2 ra]; exact q⟩
    · cases e
  · cases hy with | tup hl ra =>
    split at e
    · rename_i h
      rw [Bool.and_eq_true] at h
      cases e
      exact ⟨_, op_in_seq, _, _, rfl, .inr (Same.sqt r.sub hl), flat_of h.1 hx, flats_of h.2 ra, by rw [if_neg (by decide), memV_of h.1 hx h.2 ra]; exact q⟩
    · cases e
  · cases e
theorem notin_sound (r : Rel X.K P α Fr st H) {x y : D} {b : Bool} {vx vy : V} (hx : Rep X.K P vx x) (hy : Rep X.K P vy y) (e : inD x y = some b) {Q : VK} (q : Q (.bl (!b)) H) : ∃ rr, OpR X (compareOp .NotIn) rr ∧ rr vx vy H Q := by
  unfold inD at e
  split at e
  · cases hx; cases hy; cases e
    exact ⟨_, L2.op_notIn_str, _, _, rfl, rfl, q⟩
  · cases hy with | lst hl ra =>
    split at e
    · rename_i h
      rw [Bool.and_eq_true] at h
      cases e
      exact ⟨_, op_notIn_seq, _, _, rfl, .inl (Same.sql r.sub hl), flat_of h.1 hx, flats_of h.2 ra, by rw [if_pos rfl, memV_of h.1 hx h.2 ra]; exact q⟩
    · cases e
  · cases hy with | tup hl ra =>
    split at e
    · rename_i h
      rw [Bool.and_eq_true] at h
      cases e
      exact ⟨_, op_notIn_seq, _, _, rfl, .inr (Same.sqt r.sub hl), flat_of h.1 hx, flats_of h.2 ra, by rw [if_pos rfl, memV_of h.1 hx h.2 ra]; exact q⟩
    · cases e
  · cases e
theorem cmp_sound (r : Rel X.K P α Fr st H) (hu : X.A.units + 64 < cLine) {op : CmpOp} {x y : D} {b : Bool} {vx vy : V} (hx : Rep X.K P vx x) (hy : Rep X.K P vy y) (e : cmpD op x y = some b) {Q : VK} (q : Q (.bl b) H) : ∃ rr, OpR X (compareOp op) rr ∧ rr vx vy H Q := by
  unfold cmpD at e
  split at e
  · exact eq_sound r hu hx hy e q
  · rw [Option.map_eq_some_iff] at e
    obtain ⟨b', e, rfl⟩ := e
    exact ne_sound r hu hx hy e q
  · cases hx; cases hy; cases e
    exact ⟨_, op_lt, _, _, rfl, rfl, q⟩
  · cases hx; cases hy; cases e
    exact ⟨_, op_le, _, _, rfl, rfl, q⟩
  · cases hx; cases hy; cases e
    exact ⟨_, op_gt, _, _, rfl, rfl, q⟩
  · cases hx; cases hy; cases e
    exact ⟨_, op_ge, _, _, rfl, rfl, q⟩
  · cases hy
    refine ⟨_, op_isN, rfl, ?_⟩
    rw [hx.non_iff]
    cases e
    exact q
  · cases hx; cases hy; cases e
    exact ⟨_, op_isBl, _, _, rfl, rfl, q⟩
  · cases hx; cases hy; cases e
    exact ⟨_, op_notBl, _, _, rfl, rfl, q⟩
  · cases hy
    refine ⟨_, op_notN, rfl, ?_⟩
    rw [hx.non_iff]
    cases e
    exact q
  · exact in_sound r hx hy e q
  · rw [Option.map_eq_some_iff] at e
    obtain ⟨b', e, rfl⟩ := e
    exact notin_sound r hx hy e q
  · cases e
end
end Ev
end

section
set_option maxRecDepth 10000
set_option autoImplicit false
/-! EvE: subscripts, slices, built-in functions, by values. -/
namespace Ev
open PySem PySem.Spec PyProof.Rows L2
variable [Lams]

theorem atI_map {α β : Type} (f : α → β) (xs : List α) (i : Int) : atI (xs.map f) i = (atI xs i).map f := by
  unfold atI
  rw [List.length_map]
  cases ixN xs.length i with
  | none => rfl
  | some j => simp
theorem atI_rel {α β : Type} {F : α → β → Prop} {xs : List α} {ys : List β} (hl : xs.length = ys.length) (hg : ∀ (j : Nat) y, ys[j]? = some y → ∃ x, xs[j]? = some x ∧ F x y) {i : Int} {y : β} (e : atI ys i = some y) : ∃ x, atI xs i = some x ∧ F x y := by
  unfold atI at e ⊢
  rw [hl]
  cases h : ixN ys.length i with
  | none => rw [h] at e; cases e
  | some j =>
    rw [h] at e
    obtain ⟨x, e1, e2⟩ := hg j y e
    exact ⟨x, by rw [Option.bind_some]; exact e1, e2⟩

section
variable {X : Cx} {P : Hp} {α : List Addr} {Fr : Hp} {st : Store} {H : Hp}
abbrev GivesU (K : PySem.W.Frag) (P : Hp) (α : List Addr) (Fr : Hp) (st : Store) (z : U) (Q : VK) : Prop := ∀ v H' P' α', Aft K P α Fr st H' P' α' → RepU K P' α' v z → Q v H'

theorem strsz {K : PySem.W.Frag} {s : Str} (h : s.length ≤ sizeMax) : s.length ≤ sizeLine := by rw [← sizeMax_eq]; exact h

/-- a dict's value at a key, as a subscript -/
theorem ix_dget {X : Cx} (hu : X.A.units + 1 < cLine) : IxR X (fun x y H Q => ∃ a v, x = .ref a ∧ DGet H a y (some v) ∧ Q v H) := by
  intro value slice pins s σ H x y v u Q I rx ry h hs
  obtain ⟨a, z, rfl, g, q⟩ := h
  obtain rfl : v = Value.ref a := rx
  have got : wpAny (model X.prog X.w) X.A (getItem (.ref a) u) (EP X pins σ Q) X.xe s := d_getItem hu I g ry fun w' s' I' rw' => ⟨z, H, I', rw', q⟩
  have ty := dict_typeIs I g
  unfold subscriptTail
  refine wpAny_bind ?_
  rw [getitemInPython_of_ne ty.not_modules]
  refine wpAny_bind (wpAny_specialOf ty PySem.F.slot_dict_getitem.lookup ?_)
  have last : wpAny (model X.prog X.w) X.A (subscripted slice false (.ref a) u) (fun r s₃ => wpAny (model X.prog X.w) X.A (letTemporaryGo value (.ref a) r >>= fun _ => pure r) (EP X pins σ Q) X.xe s₃) X.xe s := by
    rw [hs]
    exact wpAny_operating (wpAny_mono got (fun r s₃ h₃ => wpAny_bind (wpAny_letTemporaryGo (wpAny_pure h₃))) fun _ _ x => x)
  first
    | exact wpAny_pure (wpAny_bind last)
    | exact wpAny_bind last
    | exact wpAny_pure last
    | exact last
theorem look_val {K : PySem.W.Frag} {P : Hp} {k : Str} : ∀ {kvs : List (Key × V)} {ps : List (D × D)} {d : D}, RepKv K P kvs ps → lookD ps k = some d → ∃ v, valV kvs (.inr k) = some v ∧ Rep K P v d
  | _, _, _, .nil, e => nomatch e
  | _, _, _, .cons (k := k2) (v := v) (d := d2) h r, e => by
    unfold lookD at e
    cases k2 with
    | inl i =>
      obtain ⟨v', e1, e2⟩ := look_val r (show lookD _ k = _ from e)
      exact ⟨v', by unfold valV at e1 ⊢; rw [List.find?_cons_of_neg (by simp)]; exact e1, e2⟩
    | inr s =>
      by_cases hk : s = k
      · subst hk
        rw [if_pos (by simp [keyD, isKey])] at e
        cases e
        exact ⟨v, by unfold valV; rw [List.find?_cons_of_pos (by simp)]; rfl, h⟩
      · rw [if_neg (by simp [keyD, isKey, hk])] at e
        obtain ⟨v', e1, e2⟩ := look_val r e
        exact ⟨v', by unfold valV at e1 ⊢; rw [List.find?_cons_of_neg (by simpa using hk)]; exact e1, e2⟩
theorem ix_sound (hu : X.A.units + 80 < cLine) (r : Rel X.K P α Fr st H) {x y z : U} {vx vy : V} (hx : RepU X.K P α vx x) (hy : RepU X.K P α vy y) (e : ixU x y st = some z) {Q : VK} (q : GivesU X.K P α Fr st z Q) : ∃ rr, IxR X rr ∧ rr vx vy H Q := by
  unfold ixU at e
  split at e
  · cases hx with | d hx =>
    cases hy with | d hy =>
    cases hy
    cases hx with | dct hd ra =>
    rw [Option.map_eq_some_iff] at e
    obtain ⟨d, e, rfl⟩ := e
    obtain ⟨v, e1, e2⟩ := look_val ra e
    exact ⟨_, ix_dget (by omega), _, v, rfl, .inl ⟨_, .inr _, Same.rd r.sub hd, rfl, e1.symm⟩, q _ _ _ _ (Aft.refl r) (.d e2)⟩
  · cases hx with | d hx =>
    cases hy with | d hy =>
    cases hy
    cases hx with | lst hl ra =>
    rw [Option.map_eq_some_iff] at e
    obtain ⟨d, e, rfl⟩ := e
    obtain ⟨v, e1, e2⟩ := atI_rel (F := Rep X.K P) ra.length (fun j y h => ra.get h) e
    exact ⟨_, ix_list, _, _, _, _, rfl, rfl, Same.sql r.sub hl, e1, q _ _ _ _ (Aft.refl r) (.d e2)⟩
  · cases hx with | d hx =>
    cases hy with | d hy =>
    cases hy
    cases hx with | tup hl ra =>
    rw [Option.map_eq_some_iff] at e
    obtain ⟨d, e, rfl⟩ := e
    obtain ⟨v, e1, e2⟩ := atI_rel (F := Rep X.K P) ra.length (fun j y h => ra.get h) e
    exact ⟨_, ix_tup, _, _, _, _, rfl, rfl, Same.sqt r.sub hl, e1, q _ _ _ _ (Aft.refl r) (.d e2)⟩
  · cases hx with | d hx =>
    cases hy with | d hy =>
    cases hy
    cases hx
    split at e
    · rename_i h
      rw [Option.map_eq_some_iff] at e
      obtain ⟨c, e, rfl⟩ := e
      exact ⟨_, ix_str, _, _, _, rfl, rfl, by rw [← sizeMax_eq]; exact h, e, q _ _ _ _ (Aft.refl r) (.d (.str _))⟩
    · cases e
  · cases hx with | m hx =>
    cases hy with | d hy =>
    cases hy
    split at e
    · rename_i xs h
      obtain ⟨_, _, vs, c3, c4⟩ := r.cell _ _ _ hx h
      obtain ⟨v, e1, e2⟩ := atI_rel (F := RepU X.K P α) (Paired.length c4) (fun j y h => pget c4 h) e
      exact ⟨_, ix_list, _, _, _, _, rfl, rfl, .inl (.inl c3), e1, q _ _ _ _ (Aft.refl r) e2⟩
    · cases e
  · cases e

theorem cut_sl {K : PySem.W.Frag} {vs : List V} {ds : List D} (ra : RepAll K P vs ds) (lo hi : Option Int) : RepAll K P (cutV vs lo hi) (sl ds lo hi) := by
  unfold cutV sl
  rw [ra.length]
  exact (ra.drop _).take _
theorem cut_whole {vs : List V} {lo hi : Option Int} (h : HT.sIx vs.length 0 lo = 0 ∧ HT.sIx vs.length vs.length hi = vs.length) : cutV vs lo hi = vs := by
  unfold cutV
  rw [h.1, h.2]
  simp
theorem sl_sound (r : Rel X.K P α Fr st H) {x z : U} {vx : V} (hx : RepU X.K P α vx x) {lo hi : Option Int} (e : slU x lo hi st = some z) {Q : VK} (q : GivesU X.K P α Fr st z Q) : ∃ rr, SlR X rr ∧ rr vx lo hi H Q := by
  unfold slU at e
  split at e
  · cases e
    cases hx with | d hx =>
    cases hx with | lst hl ra =>
    exact ⟨_, sl_list, _, _, rfl, Same.sql r.sub hl, fun p hp => gives_new r q (fun p s => rep_lst s (cut_sl ra lo hi)) p hp⟩
  · cases e
    cases hx with | d hx =>
    cases hx with | tup hl ra =>
    refine ⟨_, sl_tupA, _, _, rfl, Same.sqt r.sub hl, fun hw => gives_now r q ?_, fun _ p hp => gives_new r q (fun p s => rep_tup s (cut_sl ra lo hi)) p hp⟩
    have := cut_sl ra lo hi
    rw [cut_whole hw] at this
    exact .tup hl this
  · rename_i xs
    cases hx with | m hx =>
    split at e
    · rename_i us h
      rw [Option.map_eq_some_iff] at e
      obtain ⟨ds, e, rfl⟩ := e
      obtain ⟨_, _, vs, c3, c4⟩ := r.cell _ _ _ hx h
      exact ⟨_, sl_list, _, _, rfl, .inl (.inl c3), fun p hp => gives_new r q (fun p s => rep_lst s (cut_sl (c4.toDs e) lo hi)) p hp⟩
    · cases e
  · cases e

/-! ### built-in functions -/
theorem ints_of : ∀ {vs : List V} {ds : List D} {ns : List Int}, RepAll X.K P vs ds → toInts ds = some ns → vs = ns.map V.int
  | _, _, _, .nil, e => by simp [toInts] at e; subst e; rfl
  | _, _, _, .cons (.int i) r, e => by
    simp only [toInts, Option.map_eq_some_iff] at e
    obtain ⟨t, e, rfl⟩ := e
    rw [ints_of r e]; rfl
  | _, _, _, .cons .non r, e => by simp [toInts] at e
  | _, _, _, .cons (.bl _) r, e => by simp [toInts] at e
  | _, _, _, .cons (.str _) r, e => by simp [toInts] at e
  | _, _, _, .cons (.lst _ _) r, e => by simp [toInts] at e
  | _, _, _, .cons (.tup _ _) r, e => by simp [toInts] at e
  | _, _, _, .cons (.dct _ _) r, e => by simp [toInts] at e
theorem bools_of : ∀ {vs : List V} {ds : List D} {ns : List Bool}, RepAll X.K P vs ds → toBools ds = some ns → vs = ns.map V.bl
  | _, _, _, .nil, e => by simp [toBools] at e; subst e; rfl
  | _, _, _, .cons (.bl i) r, e => by
    simp only [toBools, Option.map_eq_some_iff] at e
    obtain ⟨t, e, rfl⟩ := e
    rw [bools_of r e]; rfl
  | _, _, _, .cons .non r, e => by simp [toBools] at e
  | _, _, _, .cons (.int _) r, e => by simp [toBools] at e
  | _, _, _, .cons (.str _) r, e => by simp [toBools] at e
  | _, _, _, .cons (.lst _ _) r, e => by simp [toBools] at e
  | _, _, _, .cons (.tup _ _) r, e => by simp [toBools] at e
  | _, _, _, .cons (.dct _ _) r, e => by simp [toBools] at e

/-- repr of data -/
theorem call_reprD (hg : X.A.guards = some []) (hu : X.A.units + 80 < cLine) : CallR X (.builtin "repr") (fun xs H Q => ∃ x d, xs = [x] ∧ Dp X.K H x d ∧ reprOk d = true ∧ Q (.str (PyData.shown d)) H) := by
  intro pins s σ H xs us Q I r h
  obtain ⟨x, d, rfl, hd, ok, q⟩ := h
  obtain ⟨u, rfl, rx⟩ := vals1 r
  unfold reprOk at ok
  simp only [Bool.and_eq_true, decide_eq_true_eq, Bool.not_eq_true'] at ok
  obtain ⟨⟨⟨h1, h2⟩, h3⟩, h4⟩ := ok
  rw [sizeMax_eq] at h4
  obtain ⟨as, rd⟩ := Dp.reads I d x u hd rx
  cases hd with
  | non =>
    cases rx
    exact PySem.P.repr_of_none ⟨.str _, H, I.tok _, ⟨_, rfl⟩, q⟩
  | bl b =>
    cases rx
    exact PySem.P.repr_of_bool ⟨.str _, H, I.tok _, ⟨_, by cases b <;> rfl⟩, q⟩
  | int i =>
    obtain ⟨t, rfl⟩ := rx
    exact PySem.P.repr_of_int (by simpa [PyData.showable] using h1) ⟨.str _, H, I.tok _, ⟨_, rfl⟩, q⟩
  | str y =>
    obtain ⟨t, rfl⟩ := rx
    exact PySem.P.repr_of_str ⟨.str _, H, I.tok _, ⟨_, rfl⟩, q⟩ (by
      have : (reprText y).length + 64 ≤ sizeLine := h4
      omega)
  | lst hs ha =>
    cases rx
    exact repr_of_reads' rd h1 (PyData.noDict_hsm h2) hg (by omega) (fun _ _ e => e) (fun h' u tk hk => ⟨.str _, H, I.kept hk, ⟨_, rfl⟩, q⟩) (by omega)
  | tup hs ha =>
    cases rx
    exact repr_of_reads' rd h1 (PyData.noDict_hsm h2) hg (by omega) (fun _ _ e => e) (fun h' u tk hk => ⟨.str _, H, I.kept hk, ⟨_, rfl⟩, q⟩) (by omega)

/-- what a builtin's name stands for -/
def bfVal : Bf → Value
  | .len => .builtin "len" | .int => .type "int" | .abs => .builtin "abs" | .repr => .builtin "repr" | .divmod => .builtin "divmod" | .tuple => .type "tuple" | .list _ => .type "list" | .sum => .builtin "sum" | .any => .builtin "any" | .all => .builtin "all"
  | .max2 => .builtin "max" | .min2 => .builtin "min"
theorem repus1 {K : PySem.W.Frag} {P : Hp} {α : List Addr} {vs : List V} {u : U} (h : RepUs K P α vs [u]) : ∃ v, vs = [v] ∧ RepU K P α v u := by
  cases h with | cons a b =>
  cases b
  exact ⟨_, rfl, a⟩
theorem repus2 {K : PySem.W.Frag} {P : Hp} {α : List Addr} {vs : List V} {u w : U} (h : RepUs K P α vs [u, w]) : ∃ v x, vs = [v, x] ∧ RepU K P α v u ∧ RepU K P α x w := by
  cases h with | cons a b =>
  cases b with | cons b c =>
  cases c
  exact ⟨_, _, rfl, a, b⟩
theorem repd {K : PySem.W.Frag} {P : Hp} {α : List Addr} {v : V} {x : D} (h : RepU K P α v (.d x)) : Rep K P v x := by
  cases h; assumption
theorem repus_d {K : PySem.W.Frag} {P : Hp} {α : List Addr} {v : V} {d : D} (h : Rep K P v d) : RepU K P α v (.d d) := .d h

variable {G : Gm} {cl : Nat → Value} {Wx : Value → Option Addr → Hp → Prop}
theorem bf_sound (hc : X.calm = true) (hg : X.A.guards = some []) (hu : X.A.units + 80 < cLine) (r : Rel X.K P α Fr st H) {b : Bf} {us : List U} {vs : List V} (hs : RepUs X.K P α vs us) {Q : VK}
    (q : FitR X.K G cl P α Fr Wx (RepU X.K) (bfD b us st) Q) : ∃ rr, CallR X (bfVal b) rr ∧ rr vs H Q := by
  unfold bfD at q
  split at q
  · obtain ⟨v, rfl, h⟩ := repus1 hs
    cases repd h with | lst hl ra =>
    exact ⟨_, call_len_seq, _, _, rfl, .inl (Same.sql r.sub hl), q _ _ _ _ (Aft.refl r) (.d (by rw [ra.length]; exact .int _))⟩
  · obtain ⟨v, rfl, h⟩ := repus1 hs
    cases repd h with | tup hl ra =>
    exact ⟨_, call_len_seq, _, _, rfl, .inr (Same.sqt r.sub hl), q _ _ _ _ (Aft.refl r) (.d (by rw [ra.length]; exact .int _))⟩
  · obtain ⟨v, rfl, h⟩ := repus1 hs
    cases repd h
    split at q
    · rename_i hz
      exact ⟨_, call_len_str, _, rfl, by rw [← sizeMax_eq]; exact hz, q _ _ _ _ (Aft.refl r) (.d (.int _))⟩
    · exact q.elim
  · obtain ⟨v, rfl, h⟩ := repus1 hs
    cases h with | m hx =>
    split at q
    · rename_i xs h
      obtain ⟨_, _, vs, c3, c4⟩ := r.cell _ _ _ hx h
      exact ⟨_, call_len_seq, _, _, rfl, .inl (.inl (.inl c3)), q _ _ _ _ (Aft.refl r) (.d (by rw [Paired.length c4]; exact .int _))⟩
    · exact q.elim
  · obtain ⟨v, rfl, h⟩ := repus1 hs
    cases repd h
    exact ⟨_, call_int1, .inl ⟨_, rfl, q _ _ _ _ (Aft.refl r) (.d (.int _))⟩⟩
  · obtain ⟨v, rfl, h⟩ := repus1 hs
    cases repd h
    exact ⟨_, call_int1, .inr ⟨_, rfl, q _ _ _ _ (Aft.refl r) (.d (.int _))⟩⟩
  · obtain ⟨v, rfl, h⟩ := repus1 hs
    cases repd h
    exact ⟨_, call_abs, _, rfl, q _ _ _ _ (Aft.refl r) (.d (.int _))⟩
  · rename_i x
    obtain ⟨v, rfl, h⟩ := repus1 hs
    split at q
    · rename_i ok
      have nd : PyData.hasDict x = false := by
        have ok' := ok
        unfold reprOk at ok'
        simp only [Bool.and_eq_true, Bool.not_eq_true'] at ok'
        exact ok'.1.1.2
      exact ⟨_, call_reprD hg hu, _, _, rfl, ((repd h).mono r.sub).dp nd, ok, q _ _ _ _ (Aft.refl r) (.d (.str _))⟩
    · exact q.elim
  · obtain ⟨v, x, rfl, h, h2⟩ := repus2 hs
    cases repd h
    cases repd h2
    split at q
    · rename_i hz
      exact ⟨_, call_divmod, _, _, rfl, hz, fun p hp => q _ _ _ _ (r.new hp _) (.d (rep_tup (sq_up (r.sub.free hp)) (.cons (.int _) (.cons (.int _) .nil))))⟩
    · exact q.elim
  · obtain ⟨v, rfl, h⟩ := repus1 hs
    cases repd h with | lst hl ra =>
    exact ⟨_, call_tuple_of, _, _, rfl, .inl ⟨Same.sql r.sub hl, fun p hp => q _ _ _ _ (r.new hp _) (.d (rep_tup (sq_up (r.sub.free hp)) ra))⟩⟩
  · obtain ⟨v, rfl, h⟩ := repus1 hs
    cases repd h with | tup hl ra =>
    exact ⟨_, call_tuple_of, _, _, rfl, .inr ⟨Same.sqt r.sub hl, q _ _ _ _ (Aft.refl r) (.d (.tup hl ra))⟩⟩
  · obtain ⟨v, rfl, h⟩ := repus1 hs
    cases h with | m hx =>
    split at q
    · rename_i xs h
      obtain ⟨_, _, vs, c3, c4⟩ := r.cell _ _ _ hx h
      split at q
      · rename_i ds hd
        exact ⟨_, call_tuple_of, _, _, rfl, .inl ⟨.inl (.inl c3), fun p hp => q _ _ _ _ (r.new hp _) (.d (rep_tup (sq_up (r.sub.free hp)) (c4.toDs hd)))⟩⟩
      · exact q.elim
    · exact q.elim
  · obtain ⟨v, rfl, h⟩ := repus1 hs
    cases repd h with | lst hl ra =>
    refine ⟨_, call_list_of, _, _, rfl, .inl (Same.sql r.sub hl), fun p hp => ?_⟩
    split at q
    · exact q _ _ _ _ (r.alloc hp (RepUs.of_all ra)) (.m (by rw [← r.len, List.getElem?_append_right (Nat.le_refl _), Nat.sub_self]; rfl))
    · exact q _ _ _ _ (r.new hp _) (.d (rep_lst (sq_up (r.sub.free hp)) ra))
  · obtain ⟨v, rfl, h⟩ := repus1 hs
    cases repd h with | tup hl ra =>
    refine ⟨_, call_list_of, _, _, rfl, .inr (Same.sqt r.sub hl), fun p hp => ?_⟩
    split at q
    · exact q _ _ _ _ (r.alloc hp (RepUs.of_all ra)) (.m (by rw [← r.len, List.getElem?_append_right (Nat.le_refl _), Nat.sub_self]; rfl))
    · exact q _ _ _ _ (r.new hp _) (.d (rep_lst (sq_up (r.sub.free hp)) ra))
  · obtain ⟨v, rfl, h⟩ := repus1 hs
    cases repd h with | lst hl ra =>
    split at q
    · rename_i ns hn
      have e := ints_of ra hn
      subst e
      exact ⟨_, cr_sum hc, _, _, rfl, Same.sql r.sub hl, q _ _ _ _ (Aft.refl r) (.d (.int _))⟩
    · exact q.elim
  · obtain ⟨v, rfl, h⟩ := repus1 hs
    cases repd h with | lst hl ra =>
    split at q
    · rename_i ns hn
      have e := bools_of ra hn
      subst e
      exact ⟨_, cr_any hc, _, _, rfl, Same.sql r.sub hl, q _ _ _ _ (Aft.refl r) (.d (.bl _))⟩
    · exact q.elim
  · obtain ⟨v, rfl, h⟩ := repus1 hs
    cases repd h with | lst hl ra =>
    split at q
    · rename_i ns hn
      have e := bools_of ra hn
      subst e
      exact ⟨_, cr_all hc, _, _, rfl, Same.sql r.sub hl, q _ _ _ _ (Aft.refl r) (.d (.bl _))⟩
    · exact q.elim
  · obtain ⟨v, x, rfl, h, h2⟩ := repus2 hs
    cases repd h
    cases repd h2
    exact ⟨_, call_max2 hc, _, _, rfl, q _ _ _ _ (Aft.refl r) (.d (.int _))⟩
  · obtain ⟨v, x, rfl, h, h2⟩ := repus2 hs
    cases repd h
    cases repd h2
    exact ⟨_, call_min2 hc, _, _, rfl, q _ _ _ _ (Aft.refl r) (.d (.int _))⟩
  · exact q.elim
/-- isinstance(x, a built-in type) -/
theorem ty_of {v : V} {x : D} (r : Rel X.K P α Fr st H) (h : Rep X.K P v x) : ∃ t : String, TyX X.K H v (.type t) ∧ t = tyName x := by
  cases h with
  | non => exact ⟨_, .base .non, rfl⟩
  | bl b => exact ⟨_, .base (.bl b), rfl⟩
  | int i => exact ⟨_, .base (.int i), rfl⟩
  | str s => exact ⟨_, .base (.str s), rfl⟩
  | lst hl ra =>
    rcases Same.sql r.sub hl with (z | ⟨o, z⟩) | ⟨o, its, n, z, c, _⟩
    · exact ⟨_, .base (.lst z), rfl⟩
    · exact ⟨_, .base (.frz z), rfl⟩
    · exact ⟨_, .kList z c, rfl⟩
  | tup hl ra =>
    rcases Same.sqt r.sub hl with (z | ⟨o, z⟩) | ⟨o, its, n, z, c, _⟩
    · exact ⟨_, .base (.tup z), rfl⟩
    · exact ⟨_, .fTuple z, rfl⟩
    · exact ⟨_, .kTuple z c, rfl⟩
  | dct hl ra =>
    rcases Same.rd r.sub hl with z | ⟨o, z⟩
    · exact ⟨_, .base (.dK z), rfl⟩
    · exact ⟨_, .fDict z, rfl⟩
theorem isty_sound (r : Rel X.K P α Fr st H) {t : String} {x : D} {v : V} (h : Rep X.K P v x) {b : Bool} (e : isTy t x = some b) {Q : VK} (q : Q (.bl b) H) : ∃ rr, CallR X (.builtin "isinstance") rr ∧ rr [v, .ty t] H Q := by
  obtain ⟨t', ty, rfl⟩ := ty_of r h
  exact ⟨_, call_isi, v, .ty t, _, .type t, b, rfl, .ty t, ty, kit_ty e, q⟩
end
end Ev
end

section
set_option maxRecDepth 10000
set_option autoImplicit false
/-! EvF: calls of defs. -/
namespace Ev
open PySem PySem.Spec PyProof.Rows L2
variable [Lams]

section
variable {X : Cx} {k : Nat} {f : Addr} {fd : FuncData} {ps : List Str} {sp : Sp} {Wx : WX}
/-- the callee runs, from a body -/
theorem run_g {pins : List (Addr × Obj)} {σ : L2.St} {H : Hp} {s : Shared} {Q : VK} {pos : List Value} {kw : List (Str × Value)} {us : List Value} {vs : List V} (F : FnG X.prog X.w X.K X.mg X.base k f fd ps sp) (hr : Room k X.A) (hg : X.A.guards = some [])
    (tk : Takes X Wx) (I : Inv X pins σ H s) (hb : BindsTo s fd ⟨pos, kw⟩ (ps.zip us)) (r : Vals vs us) (h : sp vs H Q (fun cls d H' => Wx cls d σ H')) : wpAny (model X.prog X.w) X.A (call (.ref f) pos kw) (EP X pins σ Q) X.xe s := by
  have go := F.run X.A X.stack s H ⟨pos, kw⟩ us vs Q _ hr hg I.env0 hb r h
  refine wpAny_call (codeAny_mono go fun res s' hq => ?_)
  match res, hq with
  | .error e, hq => exact tk e s' (XE.of_call I (fun _ _ _ z => z) hq)
  | .ok (.ret u), hq => exact I.after hq
end

section
variable {K : PySem.W.Frag}
/-- what a pure def must leave alone: the store's things, and what its caller leaves alone -/
def frameOf (P : Hp) (α : List Addr) (Fr H : Hp) : Hp := fun b => if P b = none ∧ b ∈ α then H b else Fr b
theorem Rel.tnot {P : Hp} {α : List Addr} {Fr : Hp} {st : Store} {H : Hp} (r : Rel K P α Fr st H) {b : Addr} {ps : Array Value} (e : H b = some (.tbl ps)) : b ∉ α := fun z => by
  obtain ⟨n, hn, hb⟩ := List.mem_iff_getElem.mp z
  have h1 : α[n]? = some b := by rw [List.getElem?_eq_getElem hn, hb]
  have hs : n < st.length := by rw [← r.len]; exact hn
  cases q : st[n] with
  | dead =>
    obtain ⟨o, w⟩ := r.gone n b h1 (by rw [List.getElem?_eq_getElem hs, q])
    rw [(r.tb.nt b ps e).1] at w; cases w
  | lst us =>
    obtain ⟨_, _, vs, w, _⟩ := r.cell n b us h1 (by rw [List.getElem?_eq_getElem hs, q])
    rw [e] at w; cases w
theorem Rel.inner {P : Hp} {α : List Addr} {Fr : Hp} {st : Store} {H : Hp} (r : Rel K P α Fr st H) : Rel K P [] (frameOf P α Fr H) [] H := by
  refine ⟨r.sub, fun b o e => ?_, rfl, List.nodup_nil, fun n a us e => by simp at e, fun b o e => ?_, fun n a e => by simp at e, r.tb.frame fun b ps e => ?_⟩
  rotate_left 2
  · unfold frameOf
    rw [if_neg fun z => r.tnot e z.2]
    exact (r.tb.nt b ps e).2
  · unfold frameOf at e
    split at e
    · exact e
    · exact r.fr b o e
  · unfold frameOf at e
    split at e
    · rename_i h; exact h.1
    · exact r.dis b o e
theorem Rel.outer {P : Hp} {α : List Addr} {Fr : Hp} {st : Store} {H : Hp} (r : Rel K P α Fr st H) {st' : Store} {H' P' : Hp} {α' : List Addr} (a : Aft K P [] (frameOf P α Fr H) st' H' P' α') : Aft K P α Fr st H' P' α := by
  have hf : Same Fr (frameOf P α Fr H) := fun b o e => by
    unfold frameOf
    split
    · exact r.fr b o e
    · exact e
  refine ⟨⟨a.rel.sub, hf.trans a.rel.fr, r.len, r.nd, fun n b us h1 h2 => ?_, fun b o e => a.rel.dis b o (hf b o e), fun n b h1 h2 => (r.gone n b h1 h2).imp fun o e => a.same b o e, a.rel.tb.frame fun b ps e => hf.free (a.rel.tb.nt b ps e).2⟩, a.same, List.prefix_rfl⟩
  obtain ⟨c1, c2, vs, c3, c4⟩ := r.cell n b us h1 h2
  have hb : frameOf P α Fr H b = some (.lst vs) := by
    unfold frameOf
    rw [if_pos ⟨c1, List.mem_of_getElem? h1⟩]
    exact c3
  exact ⟨a.rel.dis b _ hb, c2, vs, a.rel.fr b _ hb, c4.mono a.same List.prefix_rfl⟩
theorem RepU.low {P : Hp} {α α' : List Addr} (p : α <+: α') {v : V} {u : U} (h : RepU K P α' v u) (l : lowU α.length u = true) : RepU K P α v u := by
  cases h with
  | d r => exact .d r
  | m r =>
    obtain ⟨t, rfl⟩ := p
    rw [List.getElem?_append_left (of_decide_eq_true l)] at r
    exact .m r
  | l h1 h2 h3 => exact .l h1 h2 h3
  | g h => exact .g h
  | x h r => exact .x h r
  | t3 h h1 h2 h3 h4 => exact .t3 h h1 h2 h3 h4
theorem RepUs.low {P : Hp} {α α' : List Addr} (p : α <+: α') : ∀ {vs : List V} {us : List U}, RepUs K P α' vs us → us.all (lowU α.length) = true → RepUs K P α vs us
  | _, _, .nil, _ => .nil
  | _, _, .cons h r, l => by
    rw [List.all_cons, Bool.and_eq_true] at l
    exact .cons (h.low p l.1) (RepUs.low p r l.2)
/-- the store is cut -/
theorem Aft.cut {P : Hp} {α : List Addr} {Fr : Hp} {st' : Store} {H' P' : Hp} {α' : List Addr} (a : Aft K P α Fr st' H' P' α') (l : (st'.take α.length).all (lowC α.length) = true) : Aft K P α Fr (st'.take α.length) H' P' α := by
  have hl : α.length ≤ α'.length := a.pre.length_le
  have nx : ∀ (n : Nat) (b : Addr), α[n]? = some b → α'[n]? = some b ∧ n < α.length := fun n b e => by
    have hn := (List.getElem?_eq_some_iff.mp e).1
    refine ⟨?_, hn⟩
    obtain ⟨t, rfl⟩ := a.pre
    rw [List.getElem?_append_left hn]; exact e
  refine ⟨⟨a.rel.sub, a.rel.fr, by rw [List.length_take, ← a.rel.len]; omega, ?_, fun n b us h1 h2 => ?_, a.rel.dis, fun n b h1 h2 => ?_, a.rel.tb⟩, a.same, List.prefix_rfl⟩
  · obtain ⟨t, rfl⟩ := a.pre
    exact (List.nodup_append.mp a.rel.nd).1
  · obtain ⟨h3, hn⟩ := nx n b h1
    have hm := List.all_eq_true.mp l _ (List.mem_of_getElem? h2)
    rw [List.getElem?_take_of_lt hn] at h2
    obtain ⟨c1, c2, vs, c3, c4⟩ := a.rel.cell n b us h3 h2
    exact ⟨c1, c2, vs, c3, c4.low a.pre hm⟩
  · obtain ⟨h3, hn⟩ := nx n b h1
    rw [List.getElem?_take_of_lt hn] at h2
    exact a.rel.gone n b h3 h2
theorem Aft.same_len {P : Hp} {α : List Addr} {Fr : Hp} {st' : Store} {H' P' : Hp} {α' : List Addr} (a : Aft K P α Fr st' H' P' α') (l : st'.length = α.length) : α' = α := by
  obtain ⟨t, rfl⟩ := a.pre
  have := a.rel.len
  rw [List.length_append, l] at this
  have : t = [] := List.eq_nil_of_length_eq_zero (by omega)
  rw [this, List.append_nil]
end

theorem fill_full {F : Fn} {us : List U} (h : us.length = F.ps.length) : fill F us = us := by
  unfold fill
  rw [h, Nat.sub_self, Nat.sub_zero, List.drop_length]
  simp
theorem raw_fill (G : Gm) (W k f : Nat) {F : Fn} (e : G.fns[f]? = some F) (us : List U) (st : Store) (h : (fill F us).length = F.ps.length) : callRaw G W k f (fill F us) st = callRaw G W k f us st := by
  cases k with
  | zero => rfl
  | succ k =>
    unfold callRaw
    rw [e]
    simp only [fill_full h]
theorem raw_len {G : Gm} {W k f : Nat} {F : Fn} (e : G.fns[f]? = some F) {us : List U} {st : Store} (h : callRaw G W k f us st ≠ .stuck) : (fill F us).length = F.ps.length := by
  cases k with
  | zero => exact absurd rfl h
  | succ k =>
    unfold callRaw at h
    rw [e] at h
    simp only at h
    split at h
    · assumption
    · exact absurd rfl h

/-! ### a call's meaning meets the promise -/
abbrev cpK (G : Gm) (W k : Nat) : Nat → List D → R D := fun g ds => lowR (callRaw G W k g (ds.map .d) [])
abbrev cmK (G : Gm) (W k : Nat) : Nat → List U → Store → R U := fun g vs st => cutStore st.length (callRaw G W k g vs st)

section
variable {K : PySem.W.Frag} {G : Gm} {cl : Nat → Value} {W k f : Nat} {F : Fn} {P : Hp} {α : List Addr} {Fr : Hp} {st : Store} {H : Hp} {Wx : Value → Option Addr → Hp → Prop}
/-- the promise of a def at the values of the parameters, from the wish of the call -/
theorem call_spec (e : G.fns[f]? = some F) (r : Rel K P α Fr st H) {us : List U} {vs : List V} (hl : (fill F us).length = F.ps.length) (hs : RepUs K P α vs us) {dvs : List V} (hd : RepAll K (fun _ => none) dvs (F.dfl.drop (F.dfl.length - (F.ps.length - us.length)))) {Q : VK}
    (q : FitR K G cl P α Fr Wx (RepU K) (callU G (cpK G W k) (cmK G W k) f us st) Q) : spec K G cl k f F.ps (vs ++ dvs) H Q Wx := by
  have full : RepUs K P α (vs ++ dvs) (fill F us) := pappend hs (RepUs.of_all (hd.mono (same_none P)))
  refine ⟨by rw [← hl, ← Paired.length full], ?_⟩
  unfold callU at q
  rw [e] at q
  simp only at q
  split at q
  · -- a pure def
    cases hds : toDs us with
    | none => rw [hds] at q; exact q.elim
    | some ds =>
      rw [hds] at q
      have eu := toDs_some hds
      have full0 : RepUs K P [] (vs ++ dvs) (fill F us) := by
        unfold fill
        rw [eu] at hs ⊢
        exact pappend (RepUs.of_all (hs.toDs (toDs_map ds))) (by
          rw [eu] at hd
          exact RepUs.of_all (hd.mono (same_none P)))
      refine ⟨W, P, [], frameOf P α Fr H, [], fill F us, r.inner, full0, ?_⟩
      rw [raw_fill G W k f e us [] hl, eu]
      simp only at q
      cases hr : callRaw G W k f (ds.map .d) [] with
      | ok u st' =>
        simp only [cpK, hr, lowR] at q
        cases u with
        | d x => exact fun v H' P' α' a h => q v H' P' α (r.outer a) (by cases h with | d h => exact .d h)
        | m n => exact q.elim
        | f h => exact q.elim
        | s z => exact q.elim
      | exc c x st' =>
        simp only [cpK, hr, lowR] at q
        exact fun H' P' α' d a h => q H' P' α d (r.outer a) h
      | stuck =>
        simp only [cpK, hr, lowR] at q
        exact q.elim
  · refine ⟨W, P, α, Fr, st, fill F us, r, full, ?_⟩
    rw [raw_fill G W k f e us st hl]
    simp only [cmK] at q
    cases hr : callRaw G W k f us st with
    | ok u st' =>
      rw [hr] at q
      unfold cutStore at q
      simp only at q
      split at q
      · exact q
      · split at q
        · rename_i h1 h2
          rw [Bool.and_eq_true] at h2
          rw [← r.len] at h2 q
          exact fun v H' P' α' a h => q v H' P' α (a.cut h2.2) (h.low a.pre h2.1)
        · exact q
    | exc c x st' =>
      rw [hr] at q
      unfold cutStore at q
      simp only at q
      split at q
      · exact q
      · split at q
        · rename_i h1 h2
          rw [← r.len] at h2 q
          exact fun H' P' α' d a h => q H' P' α d (a.cut h2) h
        · exact q
    | stuck =>
      rw [hr] at q
      exact q.elim
theorem callU_len (e : G.fns[f]? = some F) {us : List U} {rep : Hp → List Addr → V → U → Prop} {Q : VK} (q : FitR K G cl P α Fr Wx rep (callU G (cpK G W k) (cmK G W k) f us st) Q) : (fill F us).length = F.ps.length := by
  refine raw_len (G := G) (W := W) (k := k) (f := f) (us := us) (st := if F.pure then [] else st) e fun z => ?_
  unfold callU at q
  rw [e] at q
  simp only at q
  split at q
  · rename_i hp
    rw [if_pos hp] at z
    cases hds : toDs us with
    | none => rw [hds] at q; exact q
    | some ds =>
      rw [hds] at q
      rw [toDs_some hds] at z
      simp only [cpK, z, lowR] at q
      exact q
  · rename_i hp
    rw [if_neg hp] at z
    simp only [cmK, z, cutStore] at q
    exact q
end
end Ev
end

section
set_option maxRecDepth 10000
set_option autoImplicit false
/-! EvG: expressions' syntax meets the machine's: all but comprehensions. -/
namespace Ev
open PySem PySem.Spec PyProof.Rows L2
variable [Lams]

/-! ### the given syntax -/
theorem star_cons {e : Expr} {es : List Expr} {env : PySem.Env} (h : ∀ x p, e ≠ .Starred x p) : starEach (e :: es) env = (false, eval e env) :: starEach es env := by
  cases e <;> first | rfl | exact absurd rfl (h _ _)
section
variable {G : Gm}
theorem chk_nostar {c : Ct} {e : E} {x : Expr} {p : Pos} : chkE G c e (.Starred x p) = false := by
  cases e with
  | _ => first | rfl | simp [chkE, dictShape, repShape, gen2, isVarE]
theorem chk_ns {c : Ct} {e : E} {a : Expr} (h : chkE G c e a = true) : ∀ x p, a ≠ .Starred x p := fun x p z => by
  subst z
  rw [chk_nostar] at h; cases h
theorem chk_noslice {c : Ct} {e : E} {x y z : Option Expr} {p : Pos} : chkE G c e (.Slice x y z p) = false := by
  cases e with
  | _ => first | rfl | simp [chkE, dictShape, repShape, gen2, isVarE]
theorem chk_plainIx {c : Ct} {e : E} {a : Expr} (h : chkE G c e a = true) : PlainIx a := by
  cases a <;> first | exact fun _ _ => rfl | (rw [chk_noslice] at h; cases h)
theorem chk_noset {c : Ct} {e : E} {x : List Expr} {n : Nat} {p : Pos} : chkE G c e (.Set x n p) = false := by
  cases e with
  | _ => first | rfl | simp [chkE, dictShape, repShape, gen2, isVarE]
theorem chk_nomark {c : Ct} {e : E} {a : Expr} (h : chkE G c e a = true) (op : CmpOp) : behindInMarks op a = false := by
  cases a <;> first | rfl | (rw [chk_noset] at h; cases h)
theorem chk_nofold {c : Ct} {e : E} {a : Expr} (h : chkE G c e a = true) (env : PySem.Env) : ∀ x, foldedSetIterable a env x = pure x := by
  cases a <;> first | exact fun _ => rfl | (rw [chk_noset] at h; cases h)
theorem chkEs_len : ∀ {es : Es} {xs : List Expr} {c : Ct}, chkEs G c es xs = true → ∀ (env : PySem.Env), (starEach xs env).length = xs.length
  | .nil, [], _, _, _ => rfl
  | .nil, _ :: _, _, h, _ => by simp [chkEs] at h
  | .cons _ _, [], _, h, _ => by simp [chkEs] at h
  | .cons e es, x :: xs, c, h, env => by
    simp only [chkEs, Bool.and_eq_true] at h
    rw [star_cons (chk_ns h.1)]
    simp [chkEs_len h.2 env]
theorem chkEs_plain : ∀ {es : Es} {xs : List Expr} {c : Ct}, chkEs G c es xs = true → ∀ (pos : Pos) (env : PySem.Env), (backTo pos (starEach xs env)).any (·.1) = false
  | .nil, [], _, _, _, _ => rfl
  | .nil, _ :: _, _, h, _, _ => by simp [chkEs] at h
  | .cons _ _, [], _, h, _, _ => by simp [chkEs] at h
  | .cons e es, x :: xs, c, h, pos, env => by
    simp only [chkEs, Bool.and_eq_true] at h
    rw [star_cons (chk_ns h.1)]
    show (false || (backTo pos (starEach xs env)).any (·.1)) = false
    rw [chkEs_plain h.2 pos env]
    rfl
theorem chkEs_all {es : Es} {xs : List Expr} {c : Ct} (h : chkEs G c es xs = true) (pos : Pos) (env : PySem.Env) : (backTo pos (starEach xs env)).all (fun x => !x.1) = true := by
  have := chkEs_plain h pos env
  rw [List.all_eq_true]
  intro x hx
  have := List.any_eq_false.mp this x hx
  simpa using this
theorem chk_nosuper {c : Ct} {e : E} {p q : Pos} : chkE G c e (.Call (.Name "super" p) [] [] q) = false := by
  cases e with
  | _ => simp [chkE, chkF, dictShape, repShape, gen2, isVarE]
theorem chk_base {c : Ct} {e : E} {a : Expr} (h : chkE G c e a = true) (n : Str) (env : PySem.Env) : attributeBase a n env (eval a env) = eval a env := by
  unfold attributeBase
  split
  · rename_i id q pos
    split
    · rfl
    · rename_i z
      exfalso
      simp only [Bool.or_eq_true, bne_iff_ne, ne_eq, beq_iff_eq, not_or, Decidable.not_not] at z
      rw [z.1.1.1, chk_nosuper] at h
      cases h
  · rfl
end

/-! ### what is shown of each expression -/
section
variable (G : Gm) (W k : Nat) (cl : Nat → Value)
def SndE (e : E) : Prop := ∀ (X : Cx) (c : Ct) (a : Expr) (Wx : WX), Sta G cl k X c → Takes X Wx → chkE G c e a = true → ∀ (σ : L2.St) (H P : Hp) (α : List Addr) (Fr : Hp) (st : Store) (ε : Env), Rel X.K P α Fr st H → EnvOk X.K P α σ ε → ∀ Q : VK,
  FitR X.K G cl P α Fr (fun v d H' => Wx v d σ H') (RepU X.K) (evE G (cpK G W k) (cmK G W k) e ε st) Q → WE X a σ H Q
def toB (u : U) (st : Store) : R Bool := match u with
  | .d (.bool b) => .ok b st
  | _ => .stuck
def SndT (e : E) : Prop := ∀ (X : Cx) (c : Ct) (a : Expr) (Wx : WX), Sta G cl k X c → Takes X Wx → chkE G c e a = true → ∀ (σ : L2.St) (H P : Hp) (α : List Addr) (Fr : Hp) (st : Store) (ε : Env), Rel X.K P α Fr st H → EnvOk X.K P α σ ε → ∀ Q : Bool → Hp → Prop,
  FitR X.K G cl P α Fr (fun v d H' => Wx v d σ H') (fun _ _ v u => v = u) ((evE G (cpK G W k) (cmK G W k) e ε st).bind toB) Q → WT X a σ H Q
def SndEs (es : Es) : Prop := ∀ (X : Cx) (c : Ct) (as : List Expr) (Wx : WX), Sta G cl k X c → Takes X Wx → chkEs G c es as = true → ∀ (σ : L2.St) (H P : Hp) (α : List Addr) (Fr : Hp) (st : Store) (ε : Env), Rel X.K P α Fr st H → EnvOk X.K P α σ ε → ∀ Q : List V → Hp → Prop,
  FitR X.K G cl P α Fr (fun v d H' => Wx v d σ H') (RepUs X.K) (evEs G (cpK G W k) (cmK G W k) es ε st) Q → WA X as σ H Q
end

section
variable {G : Gm} {W k : Nat} {cl : Nat → Value}
theorem fitT {K : PySem.W.Frag} {P : Hp} {α : List Addr} {Fr : Hp} {Wx : Value → Option Addr → Hp → Prop} {r : R U} {Q : Bool → Hp → Prop} (h : FitR K G cl P α Fr Wx (fun _ _ v u => v = u) (r.bind toB) Q) :
    FitR K G cl P α Fr Wx (RepU K) r (fun x H1 => ∃ c, x = .bl c ∧ Q c H1) :=
  FitR.bind h fun u st1 v H1 P1 α1 _ a rep q => by
    unfold toB at q
    split at q
    · cases rep with | d rep =>
      cases rep
      exact ⟨_, rfl, q _ _ _ _ (Aft.refl a.rel) rfl⟩
    · exact q.elim
/-- a test by its value -/
theorem SndE.test {e : E} (h : SndE G W k cl e) (he : ∀ (c : Ct) (a : Expr) (env : PySem.Env), chkE G c e a = true → ∀ whole, isTrue a env whole = (do let v ← whole; standAt a.pos; holding [v] (truthy v))) : SndT G W k cl e := by
  intro X c a Wx S tk hc σ H P α Fr st ε r ev Q q
  exact WT.of (pt_val pe_W (he c a X.env hc)) (h X c a Wx S tk hc σ H P α Fr st ε r ev _ (fitT q))

theorem snd_con {kc : Const} : SndE G W k cl (.con kc) := by
  intro X c a Wx S tk hc σ H P α Fr st ε r ev Q q
  cases a <;> simp only [chkE, Bool.false_eq_true] at hc
  have e := of_decide_eq_true hc
  subst e
  unfold evE at q
  split at q
  · rename_i d hd
    exact we_con hd fun v h => q v H P α (Aft.refl r) (.d (h P))
  · exact q.elim
theorem snd_var {i : Nat} : SndE G W k cl (.var i) := by
  intro X c a Wx S tk hc σ H P α Fr st ε r ev Q q
  cases a <;> simp only [chkE, Bool.false_eq_true] at hc
  unfold evE at q
  split at q
  · rename_i u hu
    exact we_var S hc ev hu fun v h => q v H P α (Aft.refl r) h
  · exact q.elim
theorem snd_glob {g : Nat} : SndE G W k cl (.glob g) := by
  intro X c a Wx S tk hc σ H P α Fr st ε r ev Q q
  cases a <;> simp only [chkE, Bool.false_eq_true] at hc
  simp only [Bool.and_eq_true] at hc
  unfold evE at q
  split at q
  · rename_i p hp
    have e := isE_of hc.1.1
    rw [hp] at e
    have e' : p.1 = _ := Option.some.inj e
    subst e'
    exact we_glob S hc.1.2 hc.2 hp fun v h => q v H P α (Aft.refl r) (.d (h P))
  · exact q.elim
abbrev opbAny (X : Cx) (op : Operator) : R2 := fun x y H Q => ∃ rr, OpR X (binaryOp op) rr ∧ rr x y H Q
theorem opb_any {X : Cx} {op : Operator} : OpR X (binaryOp op) (opbAny X op) := fun pins s σ H x y v u Q I r1 r2 ⟨rr, h1, h2⟩ => h1 pins s σ H x y v u Q I r1 r2 h2
theorem snd_bin {op : Operator} {a b : E} (ha : SndE G W k cl a) (hb : SndE G W k cl b) : SndE G W k cl (.bin op a b) := by
  intro X c x Wx S tk hc σ H P α Fr st ε r ev Q q
  cases x <;> simp only [chkE, Bool.false_eq_true] at hc
  simp only [Bool.and_eq_true] at hc
  have e := of_decide_eq_true hc.1.1
  subst e
  unfold evE at q
  refine WE.of (pe_op opb_any pe_W pe_W) ?_
  refine ha X c _ Wx S tk hc.1.2 σ H P α Fr st ε r ev _ (FitR.bind q fun x st1 vx H1 P1 α1 e1 a1 rx q1 => ?_)
  refine hb X c _ Wx S tk hc.2 σ H1 P1 α1 Fr st1 ε a1.rel (ev.mono a1.same a1.pre) _ (FitR.bind q1 fun y st2 vy H2 P2 α2 e2 a2 ry q2 => ?_)
  split at q2
  · rename_i x y
    have rx' := (rx.mono a2.same a2.pre)
    cases rx' with | d rx' =>
    cases ry with | d ry =>
    cases hz : binD _ x y with
    | none => rw [hz] at q2; exact q2.elim
    | some z =>
      rw [hz] at q2
      exact bin_sound a2.rel rx' ry hz fun v H' P' α' b h => q2 v H' P' α' b h
  · exact q2.elim
theorem snd_neg {a : E} (ha : SndE G W k cl a) : SndE G W k cl (.neg a) := by
  intro X c x Wx S tk hc σ H P α Fr st ε r ev Q q
  cases x with
  | UnaryOp o y pos =>
    cases o <;> simp only [chkE, Bool.false_eq_true] at hc
    unfold evE at q
    refine WE.of (pe_un un_neg pe_W) ?_
    refine ha X c _ Wx S tk hc σ H P α Fr st ε r ev _ (FitR.bind q fun x st1 vx H1 P1 α1 e1 a1 rx q1 => ?_)
    split at q1
    · cases rx with | d rx =>
      cases rx
      exact ⟨_, rfl, q1 _ _ _ _ (Aft.refl a1.rel) (.d (.int _))⟩
    · exact q1.elim
  | _ => simp only [chkE, Bool.false_eq_true] at hc
theorem snd_not {a : E} (ha : SndE G W k cl a) : SndE G W k cl (.not_ a) := by
  intro X c x Wx S tk hc σ H P α Fr st ε r ev Q q
  cases x with
  | UnaryOp o y pos =>
    cases o <;> simp only [chkE, Bool.false_eq_true] at hc
    unfold evE at q
    refine WE.of (pe_not pe_W) ?_
    refine ha X c _ Wx S tk hc σ H P α Fr st ε r ev _ (FitR.bind q fun x st1 vx H1 P1 α1 e1 a1 rx q1 => ?_)
    split at q1
    · cases rx with | d rx =>
      cases rx
      exact ⟨_, rfl, q1 _ _ _ _ (Aft.refl a1.rel) (.d (.bl _))⟩
    · exact q1.elim
  | _ => simp only [chkE, Bool.false_eq_true] at hc
theorem tst_not {a : E} (ha : SndT G W k cl a) : SndT G W k cl (.not_ a) := by
  intro X c x Wx S tk hc σ H P α Fr st ε r ev Q q
  cases x with
  | UnaryOp o y pos =>
    cases o <;> simp only [chkE, Bool.false_eq_true] at hc
    refine WT.of (pt_not pt_W) ?_
    refine ha X c _ Wx S tk hc σ H P α Fr st ε r ev _ ?_
    unfold evE at q
    cases hr : evE G (cpK G W k) (cmK G W k) a ε st with
    | ok u st1 =>
      rw [hr] at q
      cases u with
      | m n => exact q.elim
      | f h => exact q.elim
      | s z => exact q.elim
      | d x =>
        cases x with
        | bool b =>
          intro v H' P' α' b e
          exact q (!v) H' P' α' b (by rw [e])
        | _ => exact q.elim
    | exc c x st1 => rw [hr] at q; exact q
    | stuck => rw [hr] at q; exact q
  | _ => simp only [chkE, Bool.false_eq_true] at hc
abbrev opAny (X : Cx) (op : CmpOp) : R2 := fun x y H Q => ∃ rr, OpR X (compareOp op) rr ∧ rr x y H Q
theorem op_any {X : Cx} {op : CmpOp} : OpR X (compareOp op) (opAny X op) := fun pins s σ H x y v u Q I r1 r2 ⟨rr, h1, h2⟩ => h1 pins s σ H x y v u Q I r1 r2 h2
theorem snd_cmp {op : CmpOp} {a b : E} (ha : SndE G W k cl a) (hb : SndE G W k cl b) : SndE G W k cl (.cmp op a b) := by
  intro X c x Wx S tk hc σ H P α Fr st ε r ev Q q
  cases x with
  | Compare l os rs pos =>
    rcases os with _ | ⟨o, _ | ⟨o2, os⟩⟩ <;> rcases rs with _ | ⟨y, _ | ⟨y2, rs⟩⟩ <;> simp only [chkE, Bool.false_eq_true] at hc
    simp only [Bool.and_eq_true] at hc
    have e := of_decide_eq_true hc.1.1
    subst e
    unfold evE at q
    refine WE.of (pe_cmpR op_any pe_W pe_W (chk_nomark hc.2 _)) ?_
    refine ha X c _ Wx S tk hc.1.2 σ H P α Fr st ε r ev _ (FitR.bind q fun x st1 vx H1 P1 α1 e1 a1 rx q1 => ?_)
    refine hb X c _ Wx S tk hc.2 σ H1 P1 α1 Fr st1 ε a1.rel (ev.mono a1.same a1.pre) _ (FitR.bind q1 fun y st2 vy H2 P2 α2 e2 a2 ry q2 => ?_)
    split at q2
    · rename_i x y
      have rx' := (rx.mono a2.same a2.pre)
      cases rx' with | d rx' =>
      cases ry with | d ry =>
      cases hz : cmpD _ x y with
      | none => rw [hz] at q2; exact q2.elim
      | some z =>
        rw [hz] at q2
        exact cmp_sound a2.rel (by have := S.hu; omega) rx' ry hz (q2 _ _ _ _ (Aft.refl a2.rel) (.d (.bl _)))
    · exact q2.elim
  | _ => simp only [chkE, Bool.false_eq_true] at hc
theorem tst_cmp {op : CmpOp} {a b : E} (ha : SndE G W k cl a) (hb : SndE G W k cl b) : SndT G W k cl (.cmp op a b) := by
  intro X c x Wx S tk hc σ H P α Fr st ε r ev Q q
  cases x with
  | Compare l os rs pos =>
    rcases os with _ | ⟨o, _ | ⟨o2, os⟩⟩ <;> rcases rs with _ | ⟨y, _ | ⟨y2, rs⟩⟩ <;> simp only [chkE, Bool.false_eq_true] at hc
    simp only [Bool.and_eq_true] at hc
    have e := of_decide_eq_true hc.1.1
    subst e
    have q := fitT q
    unfold evE at q
    refine WT.of (pt_cmpR op_any pe_W pe_W (chk_nomark hc.2 _)) ?_
    refine ha X c _ Wx S tk hc.1.2 σ H P α Fr st ε r ev _ (FitR.bind q fun x st1 vx H1 P1 α1 e1 a1 rx q1 => ?_)
    refine hb X c _ Wx S tk hc.2 σ H1 P1 α1 Fr st1 ε a1.rel (ev.mono a1.same a1.pre) _ (FitR.bind q1 fun y st2 vy H2 P2 α2 e2 a2 ry q2 => ?_)
    split at q2
    · rename_i x y
      have rx' := (rx.mono a2.same a2.pre)
      cases rx' with | d rx' =>
      cases ry with | d ry =>
      cases hz : cmpD _ x y with
      | none => rw [hz] at q2; exact q2.elim
      | some z =>
        rw [hz] at q2
        exact cmp_sound (Q := fun x H' => ∃ k, x = .bl k ∧ Q k H') a2.rel (by have := S.hu; omega) rx' ry hz (q2 _ _ _ _ (Aft.refl a2.rel) (.d (.bl _)))
    · exact q2.elim
  | _ => simp only [chkE, Bool.false_eq_true] at hc
theorem lastm {G : Gm} {c : Ct} {e : E} {a b : Expr} {o o2 : CmpOp} (h : chkE G c e b = true) : lastMarks [o, o2] [a, b] = false := by
  show behindInMarks o2 b = false
  exact chk_nomark h _
theorem chain_go {op op2 : CmpOp} {a b d : E} (ha : SndE G W k cl a) (hb : SndE G W k cl b) (hd : SndE G W k cl d) {X : Cx} {c : Ct} {l y z : Expr} {Wx : WX} (S : Sta G cl k X c) (tk : Takes X Wx) (h1 : chkE G c a l = true) (h2 : chkE G c b y = true) (h3 : chkE G c d z = true)
    {σ : L2.St} {H P : Hp} {α : List Addr} {Fr : Hp} {st : Store} {ε : Env} (r : Rel X.K P α Fr st H) (ev : EnvOk X.K P α σ ε) {Q : VK}
    (q : FitR X.K G cl P α Fr (fun v d H' => Wx v d σ H') (RepU X.K) (evE G (cpK G W k) (cmK G W k) (.chain op op2 a b d) ε st) Q) : tChain (opAny X op) (opAny X op2) (WE X l) (WE X y) (WE X z) σ H Q := by
  unfold evE at q
  have hu : X.A.units + 64 < cLine := by have := S.hu; omega
  refine ha X c _ Wx S tk h1 σ H P α Fr st ε r ev _ (FitR.bind q fun x st1 vx H1 P1 α1 e1 a1 rx q1 => ?_)
  refine hb X c _ Wx S tk h2 σ H1 P1 α1 Fr st1 ε a1.rel (ev.mono a1.same a1.pre) _ (FitR.bind q1 fun y st2 vy H2 P2 α2 e2 a2 ry q2 => ?_)
  split at q2
  · rename_i x y
    have rx' := (rx.mono a2.same a2.pre)
    cases rx' with | d rx' =>
    cases ry with | d ry =>
    split at q2
    · rename_i hz
      refine cmp_sound (Q := fun w H3 => ∃ kk, w = .bl kk ∧ (if kk = true then WE X z σ H3 fun w' H4 => opAny X op2 vy w' H4 Q else Q (.bl false) H3)) a2.rel hu rx' ry hz ⟨true, rfl, ?_⟩
      rw [if_pos rfl]
      refine hd X c _ Wx S tk h3 σ H2 P2 α2 Fr st2 ε a2.rel ((ev.mono a1.same a1.pre).mono a2.same a2.pre) _ (FitR.bind q2 fun w st3 vw H3 P3 α3 e3 a3 rw q3 => ?_)
      split at q3
      · rename_i w
        cases rw with | d rw =>
        cases hz2 : cmpD op2 y w with
        | none => rw [hz2] at q3; exact q3.elim
        | some z2 =>
          rw [hz2] at q3
          exact cmp_sound a3.rel hu (ry.mono a3.same) rw hz2 (q3 _ _ _ _ (Aft.refl a3.rel) (.d (.bl _)))
      · exact q3.elim
    · rename_i hz
      refine cmp_sound (Q := fun w H3 => ∃ kk, w = .bl kk ∧ (if kk = true then WE X z σ H3 fun w' H4 => opAny X op2 vy w' H4 Q else Q (.bl false) H3)) a2.rel hu rx' ry hz ⟨false, rfl, ?_⟩
      rw [if_neg Bool.false_ne_true]
      exact q2 _ _ _ _ (Aft.refl a2.rel) (.d (.bl _))
    · exact q2.elim
  · exact q2.elim
theorem snd_chain {op op2 : CmpOp} {a b d : E} (ha : SndE G W k cl a) (hb : SndE G W k cl b) (hd : SndE G W k cl d) : SndE G W k cl (.chain op op2 a b d) := by
  intro X c x Wx S tk hc σ H P α Fr st ε r ev Q q
  cases x with
  | Compare l os rs pos =>
    rcases os with _ | ⟨o, _ | ⟨o2, _ | ⟨o3, os⟩⟩⟩ <;> rcases rs with _ | ⟨y, _ | ⟨y2, _ | ⟨y3, rs⟩⟩⟩ <;> simp only [chkE, Bool.false_eq_true] at hc
    simp only [Bool.and_eq_true] at hc
    obtain ⟨⟨⟨⟨e1, e2⟩, h1⟩, h2⟩, h3⟩ := hc
    have e1 := of_decide_eq_true e1
    have e2 := of_decide_eq_true e2
    subst e1 e2
    exact WE.of (pe_chain op_any op_any pe_W pe_W pe_W (lastm h3)) (chain_go ha hb hd S tk h1 h2 h3 r ev q)
  | _ => simp only [chkE, Bool.false_eq_true] at hc
theorem tst_chain {op op2 : CmpOp} {a b d : E} (ha : SndE G W k cl a) (hb : SndE G W k cl b) (hd : SndE G W k cl d) : SndT G W k cl (.chain op op2 a b d) := by
  intro X c x Wx S tk hc σ H P α Fr st ε r ev Q q
  cases x with
  | Compare l os rs pos =>
    rcases os with _ | ⟨o, _ | ⟨o2, _ | ⟨o3, os⟩⟩⟩ <;> rcases rs with _ | ⟨y, _ | ⟨y2, _ | ⟨y3, rs⟩⟩⟩ <;> simp only [chkE, Bool.false_eq_true] at hc
    simp only [Bool.and_eq_true] at hc
    obtain ⟨⟨⟨⟨e1, e2⟩, h1⟩, h2⟩, h3⟩ := hc
    have e1 := of_decide_eq_true e1
    have e2 := of_decide_eq_true e2
    subst e1 e2
    exact WT.of (pt_chain op_any op_any pe_W pe_W pe_W (lastm h3)) (chain_go ha hb hd S tk h1 h2 h3 r ev (fitT q))
  | _ => simp only [chkE, Bool.false_eq_true] at hc
end
end Ev
end

section
set_option maxRecDepth 10000
set_option autoImplicit false
/-! EvH: expressions' syntax meets the machine's: and, or, displays, subscripts, calls, methods. -/
namespace Ev
open PySem PySem.Spec PyProof.Rows L2
variable [Lams]

section
variable {G : Gm} {W k : Nat} {cl : Nat → Value}
/-! ### and, or, if -/
theorem snd_and {a b : E} (ha : SndE G W k cl a) (hb : SndE G W k cl b) : SndE G W k cl (.and_ a b) := by
  intro X c x Wx S tk hc σ H P α Fr st ε r ev Q q
  have key : ∀ l y, chkE G c a l = true → chkE G c b y = true → tAndV (WE X l) (WE X y) σ H Q := by
    intro l y h1 h2
    unfold evE at q
    refine ha X c _ Wx S tk h1 σ H P α Fr st ε r ev _ (FitR.bind q fun x st1 vx H1 P1 α1 e1 a1 rx q1 => ?_)
    split at q1
    · cases rx with | d rx =>
      cases rx
      refine ⟨true, rfl, ?_⟩
      rw [if_pos rfl]
      exact hb X c _ Wx S tk h2 σ H1 P1 α1 Fr st1 ε a1.rel (ev.mono a1.same a1.pre) _ q1
    · cases rx with | d rx =>
      cases rx
      refine ⟨false, rfl, ?_⟩
      rw [if_neg Bool.false_ne_true]
      exact q1 _ _ _ _ (Aft.refl a1.rel) (.d (.bl _))
    · exact q1.elim
  cases x with
  | BoolOp o vs pos =>
    cases o with
    | And =>
      rcases vs with _ | ⟨l, _ | ⟨y, _ | ⟨z, r'⟩⟩⟩ <;> simp only [chkE, Bool.false_eq_true] at hc
      · simp only [Bool.and_eq_true] at hc
        exact WE.of (pe_and pe_W (pe_one pe_W)) (key l y hc.1 hc.2)
      · simp only [Bool.and_eq_true] at hc
        exact WE.of (pe_and pe_W pe_W) (key l _ hc.1 hc.2)
    | Or => simp only [chkE, Bool.false_eq_true] at hc
  | _ => simp only [chkE, Bool.false_eq_true] at hc
theorem snd_or {a b : E} (ha : SndE G W k cl a) (hb : SndE G W k cl b) : SndE G W k cl (.or_ a b) := by
  intro X c x Wx S tk hc σ H P α Fr st ε r ev Q q
  have key : ∀ l y, chkE G c a l = true → chkE G c b y = true → tOrV (WE X l) (WE X y) σ H Q := by
    intro l y h1 h2
    unfold evE at q
    refine ha X c _ Wx S tk h1 σ H P α Fr st ε r ev _ (FitR.bind q fun x st1 vx H1 P1 α1 e1 a1 rx q1 => ?_)
    split at q1
    · cases rx with | d rx =>
      cases rx
      refine ⟨true, rfl, ?_⟩
      rw [if_pos rfl]
      exact q1 _ _ _ _ (Aft.refl a1.rel) (.d (.bl _))
    · cases rx with | d rx =>
      cases rx
      refine ⟨false, rfl, ?_⟩
      rw [if_neg Bool.false_ne_true]
      exact hb X c _ Wx S tk h2 σ H1 P1 α1 Fr st1 ε a1.rel (ev.mono a1.same a1.pre) _ q1
    · exact q1.elim
  cases x with
  | BoolOp o vs pos =>
    cases o with
    | Or =>
      rcases vs with _ | ⟨l, _ | ⟨y, _ | ⟨z, r'⟩⟩⟩ <;> simp only [chkE, Bool.false_eq_true] at hc
      · simp only [Bool.and_eq_true] at hc
        exact WE.of (pe_or pe_W (pe_one pe_W)) (key l y hc.1 hc.2)
      · simp only [Bool.and_eq_true] at hc
        exact WE.of (pe_or pe_W pe_W) (key l _ hc.1 hc.2)
    | And => simp only [chkE, Bool.false_eq_true] at hc
  | _ => simp only [chkE, Bool.false_eq_true] at hc
theorem ww_boolop {X : Cx} {o : BoolOp} {vs : List Expr} {pos : Pos} {σ : L2.St} {H : Hp} {Q : Bool → Hp → Prop} (h : WT X (.BoolOp o vs pos) σ H Q) : WW X (.BoolOp o vs pos) σ H Q := fun wh pins s I => by
  have e : isTrue (.BoolOp o vs pos) X.env wh = isTrue (.BoolOp o vs pos) X.env (eval (.BoolOp o vs pos) X.env) := rfl
  rw [e]
  exact h pins s I
theorem fit_and {K : PySem.W.Frag} {P : Hp} {α : List Addr} {Fr : Hp} {Wx : Value → Option Addr → Hp → Prop} {r : R U} {f : U → Store → R U} {Q : Bool → Hp → Prop}
    (q : FitR K G cl P α Fr Wx (fun _ _ v u => v = u) ((r.bind f).bind toB) Q) {Qa : Bool → Hp → Prop}
    (k' : ∀ b st1 H1 P1 α1, r = .ok (.d (.bool b)) st1 → Aft K P α Fr st1 H1 P1 α1 → FitR K G cl P1 α1 Fr Wx (fun _ _ v u => v = u) ((f (.d (.bool b)) st1).bind toB) Q → Qa b H1)
    (hf : ∀ u st1, (∀ b, u ≠ .d (.bool b)) → f u st1 = .stuck) : FitR K G cl P α Fr Wx (fun _ _ v u => v = u) (r.bind toB) Qa := by
  cases r with
  | ok u st1 =>
    by_cases h : ∃ b, u = .d (.bool b)
    · obtain ⟨b, rfl⟩ := h
      intro v H' P' α' a e
      subst e
      exact k' v st1 H' P' α' rfl a (FitR.weak q a)
    · have z : f u st1 = .stuck := hf u st1 fun b e => h ⟨b, e⟩
      have q' : FitR K G cl P α Fr Wx (fun _ _ v u => v = u) ((f u st1).bind toB) Q := q
      rw [z] at q'
      exact q'.elim
  | exc c x st1 => exact q
  | stuck => exact q
theorem tst_and {a b : E} (ha : SndT G W k cl a) (hb : SndT G W k cl b) : SndT G W k cl (.and_ a b) := by
  intro X c x Wx S tk hc σ H P α Fr st ε r ev Q q
  have key : ∀ l y (T : L2.St → Hp → (Bool → Hp → Prop) → Prop), chkE G c a l = true → chkE G c b y = true → (∀ H Q, WT X y σ H Q → T σ H Q) → tAnd (WT X l) T σ H Q := by
    intro l y T h1 h2 hT
    unfold evE at q
    refine ha X c _ Wx S tk h1 σ H P α Fr st ε r ev _ (fit_and q (fun b st1 H1 P1 α1 e1 a1 q1 => ?_) fun u st1 h => ?_)
    · cases b with
      | true =>
        rw [if_pos rfl]
        exact hT _ _ (hb X c _ Wx S tk h2 σ H1 P1 α1 Fr st1 ε a1.rel (ev.mono a1.same a1.pre) _ q1)
      | false =>
        rw [if_neg Bool.false_ne_true]
        exact q1 _ _ _ _ (Aft.refl a1.rel) rfl
    · split
      · exact absurd rfl (h _)
      · exact absurd rfl (h _)
      · rfl
  cases x with
  | BoolOp o vs pos =>
    cases o with
    | And =>
      rcases vs with _ | ⟨l, _ | ⟨y, _ | ⟨z, r'⟩⟩⟩ <;> simp only [chkE, Bool.false_eq_true] at hc
      · simp only [Bool.and_eq_true] at hc
        exact WT.of (PW.pt (pw_and pt_W (pw_and1 pt_W))) (key l y _ hc.1 hc.2 fun _ _ h => h)
      · simp only [Bool.and_eq_true] at hc
        exact WT.of (PW.pt (pw_and pt_W pw_W)) (key l _ _ hc.1 hc.2 fun _ _ h => ww_boolop h)
    | Or => simp only [chkE, Bool.false_eq_true] at hc
  | _ => simp only [chkE, Bool.false_eq_true] at hc
theorem tst_or {a b : E} (ha : SndT G W k cl a) (hb : SndT G W k cl b) : SndT G W k cl (.or_ a b) := by
  intro X c x Wx S tk hc σ H P α Fr st ε r ev Q q
  have key : ∀ l y (T : L2.St → Hp → (Bool → Hp → Prop) → Prop), chkE G c a l = true → chkE G c b y = true → (∀ H Q, WT X y σ H Q → T σ H Q) → tOr (WT X l) T σ H Q := by
    intro l y T h1 h2 hT
    unfold evE at q
    refine ha X c _ Wx S tk h1 σ H P α Fr st ε r ev _ (fit_and q (fun b st1 H1 P1 α1 e1 a1 q1 => ?_) fun u st1 h => ?_)
    · cases b with
      | true =>
        rw [if_pos rfl]
        exact q1 _ _ _ _ (Aft.refl a1.rel) rfl
      | false =>
        rw [if_neg Bool.false_ne_true]
        exact hT _ _ (hb X c _ Wx S tk h2 σ H1 P1 α1 Fr st1 ε a1.rel (ev.mono a1.same a1.pre) _ q1)
    · split
      · exact absurd rfl (h _)
      · exact absurd rfl (h _)
      · rfl
  cases x with
  | BoolOp o vs pos =>
    cases o with
    | Or =>
      rcases vs with _ | ⟨l, _ | ⟨y, _ | ⟨z, r'⟩⟩⟩ <;> simp only [chkE, Bool.false_eq_true] at hc
      · simp only [Bool.and_eq_true] at hc
        exact WT.of (PW.pt (pw_or pt_W (pw_or1 pt_W))) (key l y _ hc.1 hc.2 fun _ _ h => h)
      · simp only [Bool.and_eq_true] at hc
        exact WT.of (PW.pt (pw_or pt_W pw_W)) (key l _ _ hc.1 hc.2 fun _ _ h => ww_boolop h)
    | And => simp only [chkE, Bool.false_eq_true] at hc
  | _ => simp only [chkE, Bool.false_eq_true] at hc
theorem snd_ite {t a b : E} (ht : SndT G W k cl t) (ha : SndE G W k cl a) (hb : SndE G W k cl b) : SndE G W k cl (.ite t a b) := by
  intro X c x Wx S tk hc σ H P α Fr st ε r ev Q q
  cases x with
  | IfExp t' a' b' pos =>
    simp only [chkE, Bool.and_eq_true] at hc
    obtain ⟨⟨h1, h2⟩, h3⟩ := hc
    refine WE.of (pe_ifExp pt_W pe_W pe_W) ?_
    unfold evE at q
    refine ht X c _ Wx S tk h1 σ H P α Fr st ε r ev _ ?_
    cases hr : evE G (cpK G W k) (cmK G W k) t ε st with
    | ok u st1 =>
      rw [hr] at q
      cases u with
      | m n => exact q.elim
      | f h => exact q.elim
      | s z => exact q.elim
      | d x =>
        cases x with
        | bool v =>
          intro v' H1 P1 α1 a1 e
          subst e
          have q1 := FitR.weak q a1
          cases v' with
          | true =>
            rw [if_pos rfl]
            exact ha X c _ Wx S tk h2 σ H1 P1 α1 Fr st1 ε a1.rel (ev.mono a1.same a1.pre) _ q1
          | false =>
            rw [if_neg Bool.false_ne_true]
            exact hb X c _ Wx S tk h3 σ H1 P1 α1 Fr st1 ε a1.rel (ev.mono a1.same a1.pre) _ q1
        | _ => exact q.elim
    | exc c x st1 => rw [hr] at q; exact q
    | stuck => rw [hr] at q; exact q
  | _ => simp only [chkE, Bool.false_eq_true] at hc
theorem tst_ite {t a b : E} (ht : SndT G W k cl t) (ha : SndT G W k cl a) (hb : SndT G W k cl b) : SndT G W k cl (.ite t a b) := by
  intro X c x Wx S tk hc σ H P α Fr st ε r ev Q q
  cases x with
  | IfExp t' a' b' pos =>
    simp only [chkE, Bool.and_eq_true] at hc
    obtain ⟨⟨h1, h2⟩, h3⟩ := hc
    intro pins s I
    refine isTrue_IfExp ?_
    have key : WT X t' σ H (fun c H1 => if c = true then WT X a' σ H1 Q else WT X b' σ H1 Q) := by
      unfold evE at q
      refine ht X c _ Wx S tk h1 σ H P α Fr st ε r ev _ (fit_and q (fun b st1 H1 P1 α1 e1 a1 q1 => ?_) fun u st1 h => ?_)
      · cases b with
        | true =>
          rw [if_pos rfl]
          exact ha X c _ Wx S tk h2 σ H1 P1 α1 Fr st1 ε a1.rel (ev.mono a1.same a1.pre) _ q1
        | false =>
          rw [if_neg Bool.false_ne_true]
          exact hb X c _ Wx S tk h3 σ H1 P1 α1 Fr st1 ε a1.rel (ev.mono a1.same a1.pre) _ q1
      · split
        · exact absurd rfl (h _)
        · exact absurd rfl (h _)
        · rfl
    refine thn (key pins s I) fun c s1 ⟨H1, I1, q1⟩ => ?_
    cases c with
    | true => rw [if_pos rfl] at q1; exact q1 pins s1 I1
    | false => rw [if_neg Bool.false_ne_true] at q1; exact q1 pins s1 I1
  | _ => simp only [chkE, Bool.false_eq_true] at hc

/-! ### lists of expressions, displays -/
theorem snd_nil : SndEs G W k cl .nil := by
  intro X c as Wx S tk hc σ H P α Fr st ε r ev Q q
  cases as with
  | nil =>
    unfold evEs at q
    exact WA.of pa_nil (q _ _ _ _ (Aft.refl r) .nil)
  | cons => simp only [chkEs, Bool.false_eq_true] at hc
theorem snd_cons {e : E} {es : Es} (he : SndE G W k cl e) (hs : SndEs G W k cl es) : SndEs G W k cl (.cons e es) := by
  intro X c as Wx S tk hc σ H P α Fr st ε r ev Q q
  cases as with
  | nil => simp only [chkEs, Bool.false_eq_true] at hc
  | cons x xs =>
    simp only [chkEs, Bool.and_eq_true] at hc
    refine WA.of (pa_cons pe_W pa_W (star_cons (chk_ns hc.1))) ?_
    unfold evEs at q
    refine he X c _ Wx S tk hc.1 σ H P α Fr st ε r ev _ (FitR.bind q fun u st1 v H1 P1 α1 e1 a1 rx q1 => ?_)
    refine hs X c _ Wx S tk hc.2 σ H1 P1 α1 Fr st1 ε a1.rel (ev.mono a1.same a1.pre) _ (FitR.bind q1 fun us st2 vs H2 P2 α2 e2 a2 ry q2 => ?_)
    exact q2 _ _ _ _ (Aft.refl a2.rel) (.cons (rx.mono a2.same a2.pre) ry)
theorem snd_tup {es : Es} (hs : SndEs G W k cl es) : SndE G W k cl (.tup es) := by
  intro X c x Wx S tk hc σ H P α Fr st ε r ev Q q
  cases x with
  | Tuple xs n pos =>
    simp only [chkE] at hc
    refine WE.of (pe_tup pa_W) ?_
    show WA X xs σ H _
    unfold evE at q
    refine hs X c _ Wx S tk hc σ H P α Fr st ε r ev _ (FitR.bind q fun us st1 vs H1 P1 α1 e1 a1 rx q1 => ?_)
    split at q1
    · rename_i ds hd
      split at q1
      · rename_i hz
        have ra := rx.toDs hd
        exact ⟨by rw [ra.length, ← sizeMax_eq]; exact hz, fun p hp => q1 _ _ _ _ (a1.rel.new hp _) (.d (rep_tup (sq_up (a1.rel.sub.free hp)) ra))⟩
      · exact q1.elim
    · exact q1.elim
  | _ => simp only [chkE, Bool.false_eq_true] at hc
theorem alloc_fit {X : Cx} {P : Hp} {α : List Addr} {Fr : Hp} {st : Store} {H : Hp} {Wx : Value → Option Addr → Hp → Prop} (r : Rel X.K P α Fr st H) {mu : Bool} {us : List U} {vs : List V} (h : RepUs X.K P α vs us) {Q : VK}
    (q : FitR X.K G cl P α Fr Wx (RepU X.K) (allocL mu us st) Q) {p : Addr} (hp : H p = none) : Q (.ref p) (upd H p (.lst vs)) := by
  unfold allocL at q
  split at q
  · exact q _ _ _ _ (r.alloc hp h) (.m (by rw [← r.len, List.getElem?_append_right (Nat.le_refl _), Nat.sub_self]; rfl))
  · split at q
    · rename_i ds hd
      exact q _ _ _ _ (r.new hp _) (.d (rep_lst (sq_up (r.sub.free hp)) (h.toDs hd)))
    · exact q.elim
theorem snd_lst {mu : Bool} {es : Es} (hs : SndEs G W k cl es) : SndE G W k cl (.lst mu es) := by
  intro X c x Wx S tk hc σ H P α Fr st ε r ev Q q
  cases x with
  | List xs pos =>
    simp only [chkE] at hc
    refine WE.of (pe_lst pa_W) ?_
    unfold evE at q
    refine hs X c _ Wx S tk hc σ H P α Fr st ε r ev _ (FitR.bind q fun us st1 vs H1 P1 α1 e1 a1 rx q1 => ?_)
    split at q1
    · rename_i hz
      exact ⟨by rw [Paired.length rx, ← sizeMax_eq]; exact hz, fun p hp => alloc_fit a1.rel rx q1 hp⟩
    · exact q1.elim
  | _ => simp only [chkE, Bool.false_eq_true] at hc

/-! ### subscripts, slices -/
abbrev ixAny (X : Cx) : R2 := fun x y H Q => ∃ rr, IxR X rr ∧ rr x y H Q
theorem ix_any {X : Cx} : IxR X (ixAny X) := fun a b pins s σ H x y v u Q I r1 r2 ⟨rr, h1, h2⟩ => h1 a b pins s σ H x y v u Q I r1 r2 h2
theorem snd_ix {a b : E} (ha : SndE G W k cl a) (hb : SndE G W k cl b) : SndE G W k cl (.ix a b) := by
  intro X c x Wx S tk hc σ H P α Fr st ε r ev Q q
  cases x with
  | Subscript y z pos =>
    simp only [chkE, Bool.and_eq_true] at hc
    refine WE.of (pe_ix ix_any pe_W pe_W (chk_plainIx hc.2)) ?_
    unfold evE at q
    refine ha X c _ Wx S tk hc.1 σ H P α Fr st ε r ev _ (FitR.bind q fun x st1 vx H1 P1 α1 e1 a1 rx q1 => ?_)
    refine hb X c _ Wx S tk hc.2 σ H1 P1 α1 Fr st1 ε a1.rel (ev.mono a1.same a1.pre) _ (FitR.bind q1 fun y st2 vy H2 P2 α2 e2 a2 ry q2 => ?_)
    cases hz : ixU x y st2 with
    | none => rw [hz] at q2; exact q2.elim
    | some z =>
      rw [hz] at q2
      exact ix_sound S.hu a2.rel (rx.mono a2.same a2.pre) ry hz fun v H' P' α' b h => q2 v H' P' α' b h
  | _ => simp only [chkE, Bool.false_eq_true] at hc
abbrev slAny (X : Cx) : V → Option Int → Option Int → Hp → VK → Prop := fun x lo hi H Q => ∃ rr, SlR X rr ∧ rr x lo hi H Q
theorem sl_any {X : Cx} : SlR X (slAny X) := fun pins s σ H x v vl vu lo hi sl Q I rx hs pl pu ⟨rr, h1, h2⟩ => h1 pins s σ H x v vl vu lo hi sl Q I rx hs pl pu h2
/-- a part of a slice: left out, or one expression -/
def WO (X : Cx) (e : Option Expr) : TO := fun σ H Q => match e with
  | none => Q none H
  | some a => WE X a σ H fun x H1 => ∃ i, x = .int i ∧ Q (some i) H1
theorem po_W {X : Cx} {e : Option Expr} : PO X e (WO X e) := by
  cases e with
  | none => exact po_none
  | some a => exact po_some pe_W
/-- each expression of a list -/
def AllE (p : E → Prop) : Es → Prop
  | .nil => True
  | .cons e es => p e ∧ AllE p es
theorem sndEs_of : ∀ {es : Es}, AllE (SndE G W k cl) es → SndEs G W k cl es
  | .nil, _ => snd_nil
  | .cons _ _, h => snd_cons h.1 (sndEs_of h.2)
theorem part_of {es : Es} (hs : AllE (SndE G W k cl) es) {X : Cx} {c : Ct} {o : Option Expr} {Wx : WX} (S : Sta G cl k X c) (tk : Takes X Wx) (hc : chkEs G c es o.toList = true)
    {σ : L2.St} {H P : Hp} {α : List Addr} {Fr : Hp} {st : Store} {ε : Env} (r : Rel X.K P α Fr st H) (ev : EnvOk X.K P α σ ε) {Q : Option Int → Hp → Prop}
    (q : FitR X.K G cl P α Fr (fun v d H' => Wx v d σ H') (fun _ _ v u => v = u) ((evEs G (cpK G W k) (cmK G W k) es ε st).bind partI) Q) : WO X o σ H Q := by
  cases o with
  | none =>
    cases es with
    | cons e es => simp [chkEs] at hc
    | nil =>
      unfold evEs at q
      exact q none _ _ _ (Aft.refl r) rfl
  | some a =>
    cases es with
    | nil => simp [chkEs] at hc
    | cons e es =>
      cases es with
      | cons e2 es2 => simp [chkEs] at hc
      | nil =>
        simp only [Option.toList, chkEs, Bool.and_true] at hc
        unfold WO
        refine hs.1 X c _ Wx S tk hc σ H P α Fr st ε r ev _ ?_
        unfold evEs evEs at q
        cases hr : evE G (cpK G W k) (cmK G W k) e ε st with
        | ok u st1 =>
          rw [hr] at q
          cases u with
          | m n => exact q.elim
          | f h => exact q.elim
          | s z => exact q.elim
          | d x =>
            cases x with
            | int i =>
              intro v H' P' α' b h
              cases h with | d h =>
              cases h
              exact ⟨i, rfl, q (some i) H' P' α' b rfl⟩
            | _ => exact q.elim
        | exc c x st1 => rw [hr] at q; exact q
        | stuck => rw [hr] at q; exact q
theorem snd_slice {a : E} {lo hi : Es} (ha : SndE G W k cl a) (hl : AllE (SndE G W k cl) lo) (hh : AllE (SndE G W k cl) hi) : SndE G W k cl (.slice a lo hi) := by
  intro X c x Wx S tk hc σ H P α Fr st ε r ev Q q
  cases x with
  | Subscript y z pos =>
    cases z with
    | Slice l h s p2 =>
      cases s with
      | some s => simp only [chkE, Bool.false_eq_true] at hc
      | none =>
        simp only [chkE, Bool.and_eq_true] at hc
        obtain ⟨⟨h1, h2⟩, h3⟩ := hc
        refine WE.of (pe_slice sl_any pe_W po_W po_W) ?_
        unfold evE at q
        refine ha X c _ Wx S tk h1 σ H P α Fr st ε r ev _ (FitR.bind q fun x st1 vx H1 P1 α1 e1 a1 rx q1 => ?_)
        refine part_of hl S tk h2 a1.rel (ev.mono a1.same a1.pre) (FitR.bind q1 fun l st2 vl H2 P2 α2 e2 a2 rl q2 => ?_)
        refine part_of hh S tk h3 a2.rel ((ev.mono a1.same a1.pre).mono a2.same a2.pre) (FitR.bind q2 fun h st3 vh H3 P3 α3 e3 a3 rh q3 => ?_)
        subst rl rh
        cases hz : slU x vl vh st3 with
        | none => rw [hz] at q3; exact q3.elim
        | some z =>
          rw [hz] at q3
          exact sl_sound a3.rel ((rx.mono a2.same a2.pre).mono a3.same a3.pre) hz fun v H' P' α' b h => q3 v H' P' α' b h
    | _ => simp only [chkE, Bool.false_eq_true] at hc
  | _ => simp only [chkE, Bool.false_eq_true] at hc

/-! ### calls of defs -/
theorem call_part {X : Cx} {c : Ct} {f : Nat} {F : Fn} {Wx : WX} (S : Sta G cl k X c) (tk : Takes X Wx) (e : G.fns[f]? = some F) {a : Addr} {fd : FuncData} (FG : FnG X.prog X.w X.K X.mg X.base k a fd F.ps (spec X.K G cl k f F.ps))
    (hB : ∀ j, j ≤ F.dfl.length → ∃ (ds : List Value) (vs : List V), Binds X.K fd F.ps ds ∧ Vals vs ds ∧ RepAll X.K (fun _ => none) vs (F.dfl.drop (F.dfl.length - j)))
    {σ : L2.St} {P : Hp} {α : List Addr} {Fr : Hp} {st1 : Store} {H1 : Hp} {us : List U} {vs : List V} {Q : VK} (r1 : Rel X.K P α Fr st1 H1) (ru : RepUs X.K P α vs us)
    (q1 : FitR X.K G cl P α Fr (fun v d H' => Wx v d σ H') (RepU X.K) (callU G (cpK G W k) (cmK G W k) f us st1) Q)
    {pins : List (Addr × Obj)} {s : Shared} (I : Inv X pins σ H1 s) {ws : List Value} (rv : Vals vs ws) : wpAny (model X.prog X.w) X.A (call (.ref a) ws) (EP X pins σ Q) X.xe s := by
  have hl := callU_len e q1
  have hl2 : us.length + (F.dfl.length - (F.dfl.length - (F.ps.length - us.length))) = F.ps.length := by
    have := hl
    unfold fill at this
    rw [List.length_append, List.length_map, List.length_drop] at this
    exact this
  obtain ⟨ds, dvs, b1, b2, b3⟩ := hB (F.ps.length - us.length) (by omega)
  have h5 : (ws ++ ds).length = F.ps.length := by
    have e1 := Paired.length ru
    have e2 := rv.length
    have e3 := b3.length
    have e4 := b2.length
    rw [List.length_drop] at e3
    rw [List.length_append]
    omega
  exact run_g FG S.room S.guards tk I (b1 s ws I.kIn h5) (rv.append b2) (call_spec e r1 hl ru b3 q1)
theorem snd_call {f : Nat} {es : Es} (hs : SndEs G W k cl es) : SndE G W k cl (.call f es) := by
  intro X c x Wx S tk hc σ H P α Fr st ε r ev Q q
  cases x with
  | Call fn xs kws pos =>
    cases fn with
    | Name n p =>
      cases kws with
      | cons kw kws => simp only [chkE, Bool.false_eq_true] at hc
      | nil =>
        simp only [chkE, Bool.and_eq_true] at hc
        obtain ⟨hf, hx⟩ := hc
        unfold chkF at hf
        simp only [Bool.and_eq_true] at hf
        obtain ⟨⟨⟨⟨h1, h2⟩, h3⟩, h4⟩, h5⟩ := hf
        split at h1
        · rename_i F e
          have en := of_decide_eq_true h1
          subst en
          obtain ⟨a, fd, m1, m2, FG, hB, _⟩ := (S.fn f F e (of_decide_eq_true h5)).ex
          unfold evE at q
          have args : WA X xs σ H (fun vs H1 => ∀ pins s (ws : List Value), Inv X pins σ H1 s → Vals vs ws → wpAny (model X.prog X.w) X.A (call (.ref a) ws) (EP X pins σ Q) X.xe s) := by
            refine hs X c _ Wx S tk hx σ H P α Fr st ε r ev _ (FitR.bind q fun us st1 vs H1 P1 α1 e1 a1 ru q1 => ?_)
            intro pins s ws I rv
            exact call_part S tk e FG hB a1.rel ru q1 I rv
          intro pins s I
          refine wpAny_Call_Name_kw (ld_glob I (S.gl h2) m1 ?_ (nm_of h3).1)
          cases xs with
          | nil =>
            have args0 := args pos pins s I
            cases es with
            | cons e' es' => simp [chkEs] at hx
            | nil =>
              unfold evEs at q
              exact PySem.W.callWith_K0 I.kIn m2 (call_part S tk e FG hB r .nil q I .nil)
          | cons y ys =>
            cases es with
            | nil => simp [chkEs] at hx
            | cons e' es' =>
              simp only [chkEs, Bool.and_eq_true] at hx
              refine PySem.W.callWith_K (h₀ := X.base) I.ok.mod.kin m2 (thn (args pos pins s I) fun us s1 ⟨vs, H1, I1, rv, q1⟩ => ⟨I1.kIn, ?_⟩) (star_cons (chk_ns hx.1)) (chkEs_plain hx.2 _ _)
              exact q1 pins s1 us I1 rv
        · cases h1
    | _ => simp only [chkE, Bool.false_eq_true] at hc
  | _ => simp only [chkE, Bool.false_eq_true] at hc
end
end Ev
end

section
set_option maxRecDepth 10000
set_option autoImplicit false
/-! EvI: calls with keywords, of built-in functions, of methods. -/
namespace Ev
open PySem PySem.Spec PyProof.Rows L2
variable [Lams]

theorem pick_rel {α β : Type} {F : α → β → Prop} {xs : List α} {ys : List β} (h : Paired F xs ys) : ∀ {js : List Nat} {vs : List β}, pick ys js = some vs → ∃ us, pick xs js = some us ∧ Paired F us vs
  | [], vs, e => by
    cases e
    exact ⟨[], rfl, .nil⟩
  | j :: js, vs, e => by
    unfold pick at e
    split at e
    · rename_i b r e1 e2
      cases e
      obtain ⟨us, h1, h2⟩ := pick_rel h e2
      obtain ⟨a, h3, h4⟩ := pget h e1
      exact ⟨a :: us, by unfold pick; rw [h3, h1], .cons h4 h2⟩
    · cases e
theorem pick_rel' {α β : Type} {F : α → β → Prop} {xs : List α} {ys : List β} (h : Paired F xs ys) : ∀ {js : List Nat} {us : List α}, pick xs js = some us → ∃ vs, pick ys js = some vs ∧ Paired F us vs
  | [], us, e => by
    cases e
    exact ⟨[], rfl, .nil⟩
  | j :: js, us, e => by
    unfold pick at e
    split at e
    · rename_i b r e1 e2
      cases e
      obtain ⟨vs, h1, h2⟩ := pick_rel' h e2
      obtain ⟨a, h3, h4⟩ := pget' h e1
      exact ⟨a :: vs, by unfold pick; rw [h3, h1], .cons h4 h2⟩
    · cases e
theorem pick_len {α : Type} {us : List α} : ∀ {js : List Nat} {vs : List α}, pick us js = some vs → vs.length = js.length
  | [], vs, e => by cases e; rfl
  | j :: js, vs, e => by
    unfold pick at e
    split at e
    · rename_i a r e1 e2
      cases e
      simp [pick_len e2]
    · cases e

section
variable {G : Gm} {W k : Nat} {cl : Nat → Value}
theorem kw_names {ps : List Str} : ∀ {ks : List Nat} {kws : List Keyword}, chkKw ps ks kws = true → ∀ (pos : Pos) (env : PySem.Env), (backToKw pos (keywordEach kws env)).all (·.1.isSome) = true ∧ (backToKw pos (keywordEach kws env)).filterMap (·.1) = ks.filterMap (ps[·]?) ∧ (backToKw pos (keywordEach kws env)).any (·.1.isNone) = false ∧ ks.length = kws.length
  | [], [], _, _, _ => ⟨rfl, rfl, rfl, rfl⟩
  | [], _ :: _, h, _, _ => by simp [chkKw] at h
  | _ :: _, [], h, _, _ => by simp [chkKw] at h
  | k :: ks, ⟨none, v, p⟩ :: r, h, _, _ => by simp [chkKw] at h
  | k :: ks, ⟨some n, v, p⟩ :: r, h, pos, env => by
    simp only [chkKw, Bool.and_eq_true] at h
    obtain ⟨h1, h2, h3, h4⟩ := kw_names h.2 pos env
    have e := isE_of h.1
    refine ⟨?_, ?_, ?_, by simp [h4]⟩
    · show (true && (backToKw pos (keywordEach r env)).all (·.1.isSome)) = true
      rw [h1]; rfl
    · rw [List.filterMap_cons, e]
      show n :: (backToKw pos (keywordEach r env)).filterMap (·.1) = _
      rw [h2]
    · show (false || (backToKw pos (keywordEach r env)).any (·.1.isNone)) = false
      rw [h3]; rfl
def SndKs (G : Gm) (W k : Nat) (cl : Nat → Value) (es : Es) : Prop := ∀ (X : Cx) (c : Ct) (kws : List Keyword) (Wx : WX), Sta G cl k X c → Takes X Wx → chkEs G c es (kwVals kws) = true → ∀ (σ : L2.St) (H P : Hp) (α : List Addr) (Fr : Hp) (st : Store) (ε : Env), Rel X.K P α Fr st H → EnvOk X.K P α σ ε → ∀ Q : List V → Hp → Prop,
  FitR X.K G cl P α Fr (fun v d H' => Wx v d σ H') (RepUs X.K) (evEs G (cpK G W k) (cmK G W k) es ε st) Q → WK X kws σ H Q
theorem sndKs_of : ∀ {es : Es}, AllE (SndE G W k cl) es → SndKs G W k cl es
  | .nil, _ => by
    intro X c as Wx S tk hc σ H P α Fr st ε r ev Q q
    cases as with
    | nil =>
      unfold evEs at q
      exact WK.of pk_nil (q _ _ _ _ (Aft.refl r) .nil)
    | cons kw r => obtain ⟨n, v, p⟩ := kw; simp [kwVals, chkEs] at hc
  | .cons e es, h => by
    intro X c as Wx S tk hc σ H P α Fr st ε r ev Q q
    cases as with
    | nil => simp [kwVals, chkEs] at hc
    | cons kw kws =>
      obtain ⟨n, v, p⟩ := kw
      simp only [kwVals, chkEs, Bool.and_eq_true] at hc
      refine WK.of (pk_cons pe_W pk_W) ?_
      unfold evEs at q
      refine h.1 X c _ Wx S tk hc.1 σ H P α Fr st ε r ev _ (FitR.bind q fun u st1 v H1 P1 α1 e1 a1 rx q1 => ?_)
      refine sndKs_of h.2 X c _ Wx S tk hc.2 σ H1 P1 α1 Fr st1 ε a1.rel (ev.mono a1.same a1.pre) _ (FitR.bind q1 fun us st2 vs H2 P2 α2 e2 a2 ry q2 => ?_)
      exact q2 _ _ _ _ (Aft.refl a2.rel) (.cons (rx.mono a2.same a2.pre) ry)
theorem evEs_len : ∀ {es : Es} {ε : Env} {st st1 : Store} {us : List U} {xs : List Expr} {c : Ct}, chkEs G c es xs = true → evEs G (cpK G W k) (cmK G W k) es ε st = .ok us st1 → us.length = xs.length
  | .nil, ε, st, st1, us, [], c, _, e => by unfold evEs at e; cases e; rfl
  | .nil, ε, st, st1, us, _ :: _, c, h, e => by simp [chkEs] at h
  | .cons _ _, ε, st, st1, us, [], c, h, e => by simp [chkEs] at h
  | .cons a es, ε, st, st1, us, x :: xs, c, h, e => by
    simp only [chkEs, Bool.and_eq_true] at h
    unfold evEs at e
    cases h1 : evE G (cpK G W k) (cmK G W k) a ε st with
    | ok u st2 =>
      rw [h1] at e
      simp only [R.bind] at e
      cases h2 : evEs G (cpK G W k) (cmK G W k) es ε st2 with
      | ok us' st3 =>
        rw [h2] at e
        cases e
        simp [evEs_len h.2 h2]
      | exc => rw [h2] at e; cases e
      | stuck => rw [h2] at e; cases e
    | exc => rw [h1] at e; cases e
    | stuck => rw [h1] at e; cases e
theorem kwVals_len : ∀ kws : List Keyword, (kwVals kws).length = kws.length
  | [] => rfl
  | ⟨_, _, _⟩ :: r => by simp [kwVals, kwVals_len r]
theorem snd_callK {f : Nat} {ks js : List Nat} {es : Es} (hs : SndKs G W k cl es) : SndE G W k cl (.callK f ks js es) := by
  intro X c x Wx S tk hc σ H P α Fr st ε r ev Q q
  cases x with
  | Call fn xs kws pos =>
    cases fn with
    | Name n p =>
      cases xs with
      | cons y ys => simp only [chkE, Bool.false_eq_true] at hc
      | nil =>
        simp only [chkE, Bool.and_eq_true] at hc
        obtain ⟨⟨hf, hk⟩, hx⟩ := hc
        unfold chkF at hf
        simp only [Bool.and_eq_true] at hf
        obtain ⟨⟨⟨⟨h1, h2⟩, h3⟩, h4⟩, h5⟩ := hf
        split at h1
        · rename_i F e
          rw [e] at hk
          simp only [Bool.and_eq_true] at hk
          obtain ⟨⟨hk1, hk2⟩, hk3⟩ := hk
          have hk3 := of_decide_eq_true hk3
          have en := of_decide_eq_true h1
          subst en
          obtain ⟨a, fd, m1, m2, FG, _, hK⟩ := (S.fn f F e (of_decide_eq_true h5)).ex
          obtain ⟨k1, k2, k3, k4⟩ := kw_names hk1 pos X.env
          unfold evE at q
          intro pins s I
          refine wpAny_Call_Name_kw (ld_glob I (S.gl h2) m1 ?_ (nm_of h3).1)
          have hp := hK (ks, js) (by simpa using hk2)
          have run : WK X kws σ H (fun vs H1 => ∀ pins s (ws : List Value), Inv X pins σ H1 s → Vals vs ws → wpAny (model X.prog X.w) X.A (call (.ref a) ([] ++ []) ((ks.filterMap (F.ps[·]?)).zip ws)) (EP X pins σ Q) X.xe s) := by
            refine hs X c _ Wx S tk hx σ H P α Fr st ε r ev _ (FitR.bind q fun us st1 vs H1 P1 α1 e1 a1 ru q1 => ?_)
            intro pins s ws I rv
            split at q1
            · rename_i us' hus
              obtain ⟨vs', p1, p2⟩ := pick_rel ru hus
              obtain ⟨ws', p3, p4⟩ := pick_rel' rv p1
              have hl := callU_len e q1
              have hlen : us'.length = F.ps.length := by rw [pick_len hus]; exact hk3
              have full := fill_full hlen
              have hw : ws.length = ks.length := by
                rw [k4, ← kwVals_len kws, ← evEs_len hx e1, ← Paired.length ru, rv.length]
              have z := call_spec (dvs := []) e a1.rel hl p2 (by rw [hlen, Nat.sub_self, Nat.sub_zero, List.drop_length]; exact .nil) q1
              rw [List.append_nil] at z
              exact run_g FG S.room S.guards tk I (hp s ws ws' I.kIn hw p3) p4 z
            · exact q1.elim
          refine PySem.W.callWith_KW0 (h₀ := X.base) I.ok.mod.kin m2 k1 (thn (run pos pins s I) fun ws s2 ⟨zs, H2, I2, rz, q2⟩ => ⟨I2.kIn, ?_⟩) (by rw [k3]; rfl)
          rw [k2]
          exact q2 pins s2 ws I2 rz
        · cases h1
    | _ => simp only [chkE, Bool.false_eq_true] at hc
  | _ => simp only [chkE, Bool.false_eq_true] at hc

/-! ### built-in functions -/
theorem boot_bf (b : Bf) : bootBuiltins (bfName b) = some (bfVal b) ∧ bfName b ≠ ("__name__" : Str) ∧ (bfName b == ("__debug__" : Str)) = false := by
  cases b with
  | list mu =>
    show bootBuiltins ("list" : Str) = some (.type "list") ∧ ("list" : Str) ≠ ("__name__" : Str) ∧ (("list" : Str) == ("__debug__" : Str)) = false
    exact ⟨by decide +kernel, by decide, by decide⟩
  | _ => exact ⟨by decide +kernel, by decide, by decide⟩
theorem boot_ty (t : Ty) : bootBuiltins (Str.ofString t.name) = some (.type t.name) ∧ Str.ofString t.name ≠ ("__name__" : Str) ∧ (Str.ofString t.name == ("__debug__" : Str)) = false := by
  cases t <;> exact ⟨by decide +kernel, by decide, by decide⟩
theorem we_callV {X : Cx} {x : Str} {p pos : Pos} {e : Expr} {es : List Expr} {t : TA} {v : Value} {rr : List V → Hp → VK → Prop} (hv : (∃ id, v = .builtin id) ∨ ∃ T, v = .type T) (hc : CallR X v rr) (hg : Gl X x) (hm : X.mg x = none) (hb : bootBuiltins x = some v) (ha : PA X (e :: es) t)
    (hn : x ≠ ("__name__" : Str)) (hd : (x == ("__debug__" : Str)) = false) (he : starEach (e :: es) X.env = (false, eval e X.env) :: starEach es X.env) (hpl : (backTo pos (starEach es X.env)).any (·.1) = false) : PE X (.Call (.Name x p) (e :: es) [] pos) (tCB rr t) := by
  rcases hv with ⟨id, rfl⟩ | ⟨T, rfl⟩
  · exact pe_callB hc hg hm hb ha hn hd he hpl
  · exact pe_callTy hc hg hm hb ha hn hd he hpl
abbrev callAny (X : Cx) (v : Value) : List V → Hp → VK → Prop := fun vs H Q => ∃ rr, CallR X v rr ∧ rr vs H Q
theorem call_any {X : Cx} {v : Value} : CallR X v (callAny X v) := fun pins s σ H xs us Q I r ⟨rr, h1, h2⟩ => h1 pins s σ H xs us Q I r h2
theorem snd_bcall {b : Bf} {es : Es} (hs : AllE (SndE G W k cl) es) : SndE G W k cl (.bcall b es) := by
  intro X c x Wx S tk hc σ H P α Fr st ε r ev Q q
  cases x with
  | Call fn xs kws pos =>
    cases fn with
    | Name n p =>
      cases kws with
      | cons kw kws => simp only [chkE, Bool.false_eq_true] at hc
      | nil =>
        simp only [chkE, Bool.and_eq_true, decide_eq_true_eq, List.contains_eq_mem] at hc
        obtain ⟨⟨⟨⟨hn, hx⟩, hg⟩, hm⟩, hc⟩ := hc
        cases xs with
        | nil => exact absurd rfl hx
        | cons y ys =>
          cases es with
          | nil => simp [chkEs] at hc
          | cons e es =>
            have hc2 := hc
            simp only [chkEs, Bool.and_eq_true] at hc2
            obtain ⟨b1, b2, b3⟩ := boot_bf b
            subst hn
            refine WE.of (we_callV (v := bfVal b) (by cases b <;> first | exact .inl ⟨_, rfl⟩ | exact .inr ⟨_, rfl⟩) call_any (S.gl hg) (S.bt _ hm) b1 pa_W b2 b3 (star_cons (chk_ns hc2.1)) (chkEs_plain hc2.2 _ _)) ?_
            unfold evE at q
            refine sndEs_of hs X c _ Wx S tk hc σ H P α Fr st ε r ev _ (FitR.bind q fun us st1 vs H1 P1 α1 e1 a1 ru q1 => ?_)
            exact bf_sound S.calm S.guards S.hu a1.rel ru q1
    | _ => simp only [chkE, Bool.false_eq_true] at hc
  | _ => simp only [chkE, Bool.false_eq_true] at hc
theorem snd_isty {t : Ty} {e : E} (he : SndE G W k cl e) : SndE G W k cl (.isty t e) := by
  intro X c x Wx S tk hc σ H P α Fr st ε r ev Q q
  cases x with
  | Call fn xs kws pos =>
    cases fn with
    | Name n p =>
      rcases xs with _ | ⟨y, _ | ⟨z, _ | ⟨z2, xs⟩⟩⟩ <;> first | (simp only [chkE, Bool.false_eq_true] at hc; done) | skip
      cases z with
      | Name m p2 =>
        cases kws with
        | cons kw kws => simp only [chkE, Bool.false_eq_true] at hc
        | nil =>
          simp only [chkE, Bool.and_eq_true, decide_eq_true_eq, List.contains_eq_mem] at hc
          obtain ⟨⟨⟨⟨⟨⟨hn, hg⟩, hm⟩, hy⟩, ht⟩, hg2⟩, hm2⟩ := hc
          subst hn ht
          obtain ⟨b1, b2, b3⟩ := boot_ty t
          refine WE.of (pe_callB call_any (S.gl hg) (S.bt _ hm) boot_isinstance (pa_cons pe_W (pa_cons pe_W pa_nil) (star_cons (chk_ns hy))) (by decide) (by decide) (star_cons (chk_ns hy)) rfl) ?_
          unfold evE at q
          refine he X c _ Wx S tk hy σ H P α Fr st ε r ev _ (FitR.bind q fun u st1 v H1 P1 α1 e1 a1 rx q1 => ?_)
          split at q1
          · rename_i x
            cases rx with | d rx =>
            cases hb : isTy t.name x with
            | none => rw [hb] at q1; exact q1.elim
            | some bb =>
              rw [hb] at q1
              refine WE.of (pe_bltn (v := .ty t.name) (u := .type t.name) (S.gl hg2) (S.bt _ hm2) b1 rfl b2 b3) ?_
              exact isty_sound a1.rel rx hb (q1 _ _ _ _ (Aft.refl a1.rel) (.d (.bl _)))
          · exact q1.elim
      | _ => simp only [chkE, Bool.false_eq_true] at hc
    | _ => simp only [chkE, Bool.false_eq_true] at hc
  | _ => simp only [chkE, Bool.false_eq_true] at hc

/-! ### methods of built-in types -/
theorem snd_meth0 {m : M0} {o : E} (ho : SndE G W k cl o) : SndE G W k cl (.meth0 m o) := by
  intro X c x Wx S tk hc σ H P α Fr st ε r ev Q q
  cases x with
  | Call fn xs kws cpos =>
    cases fn with
    | Attribute y n apos =>
      cases xs with
      | cons z zs => simp only [chkE, Bool.false_eq_true] at hc
      | nil =>
        cases kws with
        | cons kw kws => simp only [chkE, Bool.false_eq_true] at hc
        | nil =>
          simp only [chkE, Bool.and_eq_true, decide_eq_true_eq] at hc
          obtain ⟨⟨hn, hl⟩, hy⟩ := hc
          subst hn
          unfold evE at q
          cases m with
          | pop =>
            refine WE.of (pe_bm0 PySem.F.plainAttrs_list PySem.F.slot_list_pop PySem.F.type_list_pop mt_pop pe_W (chk_base hy _ _) hl) ?_
            refine ho X c _ Wx S tk hy σ H P α Fr st ε r ev _ (FitR.bind q fun u st1 v H1 P1 α1 e1 a1 rx q1 => ?_)
            cases u with
            | d x => exact q1.elim
            | f h => exact q1.elim
            | s z => exact q1.elim
            | m n =>
              cases rx with | m rx =>
              simp only [m0D] at q1
              split at q1
              · rename_i us hus
                obtain ⟨_, _, vs, c3, c4⟩ := a1.rel.cell _ _ _ rx hus
                split at q1
                · rename_i w hw
                  obtain ⟨vw, h1, h2⟩ := pget c4 hw
                  have hlen := Paired.length c4
                  exact ⟨.inl ⟨rfl, _, .inl (.inl c3)⟩, _, _, _, rfl, rfl, c3, by rw [hlen]; exact h1, q1 _ _ _ _ (a1.rel.put rx hus (pdropLast c4)) h2⟩
                · exact q1.elim
              · exact q1.elim
    | _ => simp only [chkE, Bool.false_eq_true] at hc
  | _ => simp only [chkE, Bool.false_eq_true] at hc
theorem snd_meth1 {m : M1} {o a : E} (ho : SndE G W k cl o) (ha : SndE G W k cl a) : SndE G W k cl (.meth1 m o a) := by
  intro X c x Wx S tk hc σ H P α Fr st ε r ev Q q
  cases x with
  | Call fn xs kws cpos =>
    cases fn with
    | Attribute y n apos =>
      rcases xs with _ | ⟨z, _ | ⟨z2, zs⟩⟩ <;> first | (simp only [chkE, Bool.false_eq_true] at hc; done) | skip
      cases kws with
      | cons kw kws => simp only [chkE, Bool.false_eq_true] at hc
      | nil =>
        simp only [chkE, Bool.and_eq_true, decide_eq_true_eq] at hc
        obtain ⟨⟨⟨hn, hl⟩, hy⟩, hz⟩ := hc
        subst hn
        unfold evE at q
        have few : ((backTo cpos (starEach [z] X.env)).all (fun x => !x.1) && (backToKw cpos (keywordEach [] X.env)).all (fun x => x.1.isSome) && decide (([z] : List Expr).length + ([] : List Keyword).length + (if ([] : List Keyword).isEmpty then 0 else 1) < 30)) = true := by
          rw [star_cons (chk_ns hz)]; rfl
        cases m with
        | append =>
          refine WE.of (pe_bm PySem.F.plainAttrs_list PySem.F.slot_list_append PySem.F.type_list_append mt_append pe_W (pa_cons pe_W pa_nil (star_cons (chk_ns hz))) (chk_base hy _ _) few hl (star_cons (chk_ns hz)) rfl) ?_
          refine ho X c _ Wx S tk hy σ H P α Fr st ε r ev _ (FitR.bind q fun u st1 v H1 P1 α1 e1 a1 rx q1 => ?_)
          split at q1
          · rename_i ok
            cases u with
            | d x => cases ok
            | f h => cases ok
            | s z => cases ok
            | m n =>
              simp only [r1Ok] at ok
              split at ok
              · rename_i us0 h0
                have rx0 := rx
                cases rx with | m rx =>
                obtain ⟨_, _, vs0, c3, _⟩ := a1.rel.cell _ _ _ rx h0
                refine ⟨.inl ⟨rfl, _, .inl (.inl c3)⟩, ?_⟩
                refine ha X c _ Wx S tk hz σ H1 P1 α1 Fr st1 ε a1.rel (ev.mono a1.same a1.pre) _ (FitR.bind q1 fun w st2 vw H2 P2 α2 e2 a2 rw q2 => ?_)
                have rx2 := rx0.mono a2.same a2.pre
                cases rx2 with | m rx2 =>
                simp only [m1D] at q2
                split at q2
                · rename_i us hus
                  obtain ⟨_, _, vs, d3, d4⟩ := a2.rel.cell _ _ _ rx2 hus
                  split at q2
                  · rename_i hlt
                    exact ⟨_, _, _, rfl, rfl, d3, by rw [Paired.length d4, ← sizeMax_eq]; exact hlt, q2 _ _ _ _ (a2.rel.put rx2 hus (pappend d4 (.cons rw .nil))) (.d .non)⟩
                  · exact q2.elim
                · exact q2.elim
              · cases ok
          · exact q1.elim
    | _ => simp only [chkE, Bool.false_eq_true] at hc
  | _ => simp only [chkE, Bool.false_eq_true] at hc
end
end Ev
end

section
set_option maxRecDepth 100000
set_option maxHeartbeats 1000000
/-! EvX: zip of a text and a tuple. -/
namespace Ev
open PySem PySem.Spec PyProof.Rows L2 RZ
open PySem.Sem (wp)

def strO (x : Str) (t : Tok) : Obj := { cls := .type (strIterType x), data := .fields #[.str x t, .int 0 0] }
abbrev zS1 (h : Heap) (x : Str) (t : Tok) : Heap := h.push (strO x t)
abbrev zS2 (h : Heap) (x : Str) (t : Tok) (b : Addr) : Heap := (zS1 h x t).push { cls := .type "tuple_iterator", data := .fields #[.ref b, .int 0 0] }
abbrev zS3 (h : Heap) (x : Str) (t : Tok) (b : Addr) : Heap := (zS2 h x t b).push { cls := .type "tuple", data := .seq #[.ref h.objs.size, .ref (zS1 h x t).objs.size] }
abbrev zS4 (h : Heap) (x : Str) (t : Tok) (b : Addr) : Heap := (zS3 h x t b).push { cls := .type "tuple", data := .seq #[.none, .none] }
abbrev zS5 (h : Heap) (x : Str) (t : Tok) (b : Addr) : Heap := (zS4 h x t b).push { cls := .type "zip", data := .fields #[.none, .bool false, .bool false, .ref (zS2 h x t b).objs.size, .ref (zS3 h x t b).objs.size] }
section
variable {prog : Program} {w : World} {A : Around} {E : Value → Shared → Prop} {s : Shared}
theorem iter_text {x : Str} {t : Tok} {Q : Value → Shared → Prop} (h : Q (.ref s.heap.objs.size) { s with heap := zS1 s.heap x t }) : wpAny (model prog w) A (pyIter (.str x t)) Q E s := by
  cases ha : x.cps.all (· < 128)
  · refine wpAny_pyIter_wide ha ?_
    have e : strO x t = { cls := .type "str_iterator", data := .fields #[.str x t, .int 0 0] } := by unfold strO strIterType; rw [ha]; rfl
    rw [← e]; exact h
  · refine wpAny_pyIter_ascii ha ?_
    have e : strO x t = { cls := .type "str_ascii_iterator", data := .fields #[.str x t, .int 0 0] } := by unfold strO strIterType; rw [ha]; rfl
    rw [← e]; exact h
end
theorem meets_zipS (x : Str) (t : Tok) (b : Addr) (ys : Array Value) :
    Meets (Builtin.«zip.__new__» ⟨[.type "zip", .str x t, .ref b], []⟩) (fun _ R s => s.heap.IsTuple b ys ∧ R (.ok (.ret (.ref (zS4 s.heap x t b).objs.size))) { s with heap := zS5 s.heap x t b }) :=
  .of_wp fun prog w A R s h => by
    obtain ⟨hp, g, d, tk, os⟩ := s; obtain ⟨hb, h⟩ := h
    have hsub := sub_zip
    have hB : Heap.IsTuple (Shared.heap ⟨hp.push (strO x t), g, d, tk, os⟩) b ys := Heap.IsTuple.push hb _
    wp_walk using iter_text, wpAny_pyIter_tuple hB
    exact ⟨_, rfl, h⟩
section
variable {prog : Program} {w : World} {A : Around} {E : Value → Shared → Prop} {s : Shared}
theorem call_zipS {x : Str} {t : Tok} {b : Addr} {ys : Array Value} {Q : Value → Shared → Prop} (hb : s.heap.IsTuple b ys)
    (h : ∀ h', IsZip h' (s.heap.objs.size + 4) (s.heap.objs.size + 2) (s.heap.objs.size + 3) .none → IsPair h' (s.heap.objs.size + 2) (.ref s.heap.objs.size) (.ref (s.heap.objs.size + 1)) →
      IsPair h' (s.heap.objs.size + 3) .none .none → h'.IsStrIter s.heap.objs.size (strIterType x) x t 0 → h'.IsTupleIter (s.heap.objs.size + 1) b 0 →
      (∀ c o, s.heap.get? c = some o → h'.get? c = some o) → Q (.ref (s.heap.objs.size + 4)) { s with heap := h' }) :
    wpAny (model prog w) A (call (.type "zip") [.str x t, .ref b]) Q E s := by
  refine callType_new F.called_zip (by decide) (F.typeCall_zip_2 _ _) (F.newCall_zip_2 _ _) (fun obj => F.args_object_init_3 obj _ _) F.entry_zip_new (meets_zipS x t b ys) ⟨hb, ?_⟩
  have n1 : (zS1 s.heap x t).objs.size = s.heap.objs.size + 1 := Heap.size_push ..
  have n2 : (zS2 s.heap x t b).objs.size = s.heap.objs.size + 2 := by rw [Heap.size_push, n1]
  have n3 : (zS3 s.heap x t b).objs.size = s.heap.objs.size + 3 := by rw [Heap.size_push, n2]
  have n4 : (zS4 s.heap x t b).objs.size = s.heap.objs.size + 4 := by rw [Heap.size_push, n3]
  have o5 : (zS5 s.heap x t b).get? (zS4 s.heap x t b).objs.size = some _ := Heap.get?_push_size _ rfl
  have o4 : (zS5 s.heap x t b).get? (zS3 s.heap x t b).objs.size = some _ := Heap.get?_push_of_some _ (Heap.get?_push_size _ rfl)
  have o3 : (zS5 s.heap x t b).get? (zS2 s.heap x t b).objs.size = some _ := Heap.get?_push_of_some _ (Heap.get?_push_of_some _ (Heap.get?_push_size _ rfl))
  have o2 : (zS5 s.heap x t b).get? (zS1 s.heap x t).objs.size = some _ := Heap.get?_push_of_some _ (Heap.get?_push_of_some _ (Heap.get?_push_of_some _ (Heap.get?_push_size _ rfl)))
  have o1 : (zS5 s.heap x t b).get? s.heap.objs.size = some _ := Heap.get?_push_of_some _ (Heap.get?_push_of_some _ (Heap.get?_push_of_some _ (Heap.get?_push_of_some _ (Heap.get?_push_size _ rfl))))
  show _ ∧ _
  rw [n2, n3, n4] at o5
  rw [n1, n2] at o3
  rw [n3] at o4
  rw [n1] at o2
  rw [n4]
  exact ⟨⟨_, o5, rfl⟩, h _ o5 o3 o4 ⟨_, o1, rfl, rfl⟩ ⟨_, o2, rfl, rfl⟩ fun c o z =>
    Heap.get?_push_of_some _ (Heap.get?_push_of_some _ (Heap.get?_push_of_some _ (Heap.get?_push_of_some _ (Heap.get?_push_of_some _ z))))⟩
end
/-- a text's signs and a tuple's items, in new pairs -/
def ItS (K : PySem.W.Frag) (x : Str) (b : Addr) : It :=
  ⟨fun i H => ∃ (ys : List V) (c : Nat) (y : V), SqT K H b ys ∧ x.cps[i]? = some c ∧ ys[i]? = some y,
    fun i H v H' => ∃ T c y, v = .ref T ∧ H T = none ∧ H' = upd H T (.tup [.str ⟨#[c]⟩, y]) ∧ x.cps[i]? = some c ∧ ∀ ys, SqT K H b ys → ys[i]? = some y,
    fun i H => ∃ ys : List V, SqT K H b ys ∧ i = min x.cps.size ys.length⟩
theorem turn_zipS {P : Program} {w : World} {K : PySem.W.Frag} {elts : List Expr} {kk : Nat} {tpos : Pos} {x : Str} {t : Tok} {b z TI TO i1 i2 : Addr} (S : ZipSep2 z TI TO i1 i2 [i1] [i2, b]) :
    Turn P w K (.Tuple elts kk tpos) (ItS K x b) [z, TI, TO, i1, i2] z (fun i h => IsZip h z TI TO .none ∧ IsPair h TI (.ref i1) (.ref i2) ∧ (∃ x y, IsPair h TO x y) ∧ h.IsStrIter i1 (strIterType x) x t i ∧ h.IsTupleIter i2 b i) where
  mem := by simp
  obj := fun i h st c hc => by
    obtain ⟨hz, hTI, ⟨x, y, hTO⟩, ⟨o1, e1, _, d1⟩, ⟨o2, e2, _, d2⟩⟩ := st
    simp only [List.mem_cons, List.not_mem_nil, or_false] at hc
    rcases hc with rfl | rfl | rfl | rfl | rfl
    · exact ⟨_, hz, fun v q => nomatch q⟩
    · exact ⟨_, hTI, fun v q => nomatch q⟩
    · exact ⟨_, hTO, fun v q => nomatch q⟩
    · exact ⟨o1, e1, fun v q => by rw [d1] at q; cases q⟩
    · exact ⟨o2, e2, fun v q => by rw [d2] at q; cases q⟩
  keep := fun i h h' st k => by
    obtain ⟨hz, hTI, ⟨x, y, hTO⟩, ⟨o1, e1, r1⟩, h2⟩ := st
    exact ⟨k z (by simp) _ hz, k TI (by simp) _ hTI, ⟨x, y, k TO (by simp) _ hTO⟩, ⟨o1, k i1 (by simp) _ e1, r1⟩, h2.at fun o q => k i2 (by simp) o q⟩
  item := by
    intro X hP hw hK hc i pins s σ H E I hf st hg
    subst hP hw hK
    obtain ⟨hz, hTI, ⟨x0, y0, hTO⟩, h1, h2⟩ := st
    obtain ⟨ys, c, y, hqy, hx, hy⟩ := hg
    obtain ⟨its, rv, p, _⟩ := I.tuple hqy
    obtain ⟨u, hu, ru⟩ := rv.get hy
    have hh := I.ok.hd hc
    have nb : b ≠ i2 := fun e => by
      have := (hf i2 (by simp)).1
      obtain ⟨_, e2, k2, _⟩ := h2
      obtain ⟨ob, eb, kb, _⟩ := id p
      rw [e, e2] at eb
      cases eb
      rw [k2] at kb
      simp at kb
    have D1 : Draws X.prog X.w X.A.in1 i1 [i1] x.cps.size _ _ := Draws.text (show X.A.in1.handled = none from hh) i1 x t
    have D2 : Draws X.prog X.w X.A.in1 i2 [i2, b] its.toArray.size _ _ := Draws.tuple (show X.A.in1.handled = none from hh) i2 b nb its.toArray
    have l1 : i < x.cps.size := (Array.getElem?_eq_some_iff.mp hx).1
    have l2 : i < its.toArray.size := by
      rw [List.size_toArray, ← rv.length]
      exact (List.getElem?_eq_some_iff.mp hy).1
    have hzl : z < s.heap.objs.size := Heap.lt_size hz
    refine wpAny_pyNext_zipD2_item S D1 D2 hz hTI hTO h1 ⟨h2, p⟩ l1 l2 fun v1 v2 h' tk q1 q2 z' TO' h1' h2' hT hsz hk => ?_
    obtain ⟨c', tk', e1, rfl⟩ := q1
    have e2 : its.toArray[i]? = some v2 := q2
    rw [hx] at e1
    cases e1
    have hu' : its.toArray[i]? = some u := by simpa using hu
    rw [hu'] at e2
    cases e2
    refine ⟨_, rfl, wpAny_letOwnedTupleGo_zip (s := { s with heap := h', toks := tk }) z' fun h'' z'' sb => ?_⟩
    have hT2 : h''.get? s.heap.objs.size = some { cls := .type "tuple", data := .seq #[.str ⟨#[c]⟩ tk', u] } := (sb.2 _ (Nat.ne_of_gt hzl)).trans hT
    have new : ObjOk X.prog X.w (upd H s.heap.objs.size (.tup [.str ⟨#[c]⟩, y])) h'' s.heap.objs.size (.tup [.str ⟨#[c]⟩, y]) :=
      ⟨by show 2 ≤ sizeLine; decide, [.str ⟨#[c]⟩ tk', u], .cons ⟨tk', rfl⟩ (.cons ru .nil), ⟨_, hT2, rfl, _, rfl⟩⟩
    have I1 : Inv X pins σ (upd H s.heap.objs.size (.tup [.str ⟨#[c]⟩, y])) { s with heap := h'', toks := tk } := by
      refine I.turnedNew (t' := tk) (ch := [z, TI, TO, i1, i2]) (fun a o ha q => ?_) hf (Nat.le_refl _) new
      simp only [List.mem_cons, List.not_mem_nil, or_false, not_or] at ha
      exact (sb.2 a ha.1).trans (hk a o ha.1 ha.2.2.1 ha.2.2.2.1 ha.2.2.2.2 q)
    refine ⟨.ref s.heap.objs.size, _, I1, rfl, ⟨_, c, y, rfl, I.hok.fresh (Nat.le_refl _), rfl, hx, fun l hl => by rw [I.tuple_inj hl hqy]; exact hy⟩, ⟨z'', ?_, ⟨.str ⟨#[c]⟩ tk', u, ?_⟩, ?_, ?_⟩, fun a ha => ?_⟩
    · exact (sb.2 _ S.TIz).trans (hk _ _ S.TIz S.TITO S.TIi1 S.TIi2 hTI)
    · exact (sb.2 _ S.TOz).trans TO'
    · obtain ⟨o, q, r⟩ := h1'
      exact ⟨o, (sb.2 _ (Ne.symm S.zi1)).trans q, r⟩
    · exact h2'.1.at fun o q => (sb.2 _ (Ne.symm S.zi2)).trans q
    · have hlt : a < s.heap.objs.size := by
        simp only [List.mem_cons, List.not_mem_nil, or_false] at ha
        rcases ha with rfl | rfl | rfl | rfl | rfl
        · exact hzl
        · exact Heap.lt_size hTI
        · exact Heap.lt_size hTO
        · obtain ⟨_, e1, _⟩ := h1; exact Heap.lt_size e1
        · obtain ⟨_, e2, _⟩ := h2; exact Heap.lt_size e2
      rw [upd_ne (Nat.ne_of_lt hlt)]
      exact (hf a ha).1
  done := by
    intro X hP hw hK hc i pins s σ H E I hf st hg
    subst hP hw hK
    obtain ⟨hz, hTI, ⟨x0, y0, hTO⟩, h1, h2⟩ := st
    obtain ⟨ys, hqy, hi⟩ := hg
    obtain ⟨its, rv, p, _⟩ := I.tuple hqy
    have hh := I.ok.hd hc
    have nb : b ≠ i2 := fun e => by
      obtain ⟨_, e2, k2, _⟩ := h2
      obtain ⟨ob, eb, kb, _⟩ := id p
      rw [e, e2] at eb
      cases eb
      rw [k2] at kb
      simp at kb
    have D1 : Draws X.prog X.w X.A.in1 i1 [i1] x.cps.size _ _ := Draws.text (show X.A.in1.handled = none from hh) i1 x t
    have D2 : Draws X.prog X.w X.A.in1 i2 [i2, b] its.toArray.size _ _ := Draws.tuple (show X.A.in1.handled = none from hh) i2 b nb its.toArray
    have ln : its.toArray.size = ys.length := by rw [List.size_toArray, rv.length]
    refine wpAny_pyNext_zipD2_end S D1 D2 hz hTI hTO h1 ⟨h2, p⟩ (by omega) (by omega) (by omega) fun h' tk hk => ⟨rfl, I.turnedL (t' := tk) (ch := [z, TI, TO, i1, i2]) (fun a o ha q => ?_) hf⟩
    simp only [List.mem_cons, List.not_mem_nil, or_false, not_or] at ha
    exact hk a o ha.1 ha.2.2.1 ha.2.2.2.1 ha.2.2.2.2 q
  self := fun A i s Q E st h => wpAny_pyIter_zip st.1 h
theorem sepS (n b : Nat) (h : b < n) : ZipSep2 (n + 4) (n + 2) (n + 3) n (n + 1) [n] [n + 1, b] := by
  have h1 : ∀ m : Nat, n + (m + 1) ≠ n := fun m => by omega
  have h2 : ∀ m : Nat, n + m ≠ b := fun m => by omega
  have h3 : n ≠ b := by omega
  have h4 : ∀ i j : Nat, i ≠ j → n + i ≠ n + j := fun i j q => by omega
  refine ⟨h4 2 4 (by decide), h4 3 4 (by decide), h4 2 3 (by decide), h1 1, by simp, ?_, ?_, h4 2 1 (by decide), by simp, ?_, ?_, ?_, ?_⟩
  · exact fun z => h1 3 (List.mem_singleton.mp z)
  · exact fun z => h1 2 (List.mem_singleton.mp z)
  · intro z
    rcases List.mem_cons.mp z with z | z
    · exact h4 4 1 (by decide) z
    · exact h2 4 (List.mem_singleton.mp z)
  · intro z
    rcases List.mem_cons.mp z with z | z
    · exact h4 3 1 (by decide) z
    · exact h2 3 (List.mem_singleton.mp z)
  · intro z
    rcases List.mem_cons.mp z with z | z
    · exact h1 0 z.symm
    · exact h3 (List.mem_singleton.mp z)
  · exact fun z => h1 0 (List.mem_singleton.mp z)
theorem le_of5 {n c : Nat} (hc : c ∈ [n + 4, n + 2, n + 3, n, n + 1]) : n ≤ c := by
  simp only [List.mem_cons, List.not_mem_nil, or_false] at hc
  omega
def iZipS (K : PySem.W.Frag) (ta : TA) : TI := fun σ H R => ta σ H fun vs H1 => ∃ x b ys, vs = [.str x, .ref b] ∧ SqT K H1 b ys ∧ R (ItS K x b) H1
theorem pi_zipS {X : Cx} {e e2 : Expr} {ta : TA} {p pos tpos : Pos} {elts : List Expr} {kk : Nat} (hg : Gl X "zip") (hm : X.mg "zip" = none) (ha : PA X [e, e2] ta)
    (hs : starEach [e, e2] X.env = (false, eval e X.env) :: starEach [e2] X.env := by rfl) (hpl : (backTo pos (starEach [e2] X.env)).any (·.1) = false := by rfl) :
    PI X (.Tuple elts kk tpos) (.Call (.Name "zip" p) [e, e2] [] pos) (iZipS X.K ta) := by
  refine ⟨fun pins s σ H R I h => ?_⟩
  refine Call_ (ld_blt I hg hm PyProof.Rows.boot_zip (PyProof.Rows.callWith_type1 (thn (ha.run pos pins s σ H _ I h) fun us s1 ⟨vs, H1, I1, r1, q1⟩ => ?_) hs hpl))
  obtain ⟨x, b, ys, ex, hq, q⟩ := q1
  subst ex
  cases r1 with
  | cons r rr =>
    cases rr with
    | cons r' rr =>
      cases rr
      obtain ⟨t, rfl⟩ := r
      cases r'
      obtain ⟨its, rv, p1, _⟩ := I1.tuple hq
      obtain ⟨ob, eb, _⟩ := id p1
      have bl : b < s1.heap.objs.size := Heap.lt_size eb
      refine call_zipS (show s1.heap.IsTuple b its.toArray from p1) fun h' hz hTI hTO h1 h2 hk => wpAny_pyIter_zip hz ?_
      have I2 : Inv X pins σ H1 { s1 with heap := h' } := I1.kept (t' := s1.toks) hk
      refine ⟨s1.heap.objs.size + 4, [s1.heap.objs.size + 4, s1.heap.objs.size + 2, s1.heap.objs.size + 3, s1.heap.objs.size, s1.heap.objs.size + 1], _, _, H1, rfl, I2, turn_zipS (x := x) (t := t) (b := b) ?_, ⟨hz, hTI, ⟨_, _, hTO⟩, h1, h2⟩, fun c hc => ?_, q⟩
      · exact sepS _ _ bl
      · have hle : s1.heap.objs.size ≤ c := le_of5 hc
        exact I1.fpOk hle (I1.hok.fresh hle)
/-! ### enumerate of a tuple -/
abbrev eT1 (h : Heap) (b : Addr) : Heap := h.push { cls := .type "tuple_iterator", data := .fields #[.ref b, .int 0 0] }
def enO (i : Addr) : Obj := { cls := .type "enumerate", data := .fields #[.none, .bool false, .ref i, rawInt 0, .none, .none] }
theorem meets_enumT (b : Addr) (ys : Array Value) :
    Meets (Builtin.«enumerate.__new__» ⟨[.type "enumerate", .ref b], []⟩) (fun _ R s => s.heap.IsTuple b ys ∧ R (.ok (.ret (.ref (eT1 s.heap b).objs.size))) { s with heap := (eT1 s.heap b).push (enO s.heap.objs.size) }) :=
  .of_wp fun prog w A R s h => by
    obtain ⟨hp, g, d, tk, os⟩ := s; obtain ⟨hb, h⟩ := h
    have hsub := sub_enumerate
    have hB : Heap.IsTuple (Shared.heap ⟨hp, g, d, tk, os⟩) b ys := hb
    wp_walk
    refine wpAny_stack_any fun st => wpAny_pure ?_
    split
    · rename_i c _ _ _ _ _
      cases (c == Value.type "enumerate") <;> (wp_walk using wpAny_pyIter_tuple hB; exact ⟨_, rfl, h⟩)
    · wp_walk using wpAny_pyIter_tuple hB
      exact ⟨_, rfl, h⟩
section
variable {prog : Program} {w : World} {A : Around} {E : Value → Shared → Prop} {s : Shared}
theorem call_enumT {b : Addr} {ys : Array Value} {Q : Value → Shared → Prop} (hb : s.heap.IsTuple b ys)
    (h : ∀ h', IsEnum h' (s.heap.objs.size + 1) s.heap.objs.size 0 .none → h'.IsTupleIter s.heap.objs.size b 0 → (∀ c o, s.heap.get? c = some o → h'.get? c = some o) → Q (.ref (s.heap.objs.size + 1)) { s with heap := h' }) :
    wpAny (model prog w) A (call (.type "enumerate") [.ref b]) Q E s := by
  refine callType_new F.called_enumerate (by decide) (F.typeCall_enumerate_1 _) (F.newCall_enumerate_1 _) (fun obj => F.args_object_init_2 obj _) F.entry_enumerate_new (meets_enumT b ys) ⟨hb, ?_⟩
  have n1 : (eT1 s.heap b).objs.size = s.heap.objs.size + 1 := Heap.size_push ..
  have o2 : ((eT1 s.heap b).push (enO s.heap.objs.size)).get? (eT1 s.heap b).objs.size = some (enO s.heap.objs.size) := Heap.get?_push_size _ rfl
  have o1 : ((eT1 s.heap b).push (enO s.heap.objs.size)).get? s.heap.objs.size = some _ := Heap.get?_push_of_some _ (Heap.get?_push_size _ rfl)
  show _ ∧ _
  rw [n1] at o2
  rw [n1]
  exact ⟨⟨_, o2, rfl⟩, h _ o2 ⟨_, o1, rfl, rfl⟩ fun c o z => Heap.get?_push_of_some _ (Heap.get?_push_of_some _ z)⟩
end
def ItE (K : PySem.W.Frag) (b : Addr) : It :=
  ⟨fun i H => ∃ (ys : List V) (y : V), SqT K H b ys ∧ ys[i]? = some y,
    fun i H v H' => ∃ T y, v = .ref T ∧ H T = none ∧ H' = upd H T (.tup [.int (i : Nat), y]) ∧ ∀ ys, SqT K H b ys → ys[i]? = some y,
    fun i H => ∃ ys : List V, SqT K H b ys ∧ i = ys.length⟩
theorem turn_enumT {P : Program} {w : World} {K : PySem.W.Frag} {elts : List Expr} {kk : Nat} {tpos : Pos} {b e it : Addr} (ne : e ≠ it) (nb : b ≠ e) :
    Turn P w K (.Tuple elts kk tpos) (ItE K b) [e, it] e (fun i h => (∃ old, IsEnum h e it ((i : Nat) : Int) old) ∧ h.IsTupleIter it b i) where
  mem := by simp
  obj := fun i h st c hc => by
    obtain ⟨⟨old, he⟩, ⟨o2, e2, _, d2⟩⟩ := st
    simp only [List.mem_cons, List.not_mem_nil, or_false] at hc
    rcases hc with rfl | rfl
    · exact ⟨_, he, fun v q => nomatch q⟩
    · exact ⟨o2, e2, fun v q => by rw [d2] at q; cases q⟩
  keep := fun i h h' st k => by
    obtain ⟨⟨old, he⟩, h2⟩ := st
    exact ⟨⟨old, k e (by simp) _ he⟩, h2.at fun o q => k it (by simp) o q⟩
  item := by
    intro X hP hw hK hc i pins s σ H E I hf st hg
    subst hP hw hK
    obtain ⟨⟨old, he⟩, h2⟩ := st
    obtain ⟨ys, y, hqy, hy⟩ := hg
    obtain ⟨its, rv, p, _⟩ := I.tuple hqy
    obtain ⟨u, hu, ru⟩ := rv.get hy
    have hh := I.ok.hd hc
    have nb2 : b ≠ it := fun z => by
      obtain ⟨_, e2, k2, _⟩ := h2
      obtain ⟨ob, eb, kb, _⟩ := id p
      rw [z, e2] at eb
      cases eb
      rw [k2] at kb
      simp at kb
    have D : Draws X.prog X.w X.A.in1 it [it, b] its.toArray.size _ _ := Draws.tuple (show X.A.in1.handled = none from hh) it b nb2 its.toArray
    have l2 : i < its.toArray.size := by
      rw [List.size_toArray, ← rv.length]
      exact (List.getElem?_eq_some_iff.mp hy).1
    have hel : e < s.heap.objs.size := Heap.lt_size he
    have hef : e ∉ [it, b] := fun z => by
      rcases List.mem_cons.mp z with z | z
      · exact ne z
      · exact nb (List.mem_singleton.mp z).symm
    refine wpAny_pyNext_enum_itemD D he ⟨h2, p⟩ l2 ne hef fun v h' tk q1 ho h2' hT hsz hk => ?_
    have e2 : its.toArray[i]? = some v := q1
    have hu' : its.toArray[i]? = some u := by simpa using hu
    rw [hu'] at e2
    cases e2
    refine ⟨_, rfl, wpAny_letOwnedTupleGo_enum (s := { s with heap := h', toks := tk + 1 }) ho fun h'' he'' sb => ?_⟩
    have hT2 : h''.get? s.heap.objs.size = some { cls := .type "tuple", data := .seq #[.int i tk, u] } := (sb.2 _ (Nat.ne_of_gt hel)).trans hT
    have new : ObjOk X.prog X.w (upd H s.heap.objs.size (.tup [.int (i : Nat), y])) h'' s.heap.objs.size (.tup [.int (i : Nat), y]) :=
      ⟨by show 2 ≤ sizeLine; decide, [.int i tk, u], .cons ⟨tk, rfl⟩ (.cons ru .nil), ⟨_, hT2, rfl, _, rfl⟩⟩
    have I1 : Inv X pins σ (upd H s.heap.objs.size (.tup [.int (i : Nat), y])) { s with heap := h'', toks := tk + 1 } := by
      refine I.turnedNew (t' := tk + 1) (ch := [e, it]) (fun a o ha q => ?_) hf (Nat.le_refl _) new
      simp only [List.mem_cons, List.not_mem_nil, or_false, not_or] at ha
      exact (sb.2 a ha.1).trans (hk a o ha.1 ha.2 q)
    refine ⟨.ref s.heap.objs.size, _, I1, rfl, ⟨_, y, rfl, I.hok.fresh (Nat.le_refl _), rfl, fun l hl => by rw [I.tuple_inj hl hqy]; exact hy⟩, ⟨⟨_, he''⟩, ?_⟩, fun a ha => ?_⟩
    · exact h2'.1.at fun o q => (sb.2 _ (Ne.symm ne)).trans q
    · have hlt : a < s.heap.objs.size := by
        simp only [List.mem_cons, List.not_mem_nil, or_false] at ha
        rcases ha with rfl | rfl
        · exact hel
        · obtain ⟨_, e2, _⟩ := h2; exact Heap.lt_size e2
      rw [upd_ne (Nat.ne_of_lt hlt)]
      exact (hf a ha).1
  done := by
    intro X hP hw hK hc i pins s σ H E I hf st hg
    subst hP hw hK
    obtain ⟨⟨old, he⟩, h2⟩ := st
    obtain ⟨ys, hqy, hi⟩ := hg
    obtain ⟨its, rv, p, _⟩ := I.tuple hqy
    have hh := I.ok.hd hc
    have nb2 : b ≠ it := fun z => by
      obtain ⟨_, e2, k2, _⟩ := h2
      obtain ⟨ob, eb, kb, _⟩ := id p
      rw [z, e2] at eb
      cases eb
      rw [k2] at kb
      simp at kb
    have D : Draws X.prog X.w X.A.in1 it [it, b] its.toArray.size _ _ := Draws.tuple (show X.A.in1.handled = none from hh) it b nb2 its.toArray
    have ln : its.toArray.size = i := by rw [List.size_toArray, ← rv.length, hi]
    refine wpAny_pyNext_enum_endD D he (by rw [ln]; exact ⟨h2, p⟩) fun h' hk => ⟨rfl, I.turnedL (t' := s.toks) (ch := [e, it]) (fun a o ha q => ?_) hf⟩
    simp only [List.mem_cons, List.not_mem_nil, or_false, not_or] at ha
    exact hk a o ha.2 q
  self := fun A i s Q E st h => let ⟨⟨_, he⟩, _⟩ := st; wpAny_pyIter_enum he h
def iEnumT (K : PySem.W.Frag) (ta : TA) : TI := fun σ H R => ta σ H fun vs H1 => ∃ b ys, vs = [.ref b] ∧ SqT K H1 b ys ∧ R (ItE K b) H1
theorem pi_enumT {X : Cx} {e : Expr} {ta : TA} {p pos tpos : Pos} {elts : List Expr} {kk : Nat} (hg : Gl X "enumerate") (hm : X.mg "enumerate" = none) (ha : PA X [e] ta) (hs : starEach [e] X.env = [(false, eval e X.env)] := by rfl) :
    PI X (.Tuple elts kk tpos) (.Call (.Name "enumerate" p) [e] [] pos) (iEnumT X.K ta) := by
  refine ⟨fun pins s σ H R I h => ?_⟩
  refine Call_ (ld_blt I hg hm boot_enumerate (PyProof.Rows.callWith_type1 (thn (ha.run pos pins s σ H _ I h) fun us s1 ⟨vs, H1, I1, r1, q1⟩ => ?_) hs rfl))
  obtain ⟨b, ys, ex, hq, q⟩ := q1
  subst ex
  cases r1 with
  | cons r rr =>
    cases rr
    cases r
    obtain ⟨its, rv, p1, _⟩ := I1.tuple hq
    obtain ⟨ob, eb, _⟩ := id p1
    have bl : b < s1.heap.objs.size := Heap.lt_size eb
    refine call_enumT (show s1.heap.IsTuple b its.toArray from p1) fun h' he hit hk => wpAny_pyIter_enum he ?_
    have I2 : Inv X pins σ H1 { s1 with heap := h' } := I1.kept (t' := s1.toks) hk
    refine ⟨s1.heap.objs.size + 1, [s1.heap.objs.size + 1, s1.heap.objs.size], _, _, H1, rfl, I2, turn_enumT (b := b) (Nat.succ_ne_self _) (Nat.ne_of_lt (Nat.lt_succ_of_lt bl)), ⟨⟨.none, he⟩, hit⟩, fun c hc => ?_, q⟩
    have hle : s1.heap.objs.size ≤ c := by
      rcases List.mem_cons.mp hc with z | z
      · rw [z]; exact Nat.le_succ _
      · rw [List.mem_singleton.mp z]; exact Nat.le_refl _
    exact I1.fpOk hle (I1.hok.fresh hle)
end Ev
end

section
set_option maxRecDepth 10000
set_option autoImplicit false
/-! EvJ: what loops walk; targets; comprehensions. -/
namespace Ev
open PySem PySem.Spec PyProof.Rows L2
variable [Lams]

/-- J yields just these items, in their order -/
structure Walk (K : PySem.W.Frag) (P1 : Hp) (J : It) (items : List U) : Prop where
  go : ∀ (i : Nat) (u : U) (H P : Hp) (α : List Addr) (Fr : Hp) (st : Store), items[i]? = some u → Same P1 P → Rel K P α Fr st H → J.go i H ∧ ∀ x H', J.yld i H x H' → ∃ P', Aft K P α Fr st H' P' α ∧ RepU K P' α x u
  stop : ∀ (H P : Hp) (α : List Addr) (Fr : Hp) (st : Store), Same P1 P → Rel K P α Fr st H → J.stop items.length H

section
variable {K : PySem.W.Frag} {P1 : Hp}
theorem walk_list {a : Addr} {vs : List V} {ds : List D} (h : SqL K P1 a vs) (r : RepAll K P1 vs ds) : Walk K P1 (Itl K a) (ds.map .d) := by
  refine ⟨fun i u H P α Fr st e s rel => ?_, fun H P α Fr st s rel => ⟨vs, (Same.sql (Same.trans s rel.sub) h), by rw [r.length, List.length_map]; exact Nat.le_refl _⟩⟩
  rw [List.getElem?_map, Option.map_eq_some_iff] at e
  obtain ⟨d, e, rfl⟩ := e
  obtain ⟨v, e1, e2⟩ := r.get e
  have hq := (Same.sql (Same.trans s rel.sub) h)
  refine ⟨⟨vs, v, hq, e1⟩, fun x H' y => ?_⟩
  obtain ⟨rfl, y⟩ := y
  have ex : x = v := Option.some.inj ((y vs hq).symm.trans e1)
  subst ex
  exact ⟨P, Aft.refl rel, .d (e2.mono s)⟩
theorem walk_tup {a : Addr} {vs : List V} {ds : List D} (h : SqT K P1 a vs) (r : RepAll K P1 vs ds) : Walk K P1 (Itt K a) (ds.map .d) := by
  refine ⟨fun i u H P α Fr st e s rel => ?_, fun H P α Fr st s rel => ⟨vs, (Same.sqt (Same.trans s rel.sub) h), by rw [r.length, List.length_map]; exact Nat.le_refl _⟩⟩
  rw [List.getElem?_map, Option.map_eq_some_iff] at e
  obtain ⟨d, e, rfl⟩ := e
  obtain ⟨v, e1, e2⟩ := r.get e
  have hq := (Same.sqt (Same.trans s rel.sub) h)
  refine ⟨⟨vs, v, hq, e1⟩, fun x H' y => ?_⟩
  obtain ⟨rfl, y⟩ := y
  have ex : x = v := Option.some.inj ((y vs hq).symm.trans e1)
  subst ex
  exact ⟨P, Aft.refl rel, .d (e2.mono s)⟩
theorem walk_str {s : Str} : Walk K P1 (Its s) (s.cps.toList.map fun c => .d (.str ⟨#[c]⟩)) := by
  refine ⟨fun i u H P α Fr st e _ rel => ?_, fun H P α Fr st _ rel => by show s.cps.size ≤ _; simp⟩
  rw [List.getElem?_map, Option.map_eq_some_iff] at e
  obtain ⟨c, e, rfl⟩ := e
  have e' : s.cps[i]? = some c := by rw [← Array.getElem?_toList]; exact e
  refine ⟨by show i < s.cps.size; exact (Array.getElem?_eq_some_iff.mp e').1, fun x H' y => ?_⟩
  obtain ⟨rfl, c', e2, rfl⟩ := y
  rw [e'] at e2; cases e2
  exact ⟨P, Aft.refl rel, .d (.str _)⟩
theorem rangeU_get : ∀ (n : Nat) (lo : Int) (i : Nat) (u : U), (rangeU lo n)[i]? = some u → i < n ∧ u = .d (.int (lo + i))
  | 0, _, _, _, e => by simp [rangeU] at e
  | n + 1, lo, 0, u, e => by
    simp [rangeU] at e
    exact ⟨Nat.succ_pos _, by rw [← e]; simp⟩
  | n + 1, lo, i + 1, u, e => by
    obtain ⟨h1, h2⟩ := rangeU_get n (lo + 1) i u (by simpa [rangeU] using e)
    exact ⟨Nat.succ_lt_succ h1, by rw [h2]; congr 2; omega⟩
theorem rangeU_len : ∀ (n : Nat) (lo : Int), (rangeU lo n).length = n
  | 0, _ => rfl
  | n + 1, lo => by simp [rangeU, rangeU_len n]
theorem walk_range {lo : Int} {n : Nat} : Walk K P1 (Itr lo n) (rangeU lo n) := by
  refine ⟨fun i u H P α Fr st e _ rel => ?_, fun H P α Fr st _ rel => by show n ≤ _; rw [rangeU_len]; exact Nat.le_refl _⟩
  obtain ⟨h1, rfl⟩ := rangeU_get n lo i u e
  refine ⟨h1, fun x H' y => ?_⟩
  obtain ⟨rfl, rfl⟩ := y
  exact ⟨P, Aft.refl rel, .d (.int _)⟩
theorem enumD_get : ∀ (ds : List D) (n i : Nat) (x : D), (enumD n ds)[i]? = some x → ∃ d, ds[i]? = some d ∧ x = .tuple [.int (n + i : Nat), d]
  | [], _, _, _, e => by simp [enumD] at e
  | d :: ds, n, 0, x, e => by
    simp [enumD] at e
    exact ⟨d, rfl, by rw [← e]; rfl⟩
  | d :: ds, n, i + 1, x, e => by
    obtain ⟨d', h1, h2⟩ := enumD_get ds (n + 1) i x (by simpa [enumD] using e)
    exact ⟨d', by simpa using h1, by rw [h2]; congr 4; omega⟩
theorem enumD_len : ∀ (ds : List D) (n : Nat), (enumD n ds).length = ds.length
  | [], _ => rfl
  | d :: ds, n => by simp [enumD, enumD_len ds]
theorem walk_enum {a : Addr} {vs : List V} {ds : List D} (h : SqL K P1 a vs) (r : RepAll K P1 vs ds) : Walk K P1 (Ite K a) ((enumD 0 ds).map .d) := by
  refine ⟨fun i u H P α Fr st e s rel => ?_, fun H P α Fr st s rel => ⟨vs, (Same.sql (Same.trans s rel.sub) h), by rw [r.length, List.length_map, enumD_len]; exact Nat.le_refl _⟩⟩
  rw [List.getElem?_map, Option.map_eq_some_iff] at e
  obtain ⟨d0, e, rfl⟩ := e
  obtain ⟨d, e0, rfl⟩ := enumD_get ds 0 i d0 e
  obtain ⟨v, e1, e2⟩ := r.get e0
  have hq := (Same.sql (Same.trans s rel.sub) h)
  refine ⟨⟨vs, v, hq, e1⟩, fun x H' y => ?_⟩
  obtain ⟨T, w, rfl, hT, rfl, y⟩ := y
  have ex : w = v := Option.some.inj ((y vs hq).symm.trans e1)
  subst ex
  refine ⟨_, rel.new hT _, .d ?_⟩
  rw [Nat.zero_add]
  exact rep_tup (sq_up (rel.sub.free hT)) (.cons (.int _) (.cons (e2.mono s) .nil))
theorem walk_enumT {b : Addr} {vs : List V} {ds : List D} (h : SqT K P1 b vs) (r : RepAll K P1 vs ds) : Walk K P1 (ItE K b) ((enumD 0 ds).map .d) := by
  refine ⟨fun i u H P α Fr st e s rel => ?_, fun H P α Fr st s rel => ⟨vs, (Same.sqt (Same.trans s rel.sub) h), by rw [r.length, List.length_map, enumD_len]⟩⟩
  rw [List.getElem?_map, Option.map_eq_some_iff] at e
  obtain ⟨d0, e, rfl⟩ := e
  obtain ⟨d, e0, rfl⟩ := enumD_get ds 0 i d0 e
  obtain ⟨v, e1, e2⟩ := r.get e0
  have hq := (Same.sqt (Same.trans s rel.sub) h)
  refine ⟨⟨vs, v, hq, e1⟩, fun x H' y => ?_⟩
  obtain ⟨T, w, rfl, hT, rfl, y⟩ := y
  have ex : w = v := Option.some.inj ((y vs hq).symm.trans e1)
  subst ex
  refine ⟨_, rel.new hT _, .d ?_⟩
  rw [Nat.zero_add]
  exact rep_tup (sq_up (rel.sub.free hT)) (.cons (.int _) (.cons (e2.mono s) .nil))
theorem zipD_get : ∀ (xs ys : List D) (i : Nat) (x : D), (zipD xs ys)[i]? = some x → ∃ a b, xs[i]? = some a ∧ ys[i]? = some b ∧ x = .tuple [a, b]
  | [], _, _, _, e => by simp [zipD] at e
  | _ :: _, [], _, _, e => by simp [zipD] at e
  | a :: xs, b :: ys, 0, x, e => by
    simp [zipD] at e
    exact ⟨a, b, rfl, rfl, e.symm⟩
  | a :: xs, b :: ys, i + 1, x, e => by
    obtain ⟨a', b', h1, h2, h3⟩ := zipD_get xs ys i x (by simpa [zipD] using e)
    exact ⟨a', b', by simpa using h1, by simpa using h2, h3⟩
theorem zipD_len : ∀ (xs ys : List D), (zipD xs ys).length = min xs.length ys.length
  | [], _ => by simp [zipD]
  | _ :: _, [] => by simp [zipD]
  | a :: xs, b :: ys => by simp [zipD, zipD_len xs ys]
theorem walk_zip {a b : Addr} {vs ws : List V} {ds es : List D} (h : SqL K P1 a vs) (h2 : SqL K P1 b ws) (r : RepAll K P1 vs ds) (r2 : RepAll K P1 ws es) : Walk K P1 (Itz K a b) ((zipD ds es).map .d) := by
  refine ⟨fun i u H P α Fr st e s rel => ?_, fun H P α Fr st s rel => ⟨vs, ws, (Same.sql (Same.trans s rel.sub) h), (Same.sql (Same.trans s rel.sub) h2), by rw [r.length, r2.length, List.length_map, zipD_len]; omega⟩⟩
  rw [List.getElem?_map, Option.map_eq_some_iff] at e
  obtain ⟨d0, e, rfl⟩ := e
  obtain ⟨da, db, ea, eb, rfl⟩ := zipD_get ds es i d0 e
  obtain ⟨v, e1, e2⟩ := r.get ea
  obtain ⟨w, e3, e4⟩ := r2.get eb
  have hq := (Same.sql (Same.trans s rel.sub) h)
  have hq2 := (Same.sql (Same.trans s rel.sub) h2)
  refine ⟨⟨vs, ws, v, w, hq, hq2, e1, e3⟩, fun x H' y => ?_⟩
  obtain ⟨T, x1, x2, rfl, hT, rfl, y1, y2⟩ := y
  have ex : x1 = v := Option.some.inj ((y1 vs hq).symm.trans e1)
  have ex2 : x2 = w := Option.some.inj ((y2 ws hq2).symm.trans e3)
  subst ex ex2
  exact ⟨_, rel.new hT _, .d (rep_tup (sq_up (rel.sub.free hT)) (.cons (e2.mono s) (.cons (e4.mono s) .nil)))⟩
theorem walk_zipS {x : Str} {b : Addr} {ws : List V} {es : List D} (h2 : SqT K P1 b ws) (r2 : RepAll K P1 ws es) : Walk K P1 (ItS K x b) ((zipD (signsD x) es).map .d) := by
  have hl : (signsD x).length = x.cps.size := by unfold signsD; rw [List.length_map, Array.length_toList]
  refine ⟨fun i u H P α Fr st e s rel => ?_, fun H P α Fr st s rel => ⟨ws, (Same.sqt (Same.trans s rel.sub) h2), by rw [r2.length, List.length_map, zipD_len, hl]⟩⟩
  rw [List.getElem?_map, Option.map_eq_some_iff] at e
  obtain ⟨d0, e, rfl⟩ := e
  obtain ⟨da, db, ea, eb, rfl⟩ := zipD_get _ es i d0 e
  unfold signsD at ea
  rw [List.getElem?_map, Option.map_eq_some_iff] at ea
  obtain ⟨c, ec, rfl⟩ := ea
  have ec' : x.cps[i]? = some c := by rw [← Array.getElem?_toList]; exact ec
  obtain ⟨w, e3, e4⟩ := r2.get eb
  have hq2 := (Same.sqt (Same.trans s rel.sub) h2)
  refine ⟨⟨ws, c, w, hq2, ec', e3⟩, fun v H' y => ?_⟩
  obtain ⟨T, c', x2, rfl, hT, rfl, y1, y2⟩ := y
  rw [ec'] at y1
  cases y1
  have ex2 : x2 = w := Option.some.inj ((y2 ws hq2).symm.trans e3)
  subst ex2
  exact ⟨_, rel.new hT _, .d (rep_tup (sq_up (rel.sub.free hT)) (.cons (.str _) (.cons (e4.mono s) .nil)))⟩
theorem walk_zipT {a b : Addr} {vs ws : List V} {ds es : List D} (h : SqT K P1 a vs) (h2 : SqT K P1 b ws) (r : RepAll K P1 vs ds) (r2 : RepAll K P1 ws es) : Walk K P1 (RZ.ItzT K a b) ((zipD ds es).map .d) := by
  refine ⟨fun i u H P α Fr st e s rel => ?_, fun H P α Fr st s rel => ⟨vs, ws, (Same.sqt (Same.trans s rel.sub) h), (Same.sqt (Same.trans s rel.sub) h2), by rw [r.length, r2.length, List.length_map, zipD_len]; omega⟩⟩
  rw [List.getElem?_map, Option.map_eq_some_iff] at e
  obtain ⟨d0, e, rfl⟩ := e
  obtain ⟨da, db, ea, eb, rfl⟩ := zipD_get ds es i d0 e
  obtain ⟨v, e1, e2⟩ := r.get ea
  obtain ⟨w, e3, e4⟩ := r2.get eb
  have hq := (Same.sqt (Same.trans s rel.sub) h)
  have hq2 := (Same.sqt (Same.trans s rel.sub) h2)
  refine ⟨⟨vs, ws, v, w, hq, hq2, e1, e3⟩, fun x H' y => ?_⟩
  obtain ⟨T, x1, x2, rfl, hT, rfl, y1, y2⟩ := y
  have ex : x1 = v := Option.some.inj ((y1 vs hq).symm.trans e1)
  have ex2 : x2 = w := Option.some.inj ((y2 ws hq2).symm.trans e3)
  subst ex ex2
  exact ⟨_, rel.new hT _, .d (rep_tup (sq_up (rel.sub.free hT)) (.cons (e2.mono s) (.cons (e4.mono s) .nil)))⟩
end

section
variable {G : Gm} {W k : Nat} {cl : Nat → Value}
theorem star_one {c : Ct} {its : Es} {a : Expr} (hc : chkEs G c its [a] = true) (env : PySem.Env) : starEach [a] env = [(false, eval a env)] := by
  cases its with
  | nil => simp [chkEs] at hc
  | cons e es => simp only [chkEs, Bool.and_eq_true] at hc; rw [star_cons (chk_ns hc.1)]; rfl
theorem star_two {c : Ct} {its : Es} {a b : Expr} (hc : chkEs G c its [a, b] = true) (env : PySem.Env) : starEach [a, b] env = [(false, eval a env), (false, eval b env)] ∧ starEach [b] env = [(false, eval b env)] := by
  cases its with
  | nil => simp [chkEs] at hc
  | cons e es =>
    simp only [chkEs, Bool.and_eq_true] at hc
    have h2 := star_one hc.2 env
    exact ⟨by rw [star_cons (chk_ns hc.1), h2], h2⟩
theorem iter_sound {X : Cx} {c : Ct} {ik : Ik} {its : Es} {iter t : Expr} {Wx : WX} (S : Sta G cl k X c) (tk : Takes X Wx) (hsh : itShape ik iter t c.sc G.bts = true) (hc : chkEs G c its (itArgs ik iter) = true) (hs : AllE (SndE G W k cl) its)
    {σ : L2.St} {H P : Hp} {α : List Addr} {Fr : Hp} {st : Store} {ε : Env} (r : Rel X.K P α Fr st H) (ev : EnvOk X.K P α σ ε) {Rr : It → Hp → Prop}
    (q : FitR X.K G cl P α Fr (fun v d H' => Wx v d σ H') (fun P' _ J items => Walk X.K P' J items) ((evEs G (cpK G W k) (cmK G W k) its ε st).bind fun us st1 => ofO (walkU ik us st1) st1) Rr) : WI X t iter σ H Rr := by
  cases ik with
  | val =>
    cases its with
    | nil => simp [itArgs, chkEs] at hc
    | cons e es =>
      cases es with
      | cons e2 es2 => simp [itArgs, chkEs] at hc
      | nil =>
        simp only [itArgs, chkEs, Bool.and_true] at hc
        unfold evEs evEs at q
        cases hr : evE G (cpK G W k) (cmK G W k) e ε st with
        | stuck => rw [hr] at q; exact q.elim
        | exc cc x st1 =>
          rw [hr] at q
          exact WI.of (pi_list pe_W) (hs.1 X c _ Wx S tk hc σ H P α Fr st ε r ev _ (by rw [hr]; exact q))
        | ok u st1 =>
          rw [hr] at q
          simp only [R.bind, walkU, wVal] at q
          cases u with
          | m n => exact q.elim
          | f h => exact q.elim
          | s z => exact q.elim
          | d x =>
            cases x with
            | list xs =>
              refine WI.of (pi_list pe_W) (hs.1 X c _ Wx S tk hc σ H P α Fr st ε r ev _ ?_)
              rw [hr]
              intro v H1 P1 α1 a1 rx
              cases rx with | d rx =>
              cases rx with | lst hl ra =>
              exact ⟨_, rfl, ⟨_, Same.sql a1.rel.sub hl⟩, q _ _ _ _ a1 (walk_list hl ra)⟩
            | tuple xs =>
              refine WI.of (pi_tup pe_W) (hs.1 X c _ Wx S tk hc σ H P α Fr st ε r ev _ ?_)
              rw [hr]
              intro v H1 P1 α1 a1 rx
              cases rx with | d rx =>
              cases rx with | tup hl ra =>
              exact ⟨_, rfl, ⟨_, Same.sqt a1.rel.sub hl⟩, q _ _ _ _ a1 (walk_tup hl ra)⟩
            | str s =>
              refine WI.of (pi_str pe_W) (hs.1 X c _ Wx S tk hc σ H P α Fr st ε r ev _ ?_)
              rw [hr]
              intro v H1 P1 α1 a1 rx
              cases rx with | d rx =>
              cases rx
              simp only [itemsU] at q
              split at q
              · exact ⟨_, rfl, q _ _ _ _ a1 walk_str⟩
              · exact q.elim
            | _ => exact q.elim
  | r1 =>
    cases iter with
    | Call fn as kws pos =>
      cases fn with
      | Name x p =>
        rcases as with _ | ⟨a, _ | ⟨a2, as⟩⟩ <;> first | (simp only [itShape, Bool.false_eq_true] at hsh; done) | skip
        cases kws with
        | cons kw kws => simp only [itShape, Bool.false_eq_true] at hsh
        | nil =>
          simp only [itShape, Bool.and_eq_true, decide_eq_true_eq, List.contains_eq_mem] at hsh
          obtain ⟨⟨rfl, hg⟩, hm⟩ := hsh
          simp only [itArgs] at hc
          have hst : starEach [a] X.env = [(false, eval a X.env)] := by
            cases its with
            | nil => simp [chkEs] at hc
            | cons e es => simp only [chkEs, Bool.and_eq_true] at hc; rw [star_cons (chk_ns hc.1)]; rfl
          refine WI.of (pi_range1 (S.gl hg) (S.bt _ hm) pa_W hst) ?_
          refine sndEs_of hs X c _ Wx S tk hc σ H P α Fr st ε r ev _ (FitR.bind q fun us st1 vs H1 P1 α1 e1 a1 ru q1 => ?_)
          cases hw : walkU .r1 us st1 with
          | none => rw [hw] at q1; exact q1.elim
          | some items =>
            rw [hw] at q1
            unfold walkU wR1 at hw
            simp only at hw
            split at hw
            · split at hw
              · rename_i hj
                cases hw
                obtain ⟨v, rfl, h⟩ := repus1 ru
                cases repd h
                exact ⟨_, rfl, hj.1, hj.2, q1 _ _ _ _ (Aft.refl a1.rel) walk_range⟩
              · cases hw
            · cases hw
      | _ => simp only [itShape, Bool.false_eq_true] at hsh
    | _ => simp only [itShape, Bool.false_eq_true] at hsh
  | r2 =>
    cases iter with
    | Call fn as kws pos =>
      cases fn with
      | Name x p =>
        rcases as with _ | ⟨a, _ | ⟨a2, _ | ⟨a3, as⟩⟩⟩ <;> first | (simp only [itShape, Bool.false_eq_true] at hsh; done) | skip
        cases kws with
        | cons kw kws => simp only [itShape, Bool.false_eq_true] at hsh
        | nil =>
          simp only [itShape, Bool.and_eq_true, decide_eq_true_eq, List.contains_eq_mem] at hsh
          obtain ⟨⟨rfl, hg⟩, hm⟩ := hsh
          simp only [itArgs] at hc
          obtain ⟨hst, hst2⟩ := star_two hc X.env
          refine WI.of (pi_range2 (S.gl hg) (S.bt _ hm) pa_W hst hst2) ?_
          refine sndEs_of hs X c _ Wx S tk hc σ H P α Fr st ε r ev _ (FitR.bind q fun us st1 vs H1 P1 α1 e1 a1 ru q1 => ?_)
          cases hw : walkU .r2 us st1 with
          | none => rw [hw] at q1; exact q1.elim
          | some items =>
            rw [hw] at q1
            unfold walkU wR2 at hw
            simp only at hw
            split at hw
            · split at hw
              · rename_i hj
                cases hw
                obtain ⟨v, w, rfl, h, h2⟩ := repus2 ru
                cases repd h
                cases repd h2
                exact ⟨_, _, rfl, hj, q1 _ _ _ _ (Aft.refl a1.rel) walk_range⟩
              · cases hw
            · cases hw
      | _ => simp only [itShape, Bool.false_eq_true] at hsh
    | _ => simp only [itShape, Bool.false_eq_true] at hsh
  | enum =>
    cases iter with
    | Call fn as kws pos =>
      cases fn with
      | Name x p =>
        rcases as with _ | ⟨a, _ | ⟨a2, as⟩⟩ <;> first | (simp only [itShape, Bool.false_eq_true] at hsh; done) | skip
        cases kws with
        | cons kw kws => simp only [itShape, Bool.false_eq_true] at hsh
        | nil =>
          simp only [itShape, Bool.and_eq_true, decide_eq_true_eq, List.contains_eq_mem] at hsh
          obtain ⟨⟨⟨rfl, hg⟩, hm⟩, ht⟩ := hsh
          cases t <;> first | cases ht | skip
          simp only [itArgs] at hc
          by_cases hz : ∃ ys st1, evEs G (cpK G W k) (cmK G W k) its ε st = .ok [.d (.tuple ys)] st1
          · obtain ⟨ys, st1, hr⟩ := hz
            refine WI.of (pi_enumT (S.gl hg) (S.bt _ hm) pa_W (star_one hc X.env)) ?_
            refine sndEs_of hs X c _ Wx S tk hc σ H P α Fr st ε r ev _ ?_
            rw [hr] at q ⊢
            intro vs H1 P1 α1 a1 ru
            obtain ⟨v, rfl, h⟩ := repus1 ru
            cases repd h with | tup hl ra =>
            exact ⟨_, _, rfl, Same.sqt a1.rel.sub hl, q _ _ _ _ a1 (walk_enumT hl ra)⟩
          refine WI.of (pi_enum (S.gl hg) (S.bt _ hm) pa_W (star_one hc X.env)) ?_
          refine sndEs_of hs X c _ Wx S tk hc σ H P α Fr st ε r ev _ (FitR.bind q fun us st1 vs H1 P1 α1 e1 a1 ru q1 => ?_)
          cases hw : walkU .enum us st1 with
          | none => rw [hw] at q1; exact q1.elim
          | some items =>
            rw [hw] at q1
            unfold walkU wEnum at hw
            simp only at hw
            split at hw
            · exact absurd ⟨_, _, e1⟩ hz
            · cases hw
              obtain ⟨v, rfl, h⟩ := repus1 ru
              cases repd h with | lst hl ra =>
              exact ⟨_, _, rfl, Same.sql a1.rel.sub hl, q1 _ _ _ _ (Aft.refl a1.rel) (walk_enum hl ra)⟩
            · cases hw
      | _ => simp only [itShape, Bool.false_eq_true] at hsh
    | _ => simp only [itShape, Bool.false_eq_true] at hsh
  | zip =>
    cases iter with
    | Call fn as kws pos =>
      cases fn with
      | Name x p =>
        rcases as with _ | ⟨a, _ | ⟨a2, _ | ⟨a3, as⟩⟩⟩ <;> first | (simp only [itShape, Bool.false_eq_true] at hsh; done) | skip
        cases kws with
        | cons kw kws => simp only [itShape, Bool.false_eq_true] at hsh
        | nil =>
          simp only [itShape, Bool.and_eq_true, decide_eq_true_eq, List.contains_eq_mem] at hsh
          obtain ⟨⟨⟨rfl, hg⟩, hm⟩, ht⟩ := hsh
          cases t <;> first | cases ht | skip
          simp only [itArgs] at hc
          obtain ⟨hst, hst2⟩ := star_two hc X.env
          by_cases hz : ∃ x ys st1, evEs G (cpK G W k) (cmK G W k) its ε st = .ok [.d (.str x), .d (.tuple ys)] st1
          · obtain ⟨x, ys, st1, hr⟩ := hz
            refine WI.of (pi_zipS (S.gl hg) (S.bt _ hm) pa_W (by rw [hst, hst2]) (by rw [hst2]; rfl)) ?_
            refine sndEs_of hs X c _ Wx S tk hc σ H P α Fr st ε r ev _ ?_
            rw [hr] at q ⊢
            intro vs H1 P1 α1 a1 ru
            obtain ⟨v, w, rfl, h, h2⟩ := repus2 ru
            cases repd h
            cases repd h2 with | tup hl2 ra2 =>
            exact ⟨_, _, _, rfl, Same.sqt a1.rel.sub hl2, q _ _ _ _ a1 (walk_zipS hl2 ra2)⟩
          refine WI.of (RZ.pi_zipA (S.gl hg) (S.bt _ hm) pa_W (by rw [hst, hst2]) (by rw [hst2]; rfl)) ?_
          refine sndEs_of hs X c _ Wx S tk hc σ H P α Fr st ε r ev _ (FitR.bind q fun us st1 vs H1 P1 α1 e1 a1 ru q1 => ?_)
          cases hw : walkU .zip us st1 with
          | none => rw [hw] at q1; exact q1.elim
          | some items =>
            rw [hw] at q1
            unfold walkU wZip at hw
            simp only at hw
            split at hw
            · exact absurd ⟨_, _, _, e1⟩ hz
            · cases hw
              obtain ⟨v, w, rfl, h, h2⟩ := repus2 ru
              cases repd h with | lst hl ra =>
              cases repd h2 with | lst hl2 ra2 =>
              exact ⟨_, _, _, _, rfl, .inl ⟨Same.sql a1.rel.sub hl, Same.sql a1.rel.sub hl2, q1 _ _ _ _ (Aft.refl a1.rel) (walk_zip hl hl2 ra ra2)⟩⟩
            · cases hw
              obtain ⟨v, w, rfl, h, h2⟩ := repus2 ru
              cases repd h with | tup hl ra =>
              cases repd h2 with | tup hl2 ra2 =>
              exact ⟨_, _, _, _, rfl, .inr ⟨Same.sqt a1.rel.sub hl, Same.sqt a1.rel.sub hl2, q1 _ _ _ _ (Aft.refl a1.rel) (walk_zipT hl hl2 ra ra2)⟩⟩
            · cases hw
      | _ => simp only [itShape, Bool.false_eq_true] at hsh
    | _ => simp only [itShape, Bool.false_eq_true] at hsh
end
end Ev
end

section
set_option maxRecDepth 10000
set_option autoImplicit false
/-! EvK: targets by names; comprehensions. -/
namespace Ev
open PySem PySem.Spec PyProof.Rows L2
variable [Lams]

/-! ### wiping -/
theorem wipe_get (σ : L2.St) : ∀ (vs : List Nat) (j : Nat), (wipe σ vs)[j]? = if j ∈ vs then (σ[j]?).map (fun _ => none) else σ[j]?
  | [], j => by simp [wipe]
  | v :: vs, j => by
    unfold wipe
    rw [List.getElem?_set, wipe_get σ vs j, wipe_length]
    by_cases hv : v = j
    · subst hv
      rw [if_pos rfl, if_pos List.mem_cons_self]
      by_cases hl : v < σ.length
      · rw [if_pos hl, List.getElem?_eq_getElem hl]; rfl
      · rw [if_neg hl, List.getElem?_eq_none (by omega)]; rfl
    · rw [if_neg hv]
      by_cases hj : j ∈ vs
      · rw [if_pos hj, if_pos (List.mem_cons_of_mem _ hj)]
      · rw [if_neg hj, if_neg (by simp only [List.mem_cons, not_or]; exact ⟨fun e => hv e.symm, hj⟩)]
theorem wipe_same {σ τ : L2.St} {vs : List Nat} (hl : σ.length = τ.length) (h : ∀ j, j ∉ vs → σ[j]? = τ[j]?) : wipe σ vs = wipe τ vs := by
  refine List.ext_getElem? fun j => ?_
  rw [wipe_get, wipe_get]
  by_cases hj : j ∈ vs
  · rw [if_pos hj, if_pos hj]
    by_cases hb : j < σ.length
    · rw [List.getElem?_eq_getElem hb, List.getElem?_eq_getElem (by omega)]; rfl
    · rw [List.getElem?_eq_none (by omega), List.getElem?_eq_none (by omega)]
  · rw [if_neg hj, if_neg hj]; exact h j hj

section
variable {G : Gm} {k : Nat} {cl : Nat → Value} {X : Cx} {c : Ct}
/-! ### targets -/
theorem name_pg (S : Sta G cl k X c) {i : Nat} {x : Str} {pos : Pos} (h : stName c i x = true) : PG X (.Name x pos) (gName i) := by
  unfold stName at h
  rw [Bool.and_eq_true] at h
  obtain ⟨h1, h2⟩ := S.sv x h.2
  exact pg_name (by rw [S.hN]; exact S.nd) (by rw [S.hN]; exact isE_of h.1) (by rw [S.sc]; exact h1) (by rw [S.sc]; exact h2)
/-- the slots other than the target's stay -/
theorem tns_sound (S : Sta G cl k X c) {P : Hp} {α : List Addr} {H : Hp} {Q : L2.St → Hp → Prop} : ∀ {is : List Nat} {es : List Expr} {vs : List V} {us : List U} {σ : L2.St} {ε ε' : Env}, chkTns c is es = true → RepUs X.K P α vs us → setEs is us ε = some ε' → EnvOk X.K P α σ ε →
    (∀ σ', EnvOk X.K P α σ' ε' → σ'.length = σ.length → (∀ j, j ∉ is → σ'[j]? = σ[j]?) → Q σ' H) → WGs X es vs σ H Q
  | [], [], _, _, σ, ε, ε', _, .nil, e, ev, q => by
    cases e
    exact WGs.of pgs_nil ⟨rfl, q σ ev rfl fun _ _ => rfl⟩
  | [], [], _, _, σ, ε, ε', _, .cons _ _, e, ev, q => by simp [setEs] at e
  | [], _ :: _, _, _, _, _, _, h, _, _, _, _ => by simp [chkTns] at h
  | _ :: _, [], _, _, _, _, _, h, _, _, _, _ => by simp [chkTns] at h
  | i :: is, x :: es, _, _, σ, ε, ε', h, .nil, e, _, _ => by simp [setEs] at e
  | i :: is, x :: es, _, _, σ, ε, ε', h, .cons r rs, e, ev, q => by
    cases x with
    | Name n pos =>
      simp only [chkTns, Bool.and_eq_true] at h
      refine WGs.of (pgs_cons (name_pg S h.1) pgs_W) ⟨_, _, rfl, ?_⟩
      refine tns_sound S h.2 rs e (ev.set r i) fun σ' h1 h2 h3 => q σ' h1 (by rw [h2, List.length_set]) fun j hj => ?_
      simp only [List.mem_cons, not_or] at hj
      rw [h3 j hj.2, List.getElem?_set_ne (fun z => hj.1 z.symm)]
    | _ => simp [chkTns] at h
theorem tns_each : ∀ {is : List Nat} {es : List Expr} {env : PySem.Env}, chkTns c is es = true → (assignEach es env).length = is.length ∧ (assignEach es env).findIdx? (·.1) = none
  | [], [], _, _ => ⟨rfl, rfl⟩
  | [], _ :: _, _, h => by simp [chkTns] at h
  | _ :: _, [], _, h => by simp [chkTns] at h
  | i :: is, x :: es, env, h => by
    cases x with
    | Name n pos =>
      simp only [chkTns, Bool.and_eq_true] at h
      obtain ⟨h1, h2⟩ := tns_each (env := env) h.2
      refine ⟨by show (assignEach es env).length + 1 = _; rw [h1]; rfl, ?_⟩
      show List.findIdx? (·.1) ((false, assign (.Name n pos) env) :: assignEach es env) = none
      rw [List.findIdx?_cons, h2]; rfl
    | _ => simp [chkTns] at h
theorem tn_sound (S : Sta G cl k X c) {P : Hp} {α : List Addr} {Fr : Hp} {st : Store} {H : Hp} (r : Rel X.K P α Fr st H) {Q : L2.St → Hp → Prop} {t : Tn} {x : Expr} {v : V} {u : U} {σ : L2.St} {ε ε' : Env} (hc : chkTn c t x = true) (ru : RepU X.K P α v u) (e : setTn t u ε = some ε') (ev : EnvOk X.K P α σ ε)
    (q : ∀ σ', EnvOk X.K P α σ' ε' → σ'.length = σ.length → (∀ j, j ∉ tnSlots t → σ'[j]? = σ[j]?) → Q σ' H) : WG X x v σ H Q := by
  cases t with
  | one i =>
    cases x with
    | Name n pos =>
      cases e
      exact WG.of (name_pg S hc) (q _ (ev.set ru i) (List.length_set ..) fun j hj => List.getElem?_set_ne (fun z => hj (by rw [← z]; exact List.mem_singleton_self _)))
    | _ => simp [chkTn] at hc
  | tup is =>
    cases x with
    | Tuple es n pos =>
      simp only [chkTn] at hc
      cases u with
      | m n => simp [setTn] at e
      | f h => simp [setTn] at e
      | s z => simp [setTn] at e
      | d y =>
        cases y with
        | tuple xs =>
          simp only [setTn] at e
          split at e
          · rename_i hl
            obtain ⟨a1, a2⟩ := tns_each (env := X.env) hc
            cases ru with | d ru =>
            cases ru with | tup hs ra =>
            exact WG.of (pg_tup S.calm pgs_W a1 a2) ⟨_, _, rfl, Same.sqt r.sub hs, by rw [ra.length]; exact hl, tns_sound S hc (RepUs.of_all ra) e ev q⟩
          · cases e
        | list xs =>
          simp only [setTn] at e
          split at e
          · rename_i hl
            obtain ⟨a1, a2⟩ := tns_each (env := X.env) hc
            cases ru with | d ru =>
            cases ru with | lst hs ra =>
            exact WG.of (pg_lst S.calm pgs_W a1 a2) ⟨_, _, rfl, Same.sql r.sub hs, by rw [ra.length]; exact hl, tns_sound S hc (RepUs.of_all ra) e ev q⟩
          · cases e
        | _ => simp [setTn] at e
    | _ => simp [chkTn] at hc
  | nest i js =>
    cases x with
    | Tuple es n pos =>
      simp only [chkTn] at hc
      unfold chkNest at hc
      split at hc
      · rename_i x px es' n' pos'
        rw [Bool.and_eq_true] at hc
        cases u with
        | m n => simp [setTn] at e
        | f h => simp [setTn] at e
        | s z => simp [setTn] at e
        | d y =>
          rcases y with _ | _ | _ | _ | _ | ys | _ <;> first | (simp [setTn] at e; done) | skip
          rcases ys with _ | ⟨a, _ | ⟨b, _ | ⟨c0, ys⟩⟩⟩ <;> first | (simp [setTn] at e; done) | skip
          · rcases b with _ | _ | _ | _ | _ | xs | _ <;> first | (simp [setTn] at e; done) | skip
            simp only [setTn] at e
            split at e
            · rename_i hl
              obtain ⟨a1, a2⟩ := tns_each (env := X.env) hc.2
              cases ru with | d ru =>
              cases ru with | tup hs ra =>
              cases ra with | cons ra1 ra =>
              cases ra with | cons rb ra =>
              cases ra
              cases rb with | tup hs2 ra2 =>
              refine WG.of (pg_tup S.calm (pgs_cons (name_pg S hc.1) (pgs_cons (pg_tup S.calm pgs_W a1 a2) pgs_nil)) rfl rfl) ⟨_, _, rfl, Same.sqt r.sub hs, rfl, _, _, rfl, ?_⟩
              refine ⟨_, _, rfl, _, _, rfl, Same.sqt r.sub hs2, by rw [ra2.length]; exact hl, ?_⟩
              refine tns_sound S hc.2 (RepUs.of_all ra2) e (ev.set (.d ra1) i) fun σ' h1 h2 h3 => ⟨rfl, q σ' h1 (by rw [h2, List.length_set]) fun j hj => ?_⟩
              simp only [tnSlots, List.mem_cons, not_or] at hj
              rw [h3 j hj.2, List.getElem?_set_ne (fun z => hj.1 z.symm)]
            · cases e
      · cases hc
    | _ => simp [chkTn] at hc
end

/-! ### comprehensions -/
section
variable {G : Gm} {W k : Nat} {cl : Nat → Value} {X : Cx} {c : Ct}
theorem blk_sta (S : Sta G cl k X c) {scope : Scope} (hk : scope.kind = .function) (s : Shared) (H : Hp) (C : Addr) (clo : List (Str × Addr)) (fp : List Addr) : Sta G cl k (X.blk s H scope (compEnvC scope clo C X.env) fp) (blkCt c scope) where
  hN := S.hN
  nd := S.nd
  sc := by
    show relS scope X.env.scope = relS scope c.sc
    rw [S.sc]
  kind := hk
  calm := S.calm
  room := S.room
  guards := S.guards
  sv := fun x h => by
    have hl : locB scope x = true := h
    unfold locB at hl
    split at hl
    · rename_i e
      have e2 : (relS scope c.sc).names.lookup x = some .local := lookup_relS_keep (by decide) e
      exact ⟨.inl e2, .inr e2⟩
    · rename_i e
      have e2 : (relS scope c.sc).names.lookup x = some .cell := lookup_relS_keep (by decide) e
      refine ⟨.inr e2, .inl ?_⟩
      show (scope.names.lookup x == some .cell) = true
      rw [e]; rfl
    · cases hl
  fn := S.fn
  con := S.con
  bt := S.bt
  hG := S.hG
  hmg := S.hmg
  lam := S.lam
  tab := fun h => nomatch h
def WTs1 (X : Cx) (fs : List Expr) (σ : L2.St) (H : Hp) (Q : Bool → Hp → Prop) : Prop := match fs with
  | [] => Q true H
  | [a] => WT X a σ H Q
  | _ => False
theorem pts_W {X : Cx} {fs : List Expr} : PTs X fs (WTs1 X fs) := by
  rcases fs with _ | ⟨a, _ | ⟨b, fs⟩⟩
  · exact pts_nil
  · exact pts_one pt_W
  · exact ⟨fun _ _ _ _ _ _ h => h.elim⟩
theorem takes_none {X : Cx} : Takes X (fun _ _ _ _ => False) := fun u s' ⟨_, _, _, _, _, _, _, _, _, _, _, _, _, _, _, _, h⟩ => h.elim
/-- the list that is being made is left alone by what a turn does -/
theorem Rel.reframe {K : PySem.W.Frag} {P : Hp} {α : List Addr} {Fr : Hp} {st : Store} {H : Hp} {D : Addr} {o o' : HO} (r : Rel K P α (upd Fr D o) st H) (ho : ∀ ps, o' ≠ .tbl ps := by intro ps h; cases h) : Rel K P α (upd Fr D o') st (upd H D o') := by
  have hD : P D = none := r.dis D o upd_same
  have nD : ∀ b, b ≠ D → (upd Fr D o) b = Fr b := fun b h => upd_ne h
  refine ⟨fun b x e => ?_, fun b x e => ?_, r.len, r.nd, fun n a us h1 h2 => ?_, fun b x e => ?_, r.gone, ?_⟩
  rotate_left 4
  · have t1 := r.tb.upd (a := D) o' (fun ps z => by have := (r.tb.nt D ps z).2; rw [upd_same] at this; cases this) ho
    refine t1.frame fun b ps e => ?_
    by_cases hb : b = D
    · subst hb; rw [upd_same] at e; cases e; exact absurd rfl (ho ps)
    · have := (t1.nt b ps e).2
      rw [upd_ne hb] at this ⊢; exact this
  · rw [upd_ne (ne_of_none e hD)]; exact r.sub b x e
  · by_cases hb : b = D
    · subst hb; rw [upd_same] at e ⊢; exact e
    · rw [upd_ne hb] at e ⊢
      exact r.fr b x (by rw [upd_ne hb]; exact e)
  · obtain ⟨c1, c2, vs, c3, c4⟩ := r.cell n a us h1 h2
    have na : a ≠ D := fun z => by rw [z, upd_same] at c2; cases c2
    exact ⟨c1, by rw [upd_ne na] at c2 ⊢; exact c2, vs, by rw [upd_ne na]; exact c3, c4⟩
  · by_cases hb : b = D
    · rw [hb]; exact hD
    · rw [upd_ne hb] at e
      exact r.dis b x (by rw [upd_ne hb]; exact e)
theorem Rel.enframe {K : PySem.W.Frag} {P : Hp} {α : List Addr} {Fr : Hp} {st : Store} {H : Hp} {D : Addr} {o : HO} (r : Rel K P α Fr st H) (hD : H D = none) (ho : ∀ ps, o ≠ .tbl ps := by intro ps h; cases h) : Rel K P α (upd Fr D o) st (upd H D o) := by
  have hP : P D = none := r.sub.free hD
  refine ⟨fun b x e => ?_, fun b x e => ?_, r.len, r.nd, fun n a us h1 h2 => ?_, fun b x e => ?_, r.gone, ?_⟩
  rotate_left 4
  · have t1 := r.tb.upd (a := D) o (fun ps z => by rw [hD] at z; cases z) ho
    refine t1.frame fun b ps e => ?_
    by_cases hb : b = D
    · subst hb; rw [upd_same] at e; cases e; exact absurd rfl (ho ps)
    · rw [upd_ne hb]; exact (t1.nt b ps e).2
  · rw [upd_ne (ne_of_none e hP)]; exact r.sub b x e
  · by_cases hb : b = D
    · subst hb; rw [upd_same] at e ⊢; exact e
    · rw [upd_ne hb] at e ⊢; exact r.fr b x e
  · obtain ⟨c1, c2, vs, c3, c4⟩ := r.cell n a us h1 h2
    have na : a ≠ D := ne_of_none c3 hD
    exact ⟨c1, by rw [upd_ne na]; exact c2, vs, by rw [upd_ne na]; exact c3, c4⟩
  · by_cases hb : b = D
    · rw [hb]; exact hP
    · rw [upd_ne hb] at e; exact r.dis b x e
/-- the frame without the list, the list known to the heap alone -/
theorem Rel.deframe {K : PySem.W.Frag} {P : Hp} {α : List Addr} {Fr : Hp} {st : Store} {H : Hp} {D : Addr} {o : HO} (r : Rel K P α (upd Fr D o) st H) (hF : Fr D = none) : Rel K P α Fr st H ∧ P D = none ∧ H D = some o ∧ D ∉ α := by
  have hs : Same Fr (upd Fr D o) := fun b x e => by rw [upd_ne (ne_of_none e hF)]; exact e
  have hP := r.dis D o upd_same
  refine ⟨⟨r.sub, hs.trans r.fr, r.len, r.nd, fun n a us h1 h2 => ?_, fun b x e => r.dis b x (hs b x e), r.gone, r.tb.frame fun b ps e => hs.free (r.tb.nt b ps e).2⟩, hP, r.fr D o upd_same, fun z => ?_⟩
  · obtain ⟨c1, c2, vs, c3, c4⟩ := r.cell n a us h1 h2
    have na : a ≠ D := fun z => by rw [z, upd_same] at c2; cases c2
    exact ⟨c1, by rw [upd_ne na] at c2; exact c2, vs, c3, c4⟩
  · obtain ⟨n, hn, e⟩ := List.mem_iff_getElem.mp z
    have h1 : α[n]? = some D := by rw [List.getElem?_eq_getElem hn, e]
    have hst : n < st.length := by rw [← r.len]; exact hn
    cases q : st[n] with
    | dead =>
      obtain ⟨o', z⟩ := r.gone n D h1 (by rw [List.getElem?_eq_getElem hst, q])
      rw [hP] at z; cases z
    | lst us =>
      obtain ⟨_, c2, _⟩ := r.cell n D us h1 (by rw [List.getElem?_eq_getElem hst, q])
      rw [upd_same] at c2; cases c2
/-- a list that stands apart becomes data -/
theorem Rel.take_in {K : PySem.W.Frag} {P : Hp} {α : List Addr} {Fr : Hp} {st : Store} {H : Hp} {D : Addr} {vs : List V} (r : Rel K P α Fr st H) (hP : P D = none) (hF : Fr D = none) (hα : D ∉ α) (hH : H D = some (.lst vs)) : Aft K P α Fr st H (upd P D (.lst vs)) α := by
  have s1 : Same P (upd P D (.lst vs)) := sq_up hP
  refine ⟨⟨fun b x e => ?_, r.fr, r.len, r.nd, fun n a us h1 h2 => ?_, fun b x e => ?_, fun n a h1 h2 => (r.gone n a h1 h2).imp fun x e => s1 _ _ e, r.tb.grow s1 fun b ps e => by rw [upd_ne fun z => by rw [z, hH] at e; cases e]; exact (r.tb.nt b ps e).1⟩, s1, List.prefix_rfl⟩
  · by_cases hb : b = D
    · subst hb; rw [upd_same] at e; rw [hH]; exact e
    · rw [upd_ne hb] at e; exact r.sub b x e
  · obtain ⟨c1, c2, ws, c3, c4⟩ := r.cell n a us h1 h2
    have na : a ≠ D := fun z => hα (z ▸ List.mem_of_getElem? h1)
    exact ⟨by rw [upd_ne na]; exact c1, c2, ws, c3, c4.mono s1 List.prefix_rfl⟩
  · rw [upd_ne (ne_of_none e hF)]; exact r.dis b x e
/-- .. or a thing of the store -/
theorem Rel.take_cell {K : PySem.W.Frag} {P : Hp} {α : List Addr} {Fr : Hp} {st : Store} {H : Hp} {D : Addr} {vs : List V} {us : List U} (r : Rel K P α Fr st H) (hP : P D = none) (hF : Fr D = none) (hα : D ∉ α) (hH : H D = some (.lst vs)) (ru : RepUs K P α vs us) : Aft K P α Fr (st ++ [.lst us]) H P (α ++ [D]) := by
  have pre : α <+: α ++ [D] := List.prefix_append _ _
  refine ⟨⟨r.sub, r.fr, by simp [r.len], ?_, fun n a us' h1 h2 => ?_, r.dis, fun n a h1 h2 => ?_, r.tb⟩, Same.refl _, pre⟩
  · rw [List.nodup_append]
    refine ⟨r.nd, by simp, fun a ha b hb => ?_⟩
    have e : b = D := by simpa using hb
    rintro rfl
    exact hα (e ▸ ha)
  · by_cases hn : n < α.length
    · rw [List.getElem?_append_left hn] at h1
      rw [List.getElem?_append_left (by rw [← r.len]; exact hn)] at h2
      obtain ⟨c1, c2, ws, c3, c4⟩ := r.cell n a us' h1 h2
      exact ⟨c1, c2, ws, c3, c4.mono (Same.refl _) pre⟩
    · have hn' : n = α.length := by
        have := (List.getElem?_eq_some_iff.mp h1).1
        rw [List.length_append, List.length_singleton] at this
        omega
      subst hn'
      rw [List.getElem?_append_right (Nat.le_refl _), Nat.sub_self] at h1
      rw [r.len, List.getElem?_append_right (Nat.le_refl _), Nat.sub_self] at h2
      have e1 : D = a := by simpa using h1
      have e2 : us = us' := by simpa using h2
      subst e1 e2
      exact ⟨hP, hF, vs, hH, ru.mono (Same.refl _) pre⟩
  · by_cases hn : n < α.length
    · rw [List.getElem?_append_left hn] at h1
      rw [List.getElem?_append_left (by rw [← r.len]; exact hn)] at h2
      exact r.gone n a h1 h2
    · rw [List.getElem?_append_right (by rw [← r.len]; omega)] at h2
      rcases Nat.eq_zero_or_pos (n - st.length) with z | z
      · rw [z] at h2; cases h2
      · rw [List.getElem?_eq_none (by rw [List.length_singleton]; exact z)] at h2; cases h2

/-- what a turn of a comprehension does -/
def turnF (G : Gm) (W k : Nat) (elt : E) (tg : Tn) (ifs : Es) (own : List Nat) (ε : Env) (u : U) (st2 : Store) : R (Option U) := match setTn tg u (wipeE ε own) with
  | none => .stuck
  | some ε1 => (evEs G (cpK G W k) (cmK G W k) ifs ε1 st2).nox.bind fun bs st3 => match bs with
    | [] => (evE G (cpK G W k) (cmK G W k) elt ε1 st3).nox.bind fun x st4 => .ok (some x) st4
    | [.d (.bool true)] => (evE G (cpK G W k) (cmK G W k) elt ε1 st3).nox.bind fun x st4 => .ok (some x) st4
    | [.d (.bool false)] => .ok none st3
    | _ => .stuck
theorem turnF_some {elt : E} {tg : Tn} {ifs : Es} {own : List Nat} {ε ε1 : Env} {u : U} {st2 : Store} (h : setTn tg u (wipeE ε own) = some ε1) : turnF G W k elt tg ifs own ε u st2 = (evEs G (cpK G W k) (cmK G W k) ifs ε1 st2).nox.bind fun bs st3 => match bs with
    | [] => (evE G (cpK G W k) (cmK G W k) elt ε1 st3).nox.bind fun x st4 => .ok (some x) st4
    | [.d (.bool true)] => (evE G (cpK G W k) (cmK G W k) elt ε1 st3).nox.bind fun x st4 => .ok (some x) st4
    | [.d (.bool false)] => .ok none st3
    | _ => .stuck := by
  unfold turnF
  rw [h]
theorem evE_comp {mu : Bool} {elt : E} {tg : Tn} {ik : Ik} {its ifs : Es} {own : List Nat} {ε : Env} {st : Store} : evE G (cpK G W k) (cmK G W k) (.comp mu elt tg ik its ifs own) ε st =
    ((evEs G (cpK G W k) (cmK G W k) its ε st).bind fun us st1 => ofO (walkU ik us st1) st1).bind fun items st1 => (compLoop (turnF G W k elt tg ifs own ε) items [] st1).bind fun acc st5 => allocL mu acc st5 := by
  rw [evE]; rfl
abbrev Both (G : Gm) (W k : Nat) (cl : Nat → Value) (e : E) : Prop := SndE G W k cl e ∧ SndT G W k cl e
theorem AllE.fst {p q : E → Prop} : ∀ {es : Es}, AllE (fun e => p e ∧ q e) es → AllE p es
  | .nil, _ => trivial
  | .cons _ _, h => ⟨h.1.1, AllE.fst h.2⟩
theorem nox_ok {α : Type} {r : R α} {a : α} {st : Store} (h : r.nox = .ok a st) : r = .ok a st := by
  cases r with
  | ok => exact h
  | exc => cases h
  | stuck => cases h
/-- a comprehension's reading: what stands for its parts, and the reading itself -/
theorem comp_go {mu : Bool} {elt : E} {tg : Tn} {ik : Ik} {its ifs : Es} {own : List Nat} (he : SndE G W k cl elt) (hi : AllE (SndE G W k cl) its) (hf : AllE (Both G W k cl) ifs) {Wx : WX} (S : Sta G cl k X c) (tk : Takes X Wx)
    {el t iter : Expr} {fs : List Expr} {kk : Int} {scope : Scope} {pos : Pos} (hc : chkE G c (.comp mu elt tg ik its ifs own) (.ListComp el [⟨t, iter, fs, kk⟩] scope pos) = true)
    {σ : L2.St} {H P : Hp} {α : List Addr} {Fr : Hp} {st : Store} {ε : Env} (r : Rel X.K P α Fr st H) (ev : EnvOk X.K P α σ ε) {Q : VK}
    (q : FitR X.K G cl P α Fr (fun v d H' => Wx v d σ H') (RepU X.K) (evE G (cpK G W k) (cmK G W k) (.comp mu elt tg ik its ifs own) ε st) Q) :
    kk = 0 ∧ BlkOk X.N X.env.scope scope (ownOf c own) ∧ (∀ x, foldedSetIterable iter X.env x = pure x) ∧ ∃ (g : TG) (tt : TT) (te : TE),
      (∀ (s : Shared) (H0 : Hp) (C : Addr) (clo : List (Str × Addr)) (fp : List Addr), PG (X.blk s H0 scope (compEnvC scope clo C X.env) fp) t g) ∧
      (∀ (s : Shared) (H0 : Hp) (C : Addr) (clo : List (Str × Addr)) (fp : List Addr), PTs (X.blk s H0 scope (compEnvC scope clo C X.env) fp) fs tt) ∧
      (∀ (s : Shared) (H0 : Hp) (C : Addr) (clo : List (Str × Addr)) (fp : List Addr), PE (X.blk s H0 scope (compEnvC scope clo C X.env) fp) el te) ∧
      tLc (WI X t iter) g tt te ((ownOf c own).map (·.2)) σ H Q := by
    simp only [chkE, Bool.and_eq_true] at hc
    obtain ⟨⟨⟨⟨⟨⟨⟨⟨hk, hb⟩, ht⟩, hel⟩, hifs⟩, hfl⟩, hin⟩, hsh⟩, hits⟩ := hc
    have hk := of_decide_eq_true hk
    have hfl := of_decide_eq_true hfl
    have ok : BlkOk X.N X.env.scope scope (ownOf c own) := by rw [S.hN, S.sc]; exact blkOk_by hb
    have own2 : (ownOf c own).map (·.2) = own := by simp [ownOf, List.map_map, Function.comp_def]
    have fold : ∀ x, foldedSetIterable iter X.env x = pure x := by
      cases ik with
      | val =>
        cases its with
        | nil => simp [itArgs, chkEs] at hits
        | cons e es => simp only [itArgs, chkEs, Bool.and_eq_true] at hits; exact chk_nofold hits.1 _
      | _ => cases iter <;> first | exact fun _ => rfl | (simp [itShape] at hsh; done)
    let g : TG := fun v σ H Qg => ∀ (s : Shared) (H0 : Hp) (C : Addr) (clo : List (Str × Addr)) (fp : List Addr), WG (X.blk s H0 scope (compEnvC scope clo C X.env) fp) t v σ H Qg
    let tt : TT := fun σ H Qt => ∀ (s : Shared) (H0 : Hp) (C : Addr) (clo : List (Str × Addr)) (fp : List Addr), WTs1 (X.blk s H0 scope (compEnvC scope clo C X.env) fp) fs σ H Qt
    let te : TE := fun σ H Qe => ∀ (s : Shared) (H0 : Hp) (C : Addr) (clo : List (Str × Addr)) (fp : List Addr), WE (X.blk s H0 scope (compEnvC scope clo C X.env) fp) el σ H Qe
    refine ⟨hk, ok, fold, g, tt, te, fun s H0 C clo fp => ⟨fun pins s' σ' H' v u Q' I rv h => (h s H0 C clo fp) pins s' u I rv⟩,
      fun s H0 C clo fp => ⟨fun pins s' σ' H' Q' I h => pts_W.run pins s' σ' H' Q' I (h s H0 C clo fp)⟩,
      fun s H0 C clo fp => ⟨fun pins s' σ' H' Q' I h => (h s H0 C clo fp) pins s' I⟩, ?_⟩
    rw [own2]
    rw [evE_comp] at q
    refine iter_sound S tk hsh hits hi r ev (FitR.bind q fun items st1 J H1 P1 α1 e1 a1 wk q1 => ?_)
    intro D hD
    have hF : Fr D = none := a1.rel.fr.free hD
    refine ⟨fun i m H => m = items.length - i ∧ i ≤ items.length ∧ ∃ P2 α2 st2 accU accV, Rel X.K P2 α2 (upd Fr D (.lst accV)) st2 H ∧ Same P1 P2 ∧ α1 <+: α2 ∧ RepUs X.K P2 α2 accV accU ∧
      FitR X.K G cl P1 α1 Fr (fun v d H' => Wx v d σ H') (RepU X.K) ((compLoop (turnF G W k elt tg ifs own ε) (items.drop i) accU st2).bind fun acc st5 => allocL mu acc st5) Q,
      ⟨_, rfl, Nat.zero_le _, P1, α1, st1, [], [], a1.rel.enframe hD, Same.refl _, List.prefix_rfl, .nil, q1⟩, ?_⟩
    rintro i m H2 ⟨rfl, hi2, P2, α2, st2, accU, accV, rel2, s2, p2, ru2, q2⟩
    by_cases hlt : i < items.length
    · refine .inr ?_
      have eu : items[i]? = some items[i] := List.getElem?_eq_getElem hlt
      obtain ⟨go, yl⟩ := wk.go i _ H2 P2 α2 _ st2 eu s2 rel2
      rw [List.drop_eq_getElem_cons hlt] at q2
      unfold compLoop at q2
      refine ⟨go, fun H3 => ∃ P3 α3 st3 accU' accV', Rel X.K P3 α3 (upd Fr D (.lst accV')) st3 H3 ∧ Same P1 P3 ∧ α1 <+: α3 ∧ RepUs X.K P3 α3 accV' accU' ∧
        FitR X.K G cl P1 α1 Fr (fun v d H' => Wx v d σ H') (RepU X.K) ((compLoop (turnF G W k elt tg ifs own ε) (items.drop (i + 1)) accU' st3).bind fun acc st5 => allocL mu acc st5) Q,
        fun H3 h3 => ⟨_, by omega, rfl, hlt, h3⟩, fun x H3 y => ?_⟩
      obtain ⟨P3, a3, rx⟩ := yl x H3 y
      intro s0 H0 C clo fp
      have SB := blk_sta S (scope := scope) ok.kind s0 H0 C clo fp
      -- the target
      cases hset : setTn tg items[i] (wipeE ε own) with
      | none =>
        have z : turnF G W k elt tg ifs own ε items[i] st2 = .stuck := by unfold turnF; rw [hset]
        rw [z] at q2
        exact q2.elim
      | some ε1 =>
        have evw : EnvOk X.K P3 α2 (wipe σ own) (wipeE ε own) := (((ev.mono a1.same a1.pre).mono s2 p2).mono a3.same a3.pre).wipe own
        refine tn_sound SB a3.rel ht rx hset evw fun σ4 ev4 hl4 hj4 => ?_
        refine ⟨?_, ?_⟩
        · -- the slots but the comprehension's own stay
          have h1 : wipe σ4 own = wipe (wipe σ own) own := wipe_same hl4 fun j hj => hj4 j fun z => hj (by
            have := List.all_eq_true.mp hin j z
            simpa using this)
          rw [h1]
          exact wipe_same (by rw [wipe_length]) fun j hj => by rw [wipe_get, if_neg hj]
        · -- the tests, the element
          have turn : ∀ st4 H4 P4 α4, Aft X.K P3 α2 (upd Fr D (.lst accV)) st4 H4 P4 α4 → (∀ x st5, evE G (cpK G W k) (cmK G W k) elt ε1 st4 = .ok x st5 → turnF G W k elt tg ifs own ε items[i] st2 = .ok (some x) st5) →
              (∀ r', (∀ x st5, r' ≠ .ok x st5) → (evE G (cpK G W k) (cmK G W k) elt ε1 st4) = r' → turnF G W k elt tg ifs own ε items[i] st2 = .stuck) →
              te σ4 H4 fun y H5 => ∃ acc, H5 D = some (.lst acc) ∧ acc.length < sizeLine ∧ ∃ P3 α3 st3 accU' accV', Rel X.K P3 α3 (upd Fr D (.lst accV')) st3 (upd H5 D (.lst (acc ++ [y]))) ∧ Same P1 P3 ∧ α1 <+: α3 ∧ RepUs X.K P3 α3 accV' accU' ∧
                FitR X.K G cl P1 α1 Fr (fun v d H' => Wx v d σ H') (RepU X.K) ((compLoop (turnF G W k elt tg ifs own ε) (items.drop (i + 1)) accU' st3).bind fun acc st5 => allocL mu acc st5) Q := by
            intro st4 H4 P4 α4 a4 hok hst s9 H9 C9 clo9 fp9
            refine he _ _ el (fun _ _ _ _ => False) (blk_sta S ok.kind s9 H9 C9 clo9 fp9) takes_none hel σ4 H4 P4 α4 _ st4 ε1 a4.rel (ev4.mono a4.same a4.pre) _ ?_
            cases hr : evE G (cpK G W k) (cmK G W k) elt ε1 st4 with
            | ok x st5 =>
              intro v H5 P5 α5 a5 rv
              have ht := hok x st5 hr
              rw [ht] at q2
              simp only [R.bind] at q2
              by_cases hz : accU.length < sizeMax
              · rw [if_pos hz] at q2
                have hDv : H5 D = some (.lst accV) := a5.rel.fr D _ upd_same
                refine ⟨accV, hDv, by rw [Paired.length ru2, ← sizeMax_eq]; exact hz, P5, α5, st5, accU ++ [x], accV ++ [v], a5.rel.reframe, ((s2.trans a3.same).trans a4.same).trans a5.same, ((p2.trans a3.pre).trans a4.pre).trans a5.pre, ?_, q2⟩
                exact pappend ((((ru2.mono a3.same a3.pre).mono a4.same a4.pre).mono a5.same a5.pre)) (.cons rv .nil)
              · rw [if_neg hz] at q2
                exact q2.elim
            | exc cc xx st5 =>
              have z := hst (.exc cc xx st5) (fun _ _ h => by cases h) hr
              rw [z] at q2; exact q2.elim
            | stuck =>
              have z := hst .stuck (fun _ _ h => by cases h) hr
              rw [z] at q2; exact q2.elim
          rcases fs with _ | ⟨f1, _ | ⟨f2, fs⟩⟩
          · -- no test
            cases ifs with
            | cons e es => simp [chkEs] at hifs
            | nil =>
              intro s9 H9 C9 clo9 fp9
              refine turn st2 H3 P3 α2 (Aft.refl a3.rel) (fun x st5 h => ?_) fun r' h1 h2 => ?_
              · rw [turnF_some hset]
                unfold evEs
                show ((evE G (cpK G W k) (cmK G W k) elt ε1 st2).nox.bind fun x st4 => R.ok (some x) st4) = _
                rw [h]; rfl
              · rw [turnF_some hset]
                unfold evEs
                show ((evE G (cpK G W k) (cmK G W k) elt ε1 st2).nox.bind fun x st4 => R.ok (some x) st4) = _
                rw [h2]
                cases r' with
                | ok x st5 => exact absurd rfl (h1 x st5)
                | exc => rfl
                | stuck => rfl
          · -- one test
            cases ifs with
            | nil => simp [chkEs] at hifs
            | cons e es =>
              cases es with
              | cons e2 es2 => simp [chkEs] at hifs
              | nil =>
                simp only [chkEs, Bool.and_true] at hifs
                intro s9 H9 C9 clo9 fp9
                show WT _ f1 σ4 H3 _
                refine hf.1.2 _ _ f1 (fun _ _ _ _ => False) (blk_sta S ok.kind s9 H9 C9 clo9 fp9) takes_none hifs σ4 H3 P3 α2 _ st2 ε1 a3.rel ev4 _ ?_
                cases hr : evE G (cpK G W k) (cmK G W k) e ε1 st2 with
                | ok u st4 =>
                  have base : turnF G W k elt tg (.cons e .nil) own ε items[i] st2 = (match [u] with
                      | [] => (evE G (cpK G W k) (cmK G W k) elt ε1 st4).nox.bind fun x st4 => .ok (some x) st4
                      | [.d (.bool true)] => (evE G (cpK G W k) (cmK G W k) elt ε1 st4).nox.bind fun x st4 => .ok (some x) st4
                      | [.d (.bool false)] => .ok none st4
                      | _ => .stuck) := by
                    rw [turnF_some hset]
                    unfold evEs evEs
                    rw [hr]; rfl
                  cases u with
                  | m n => rw [base] at q2; exact q2.elim
                  | f h => rw [base] at q2; exact q2.elim
                  | s z => rw [base] at q2; exact q2.elim
                  | d x =>
                    cases x with
                    | bool b =>
                      intro v H4 P4 α4 a4 ev'
                      subst ev'
                      cases v with
                      | true =>
                        rw [if_pos rfl]
                        refine turn st4 H4 P4 α4 a4 (fun x st5 h => ?_) fun r' h1 h2 => ?_
                        · rw [base, h]; rfl
                        · rw [base, h2]
                          cases r' with
                          | ok x st5 => exact absurd rfl (h1 x st5)
                          | exc => rfl
                          | stuck => rfl
                      | false =>
                        rw [if_neg Bool.false_ne_true]
                        rw [base] at q2
                        exact ⟨P4, α4, st4, accU, accV, a4.rel, (s2.trans a3.same).trans a4.same, (p2.trans a3.pre).trans a4.pre, (ru2.mono a3.same a3.pre).mono a4.same a4.pre, q2⟩
                    | _ => rw [base] at q2; exact q2.elim
                | exc cc xx st4 =>
                  have z : turnF G W k elt tg (.cons e .nil) own ε items[i] st2 = .stuck := by
                    rw [turnF_some hset]
                    unfold evEs
                    rw [hr]; rfl
                  rw [z] at q2; exact q2.elim
                | stuck =>
                  have z : turnF G W k elt tg (.cons e .nil) own ε items[i] st2 = .stuck := by
                    rw [turnF_some hset]
                    unfold evEs
                    rw [hr]; rfl
                  rw [z] at q2; exact q2.elim
          · simp at hfl
    · refine .inl ?_
      have ei : i = items.length := by omega
      subst ei
      rw [List.drop_length] at q2
      unfold compLoop at q2
      refine ⟨wk.stop H2 P2 α2 _ st2 s2 rel2, ?_⟩
      obtain ⟨rel3, hP3, hH3, hα3⟩ := rel2.deframe hF
      have q3 : FitR X.K G cl P2 α2 Fr (fun v d H' => Wx v d σ H') (RepU X.K) (allocL mu accU st2) Q := FitR.weak (st1 := st2) (H1 := H2) q2 ⟨rel3, s2, p2⟩
      unfold allocL at q3
      split at q3
      · exact q3 _ _ _ _ (rel3.take_cell hP3 hF hα3 hH3 ru2) (.m (by rw [← rel3.len, List.getElem?_append_right (Nat.le_refl _), Nat.sub_self]; rfl))
      · split at q3
        · rename_i ds hd
          exact q3 _ _ _ _ (rel3.take_in hP3 hF hα3 hH3) (.d (rep_lst (sq_up hP3) (ru2.toDs hd)))
        · exact q3.elim
theorem snd_comp {mu : Bool} {elt : E} {tg : Tn} {ik : Ik} {its ifs : Es} {own : List Nat} (he : SndE G W k cl elt) (hi : AllE (SndE G W k cl) its) (hf : AllE (Both G W k cl) ifs) : SndE G W k cl (.comp mu elt tg ik its ifs own) := by
  intro X c x Wx S tk hc σ H P α Fr st ε r ev Q q
  cases x with
  | ListComp el gens scope pos =>
    rcases gens with _ | ⟨⟨t, iter, fs, kk⟩, _ | ⟨g2, gens⟩⟩ <;> first | (simp only [chkE, Bool.false_eq_true] at hc; done) | skip
    obtain ⟨rfl, ok, fold, g, tt, te, h1, h2, h3, h4⟩ := comp_go he hi hf S tk hc r ev q
    exact WE.of (pe_lc S.calm (by rw [S.hN]; exact S.nd) pi_W ok h1 h2 h3 fold) h4
  | _ => simp only [chkE, Bool.false_eq_true] at hc
end
end Ev
end

section
set_option maxRecDepth 10000
set_option autoImplicit false
/-! EvQ: a dict written out, its keys texts. -/
namespace Ev
open PySem PySem.Spec PyProof.Rows L2
variable [Lams]

section
variable {K : PySem.W.Frag} {P : Hp} {α : List Addr} {Fr : Hp} {st : Store} {H : Hp}
theorem Aft.unframe {Fr' : Hp} (s : Same Fr Fr') {st' : Store} {H' P' : Hp} {α' : List Addr} (a : Aft K P α Fr' st' H' P' α') : Aft K P α Fr st' H' P' α' := by
  refine ⟨⟨a.rel.sub, s.trans a.rel.fr, a.rel.len, a.rel.nd, fun n b us h1 h2 => ?_, fun b o e => a.rel.dis b o (s b o e), a.rel.gone, a.rel.tb.frame fun b ps e => s.free (a.rel.tb.nt b ps e).2⟩, a.same, a.pre⟩
  obtain ⟨c1, c2, c3⟩ := a.rel.cell n b us h1 h2
  exact ⟨c1, s.free c2, c3⟩
/-- an object in the making -/
theorem Rel.half (r : Rel K P α Fr st H) {p : Addr} (hp : H p = none) (o : HO) (ho : ∀ ps, o ≠ .tbl ps := by intro ps h; cases h) : Rel K P α (upd Fr p o) st (upd H p o) := by
  have hP := r.sub.free hp
  refine ⟨fun b x e => ?_, fun b x e => ?_, r.len, r.nd, fun n a us h1 h2 => ?_, fun b x e => ?_, r.gone, ?_⟩
  rotate_left 4
  · have t1 := r.tb.upd (a := p) o (fun ps z => by rw [hp] at z; cases z) ho
    refine t1.frame fun b ps e => ?_
    by_cases hb : b = p
    · subst hb; rw [upd_same] at e; cases e; exact absurd rfl (ho ps)
    · rw [upd_ne hb]; exact (t1.nt b ps e).2
  · rw [upd_ne (ne_of_none e hP)]; exact r.sub b x e
  · by_cases hb : b = p
    · subst hb; rw [upd_same] at e ⊢; exact e
    · rw [upd_ne hb] at e ⊢; exact r.fr b x e
  · obtain ⟨c1, c2, vs, c3, c4⟩ := r.cell n a us h1 h2
    have na : a ≠ p := ne_of_none c3 hp
    exact ⟨c1, by rw [upd_ne na]; exact c2, vs, by rw [upd_ne na]; exact c3, c4⟩
  · by_cases hb : b = p
    · subst hb; exact hP
    · rw [upd_ne hb] at e; exact r.dis b x e
/-- .. is made -/
theorem Rel.made {o o' : HO} {p : Addr} (hF : Fr p = none) (r : Rel K P α (upd Fr p o) st H) (ho : ∀ ps, o' ≠ .tbl ps := by intro ps h; cases h) : Aft K P α Fr st (upd H p o') (upd P p o') α := by
  have hP : P p = none := r.dis p o upd_same
  have s1 : Same P (upd P p o') := fun b x e => by
    rw [upd_ne (ne_of_none e hP)]; exact e
  refine ⟨⟨fun b x e => ?_, fun b x e => ?_, r.len, r.nd, fun n a us h1 h2 => ?_, fun b x e => ?_, fun n a h1 h2 => (r.gone n a h1 h2).imp fun x e => s1 _ _ e, ?_⟩, s1, List.prefix_rfl⟩
  rotate_left 4
  · have t1 := r.tb.upd (a := p) o' (fun ps z => by have := (r.tb.nt p ps z).2; rw [upd_same] at this; cases this) ho
    have t2 : Tb P Fr (upd H p o') := t1.frame fun b ps e => by
      by_cases hb : b = p
      · rw [hb]; exact hF
      · have := (t1.nt b ps e).2
        rw [upd_ne hb] at this; exact this
    refine t2.grow s1 fun b ps e => ?_
    by_cases hb : b = p
    · subst hb; rw [upd_same] at e; cases e; exact absurd rfl (ho ps)
    · rw [upd_ne hb]; exact (t2.nt b ps e).1
  · by_cases hb : b = p
    · subst hb; rw [upd_same] at e ⊢; exact e
    · rw [upd_ne hb] at e ⊢; exact r.sub b x e
  · have nb := ne_of_none e hF
    rw [upd_ne nb]
    exact r.fr b x (by rw [upd_ne nb]; exact e)
  · obtain ⟨c1, c2, vs, c3, c4⟩ := r.cell n a us h1 h2
    have na : a ≠ p := fun z => by
      rw [z, upd_same] at c2; cases c2
    rw [upd_ne na] at c2
    exact ⟨by rw [upd_ne na]; exact c1, c2, vs, by rw [upd_ne na]; exact c3, c4.mono s1 List.prefix_rfl⟩
  · have nb := ne_of_none e hF
    rw [upd_ne nb]
    exact r.dis b x (by rw [upd_ne nb]; exact e)
end

theorem put_new {kvs : List (Key × V)} {k : Key} {v : V} (h : k ∉ kvs.map (·.1)) : putK kvs k v = kvs ++ [(k, v)] := by
  unfold putK
  rw [if_neg]
  intro z
  rw [List.any_eq_true] at z
  obtain ⟨p, hp, e⟩ := z
  exact h (List.mem_map.mpr ⟨p, hp, of_decide_eq_true e⟩)
theorem merge_new : ∀ {more kvs : List (Key × V)}, (kvs.map (·.1) ++ more.map (·.1)).Nodup → mergeK kvs more = kvs ++ more
  | [], kvs, _ => (List.append_nil kvs).symm
  | p :: more, kvs, h => by
    unfold mergeK
    rw [List.foldl_cons]
    have h1 : p.1 ∉ kvs.map (·.1) := fun z => by
      rw [List.nodup_append] at h
      exact h.2.2 _ z _ (by simp) rfl
    rw [put_new h1]
    have h2 : mergeK (kvs ++ [(p.1, p.2)]) more = (kvs ++ [(p.1, p.2)]) ++ more := merge_new (by
      rw [List.map_append, List.append_assoc]
      exact h)
    unfold mergeK at h2
    rw [h2, List.append_assoc]
    rfl
theorem keys_zip : ∀ {ks : List Str} {vs : List V}, vs.length = ks.length → ((ks.map Sum.inr : List Key).zip vs).map (·.1) = ks.map Sum.inr
  | [], [], _ => rfl
  | k :: ks, v :: vs, h => by
    rw [List.map_cons, List.zip_cons_cons, List.map_cons, keys_zip (by simpa using h)]
theorem kv_zip : ∀ {ks : List Str} {vs : List V}, ((ks.map Sum.inr : List Key).zip vs).map (fun kv => (kV kv.1, kv.2)) = (ks.map V.str).zip vs
  | [], _ => rfl
  | k :: ks, [] => rfl
  | k :: ks, v :: vs => by
    rw [List.map_cons, List.zip_cons_cons, List.map_cons, kv_zip]
    rfl
theorem rep_zip {K : PySem.W.Frag} {P : Hp} : ∀ {ks : List Str} {vs : List V} {ds : List D}, RepAll K P vs ds → RepKv K P ((ks.map Sum.inr : List Key).zip vs) ((ks.map PyData.str).zip ds)
  | [], _, _, _ => .nil
  | k :: ks, _, _, .nil => .nil
  | k :: ks, _, _, .cons h r => .cons (k := .inr k) h (rep_zip r)

section
variable {G : Gm} {W k : Nat} {cl : Nat → Value}
theorem pairs_sound {X : Cx} {c : Ct} {Wx : WX} {pos : Pos} (S : Sta G cl k X c) (tk : Takes X Wx) : ∀ {es : Es} {ks : List Str} {keys : List (Option Expr)} {vals : List Expr}, AllE (SndE G W k cl) es → keysB ks keys = true → chkEs G c es vals = true → keys.length = vals.length →
    ∃ trs, PPs X pos keys vals trs ∧ ∀ (σ : L2.St) (H P : Hp) (α : List Addr) (Fr : Hp) (st : Store) (ε : Env), Rel X.K P α Fr st H → EnvOk X.K P α σ ε → ∀ Q : List (V × V) → Hp → Prop,
      FitR X.K G cl P α Fr (fun v d H' => Wx v d σ H') (RepUs X.K) (evEs G (cpK G W k) (cmK G W k) es ε st) (fun vs H' => Q ((ks.map V.str).zip vs) H') → tPairs trs σ H Q
  | .nil, ks, keys, vals, _, hk, hc, hl => by
    cases vals with
    | cons => simp [chkEs] at hc
    | nil =>
      cases keys with
      | cons => simp at hl
      | nil =>
        cases ks with
        | cons => simp [keysB] at hk
        | nil =>
          refine ⟨[], pps_nil, fun σ H P α Fr st ε r ev Q q => ?_⟩
          unfold evEs at q
          exact q _ _ _ _ (Aft.refl r) .nil
  | .cons e es, ks, keys, vals, hs, hk, hc, hl => by
    cases vals with
    | nil => simp [chkEs] at hc
    | cons v vals =>
      cases keys with
      | nil => simp at hl
      | cons ky keys =>
        cases ks with
        | nil => simp [keysB] at hk
        | cons kk ks =>
          simp only [chkEs, Bool.and_eq_true] at hc
          obtain ⟨j, cp, rfl, hk2⟩ : ∃ j cp, ky = some (.Constant (.str kk) j cp) ∧ keysB ks keys = true := by
            unfold keysB at hk
            split at hk
            · rename_i e1 e2; cases e1
            · rename_i a1 a2 a3 a4 a5 a6 e1 e2
              cases e1; cases e2
              rw [Bool.and_eq_true] at hk
              obtain rfl := of_decide_eq_true hk.1
              exact ⟨_, _, rfl, hk.2⟩
            · cases hk
          obtain ⟨trs, h1, h2⟩ := pairs_sound S tk hs.2 hk2 hc.2 (by simpa using hl)
          refine ⟨_, pps_cons pe_str pe_W h1, fun σ H P α Fr st ε r ev Q q => ?_⟩
          unfold evEs at q
          refine hs.1 X c v Wx S tk hc.1 σ H P α Fr st ε r ev _ (FitR.bind q fun u st1 x H1 P1 α1 e1 a1 rx q1 => ?_)
          exact h2 σ H1 P1 α1 Fr st1 ε a1.rel (ev.mono a1.same a1.pre) _ (FitR.bind q1 fun us st2 xs H2 P2 α2 e2 a2 rs q2 => q2 _ _ _ _ (Aft.refl a2.rel) (.cons (rx.mono a2.same a2.pre) rs))
theorem snd_dict {ks : List Str} {es : Es} (hs : AllE (SndE G W k cl) es) : SndE G W k cl (.dict ks es) := by
  intro X c x Wx S tk hc σ H P α Fr st ε r ev Q q
  cases x with
  | Dict keys vals pos =>
    simp only [chkE, dictShape, dictVals, Bool.and_eq_true, decide_eq_true_eq] at hc
    obtain ⟨⟨⟨⟨⟨h1, h2⟩, h3⟩, h4⟩, h5⟩, h6⟩ := hc
    obtain ⟨trs, t1, t2⟩ := pairs_sound (pos := pos) S tk hs h1 h6 h5
    have shape : ∀ {ks : List Str} {keys : List (Option Expr)}, keysB ks keys = true → keys.all (·.isSome) = true ∧ keys.length = ks.length := by
      intro ks
      induction ks with
      | nil =>
        intro keys h
        cases keys with
        | nil => exact ⟨rfl, rfl⟩
        | cons => simp [keysB] at h
      | cons k0 ks ih =>
        intro keys h
        cases keys with
        | nil => simp [keysB] at h
        | cons ky keys =>
          unfold keysB at h
          split at h
          · rename_i e1 e2; cases e1
          · rename_i a1 a2 a3 a4 a5 a6 e1 e2
            cases e1; cases e2
            rw [Bool.and_eq_true] at h
            obtain ⟨i1, i2⟩ := ih h.2
            exact ⟨by rw [List.all_cons, i1]; rfl, by rw [List.length_cons, List.length_cons, i2]⟩
          · cases h
    obtain ⟨s1, s2⟩ := shape h1
    refine WE.of (pe_disp t1 s1 h5 (fun z => h2 (List.eq_nil_of_length_eq_zero (by rw [← s2, z]; rfl))) (by rw [s2]; exact h3)) fun p hp => ?_
    have hF : Fr p = none := r.fr.free hp
    have sF : Same Fr (upd Fr p (.dK [])) := fun b o e => by rw [upd_ne (ne_of_none e hF)]; exact e
    unfold evE at q
    refine t2 σ _ P α _ st ε (r.half hp (.dK [])) ev _ ?_
    cases hr : evEs G (cpK G W k) (cmK G W k) es ε st with
    | stuck => rw [hr] at q; exact q.elim
    | exc cc xx st1 =>
      rw [hr] at q
      exact fun H' P' α' d a z => q H' P' α' d (a.unframe sF) z
    | ok us st1 =>
      rw [hr] at q
      intro vs H2 P2 α2 a rs
      have q : FitR X.K G cl P α Fr (fun v d H' => Wx v d σ H') (RepU X.K) (ofO (dictU ks us) st1) Q := q
      unfold dictU at q
      cases hd : toDs us with
      | none => rw [hd] at q; exact q.elim
      | some ds =>
        rw [hd] at q
        simp only at q
        by_cases hl : ks.length = ds.length
        · rw [if_pos hl] at q
          have ra := rs.toDs hd
          have lv : vs.length = ks.length := by rw [ra.length, hl]
          have nd : ((ks.map Sum.inr : List Key)).Nodup := List.Pairwise.map _ (fun a b h z => h (Sum.inr.inj z)) h4
          refine ⟨a.rel.fr _ _ upd_same, (ks.map Sum.inr : List Key).zip vs, kv_zip.symm, ?_, ?_⟩
          · rw [List.length_zip, List.length_map]; omega
          · rw [merge_new (by rw [keys_zip lv]; exact nd), List.nil_append]
            have done := a.rel.made (o' := .dK ((ks.map Sum.inr : List Key).zip vs)) hF
            exact q _ _ _ _ ((a.unframe sF).trans done) (.d (.dct (.inl upd_same) (rep_zip (ra.mono done.same))))
        · rw [if_neg hl] at q; exact q.elim
  | _ => simp only [chkE, dictShape, Bool.false_and, Bool.false_eq_true] at hc
end
end Ev
end

section
set_option maxRecDepth 10000
set_option autoImplicit false
/-! EvU: a list written out, repeated; comprehensions of two fors. -/
namespace Ev
open PySem PySem.Spec PyProof.Rows L2
variable [Lams]

section
variable {G : Gm} {W k : Nat} {cl : Nat → Value} {X : Cx} {c : Ct}
theorem rep_flat {K : PySem.W.Frag} {P : Hp} {vs : List V} {ds : List D} (h : RepAll K P vs ds) : ∀ n : Nat, RepAll K P (List.replicate n vs).flatten (List.replicate n ds).flatten
  | 0 => .nil
  | n + 1 => by
    rw [List.replicate_succ, List.replicate_succ, List.flatten_cons, List.flatten_cons]
    exact h.append (rep_flat h n)
theorem snd_rep {es : Es} {n : Nat} (h : SndEs G W k cl es) : SndE G W k cl (.rep es n) := by
  intro X c x Wx S tk hc σ H P α Fr st ε r ev Q q
  simp only [chkE, Bool.and_eq_true] at hc
  obtain ⟨h1, h2⟩ := hc
  unfold repShape at h1
  split at h1
  · rename_i xs lpos kk j cpos pos
    simp only [Bool.and_eq_true, decide_eq_true_eq] at h1
    obtain ⟨rfl, hn⟩ := h1
    refine WE.of (pe_op op_rep (pe_lst pa_W) pe_int) ?_
    unfold evE at q
    refine h X c xs Wx S tk h2 σ H P α Fr st ε r ev _ (FitR.bind q fun us st1 vs H1 P1 α1 e1 a1 rs q1 => ?_)
    unfold repU at q1
    cases hd : toDs us with
    | none => rw [hd] at q1; exact q1.elim
    | some ds =>
      rw [hd] at q1
      simp only at q1
      by_cases hl : ds.length ≤ sizeMax ∧ ds.length * n ≤ sizeMax
      · rw [if_pos hl] at q1
        have ra := rs.toDs hd
        have lv := ra.length
        refine ⟨by rw [lv, ← sizeMax_eq]; exact hl.1, fun p hp => ?_⟩
        have a2 := a1.rel.new hp (.lst vs)
        refine ⟨p, (n : Int), vs, rfl, rfl, upd_same, by omega, by omega, by rw [lv, ← sizeMax_eq, Int.toNat_natCast]; exact hl.2, fun p2 hp2 => ?_⟩
        have a3 := a2.rel.new hp2 (.lst (List.replicate (n : Int).toNat vs).flatten)
        rw [Int.toNat_natCast] at a3 ⊢
        exact q1 _ _ _ _ (a2.trans a3) (.d (.lst (.inl (.inl upd_same)) (rep_flat ((ra.mono a2.same).mono a3.same) n)))
      · rw [if_neg hl] at q1; exact q1.elim
  · cases h1

/-! ### one turn -/
/-- a turn's code: the target, the tests, the element -/
def tTurn (g : TG) (tt : TT) (te : TE) (own : List Nat) (D : Addr) (x : V) (σ : L2.St) (H : Hp) (Nx : Hp → Prop) : Prop := g x (wipe σ own) H fun σ2 H2 => wipe σ2 own = wipe σ own ∧ tt σ2 H2 fun b H3 => if b = true then te σ2 H3 fun y H4 => ∃ acc, H4 D = some (.lst acc) ∧ acc.length < sizeLine ∧ Nx (upd H4 D (.lst (acc ++ [y]))) else Nx H3
def gB (X : Cx) (scope : Scope) (t : Expr) : TG := fun v σ H Qg => ∀ (s : Shared) (H0 : Hp) (C : Addr) (clo : List (Str × Addr)) (fp : List Addr), WG (X.blk s H0 scope (compEnvC scope clo C X.env) fp) t v σ H Qg
def tB (X : Cx) (scope : Scope) (fs : List Expr) : TT := fun σ H Qt => ∀ (s : Shared) (H0 : Hp) (C : Addr) (clo : List (Str × Addr)) (fp : List Addr), WTs1 (X.blk s H0 scope (compEnvC scope clo C X.env) fp) fs σ H Qt
def eB (X : Cx) (scope : Scope) (el : Expr) : TE := fun σ H Qe => ∀ (s : Shared) (H0 : Hp) (C : Addr) (clo : List (Str × Addr)) (fp : List Addr), WE (X.blk s H0 scope (compEnvC scope clo C X.env) fp) el σ H Qe
def iB (X : Cx) (scope : Scope) (t iter : Expr) : TI := fun σ H Qi => ∀ (s : Shared) (H0 : Hp) (C : Addr) (clo : List (Str × Addr)) (fp : List Addr), WI (X.blk s H0 scope (compEnvC scope clo C X.env) fp) t iter σ H Qi
theorem pgB {scope : Scope} {t : Expr} (s : Shared) (H0 : Hp) (C : Addr) (clo : List (Str × Addr)) (fp : List Addr) : PG (X.blk s H0 scope (compEnvC scope clo C X.env) fp) t (gB X scope t) := ⟨fun pins s' σ' H' v u Q' I rv h => (h s H0 C clo fp) pins s' u I rv⟩
theorem ptB {scope : Scope} {fs : List Expr} (s : Shared) (H0 : Hp) (C : Addr) (clo : List (Str × Addr)) (fp : List Addr) : PTs (X.blk s H0 scope (compEnvC scope clo C X.env) fp) fs (tB X scope fs) := ⟨fun pins s' σ' H' Q' I h => pts_W.run pins s' σ' H' Q' I (h s H0 C clo fp)⟩
theorem peB {scope : Scope} {el : Expr} (s : Shared) (H0 : Hp) (C : Addr) (clo : List (Str × Addr)) (fp : List Addr) : PE (X.blk s H0 scope (compEnvC scope clo C X.env) fp) el (eB X scope el) := ⟨fun pins s' σ' H' Q' I h => (h s H0 C clo fp) pins s' I⟩
theorem piB {scope : Scope} {t iter : Expr} (s : Shared) (H0 : Hp) (C : Addr) (clo : List (Str × Addr)) (fp : List Addr) : PI (X.blk s H0 scope (compEnvC scope clo C X.env) fp) t iter (iB X scope t iter) := ⟨fun pins s' σ' H' Q' I h => (h s H0 C clo fp) pins s' I⟩
/-- the target of a turn, and that the other slots stay -/
theorem target_go {scope : Scope} {own : List Nat} {tg : Tn} {t : Expr} {u : U} {x : V} {σ : L2.St} {ε ε1 : Env} {P : Hp} {α : List Addr} {Fr : Hp} {st : Store} {H : Hp} (S : Sta G cl k X c) (hk : scope.kind = .function) (ht : chkTn (blkCt c scope) tg t = true) (hin : (tnSlots tg).all (own.contains ·) = true)
    (r : Rel X.K P α Fr st H) (ev : EnvOk X.K P α σ ε) (rx : RepU X.K P α x u) (hs : setTn tg u (wipeE ε own) = some ε1) {Qg : L2.St → Hp → Prop} (q : ∀ σ4, EnvOk X.K P α σ4 ε1 → wipe σ4 own = wipe σ own → Qg σ4 H) : gB X scope t x (wipe σ own) H Qg := by
  intro s0 H0 C clo fp
  refine tn_sound (blk_sta S (scope := scope) hk s0 H0 C clo fp) r ht rx hs (ev.wipe own) fun σ4 ev4 hl4 hj4 => q σ4 ev4 ?_
  have h1 : wipe σ4 own = wipe (wipe σ own) own := wipe_same hl4 fun j hj => hj4 j fun z => hj (by
    have := List.all_eq_true.mp hin j z
    simpa using this)
  rw [h1]
  exact wipe_same (by rw [wipe_length]) fun j hj => by rw [wipe_get, if_neg hj]
/-- tests of a turn -/
theorem tests_go {scope : Scope} {fs : List Expr} {ifs : Es} {σ : L2.St} {ε1 : Env} {P : Hp} {α : List Addr} {Fr : Hp} {st : Store} {H : Hp} (hf : AllE (Both G W k cl) ifs) (S : Sta G cl k X c) (hk : scope.kind = .function) (hc : chkEs G (blkCt c scope) ifs fs = true) (hfl : fs.length ≤ 1)
    (r : Rel X.K P α Fr st H) (ev : EnvOk X.K P α σ ε1) {bs : List U} {st3 : Store} (e : evEs G (cpK G W k) (cmK G W k) ifs ε1 st = .ok bs st3) {b : Bool} (hb : tstB bs = some b) {Qt : Bool → Hp → Prop} (q : ∀ H' P' α', Aft X.K P α Fr st3 H' P' α' → Qt b H') : tB X scope fs σ H Qt := by
  intro s9 H9 C9 clo9 fp9
  rcases fs with _ | ⟨f1, _ | ⟨f2, fs⟩⟩
  · cases ifs with
    | cons e es => simp [chkEs] at hc
    | nil =>
      rw [evEs] at e
      cases e
      cases hb
      exact q _ _ _ (Aft.refl r)
  · cases ifs with
    | nil => simp [chkEs] at hc
    | cons e1 es =>
      cases es with
      | cons e2 es2 => simp [chkEs] at hc
      | nil =>
        simp only [chkEs, Bool.and_true] at hc
        show WT _ f1 σ H _
        refine hf.1.2 _ _ f1 (fun _ _ _ _ => False) (blk_sta S hk s9 H9 C9 clo9 fp9) takes_none hc σ H P α _ st ε1 r ev _ ?_
        rw [evEs] at e
        cases hr : evE G (cpK G W k) (cmK G W k) e1 ε1 st with
        | stuck => rw [hr] at e; cases e
        | exc => rw [hr] at e; cases e
        | ok u st1 =>
          rw [hr] at e
          rw [show evEs G (cpK G W k) (cmK G W k) Es.nil ε1 = fun st => R.ok [] st from by funext st; rw [evEs]] at e
          cases e
          cases u with
          | m n => cases hb
          | f h => cases hb
          | s z => cases hb
          | d x =>
            cases x with
            | bool b' =>
              cases hb
              intro v H4 P4 α4 a4 ev'
              subst ev'
              exact q _ _ _ a4
            | _ => cases hb
  · simp at hfl
/-- the element -/
theorem elt_go {scope : Scope} {el : Expr} {elt : E} {σ : L2.St} {ε1 : Env} {P : Hp} {α : List Addr} {Fr : Hp} {st st5 : Store} {H : Hp} {x : U} (he : SndE G W k cl elt) (S : Sta G cl k X c) (hk : scope.kind = .function) (hc : chkE G (blkCt c scope) elt el = true)
    (r : Rel X.K P α Fr st H) (ev : EnvOk X.K P α σ ε1) (e : evE G (cpK G W k) (cmK G W k) elt ε1 st = .ok x st5) {Q : VK} (q : ∀ v H' P' α', Aft X.K P α Fr st5 H' P' α' → RepU X.K P' α' v x → Q v H') : eB X scope el σ H Q := by
  intro s9 H9 C9 clo9 fp9
  refine he _ _ el (fun _ _ _ _ => False) (blk_sta S hk s9 H9 C9 clo9 fp9) takes_none hc σ H P α _ st ε1 r ev _ ?_
  rw [e]
  exact q
/-- what a turn may come to -/
theorem turnF_cases {elt : E} {tg : Tn} {ifs : Es} {own : List Nat} {ε : Env} {u : U} {st2 : Store} : turnF G W k elt tg ifs own ε u st2 = .stuck ∨ ∃ ε1 bs st3 b, setTn tg u (wipeE ε own) = some ε1 ∧ evEs G (cpK G W k) (cmK G W k) ifs ε1 st2 = .ok bs st3 ∧ tstB bs = some b ∧
    ((b = false ∧ turnF G W k elt tg ifs own ε u st2 = .ok none st3) ∨ (b = true ∧ ∃ x st4, evE G (cpK G W k) (cmK G W k) elt ε1 st3 = .ok x st4 ∧ turnF G W k elt tg ifs own ε u st2 = .ok (some x) st4)) := by
  cases hs : setTn tg u (wipeE ε own) with
  | none => left; unfold turnF; rw [hs]
  | some ε1 =>
    rw [turnF_some hs]
    cases hb : evEs G (cpK G W k) (cmK G W k) ifs ε1 st2 with
    | stuck => left; rfl
    | exc => left; rfl
    | ok bs st3 =>
      have yes : ∀ {r : R U}, (r.nox.bind fun x st4 => R.ok (some x) st4) = .stuck ∨ ∃ x st4, r = .ok x st4 ∧ (r.nox.bind fun x st4 => R.ok (some x) st4) = .ok (some x) st4 := fun {r} => by
        cases r with
        | ok x st4 => exact .inr ⟨x, st4, rfl, rfl⟩
        | exc => exact .inl rfl
        | stuck => exact .inl rfl
      rcases bs with _ | ⟨b, _ | ⟨b2, bs⟩⟩
      · rcases yes (r := evE G (cpK G W k) (cmK G W k) elt ε1 st3) with h | ⟨x, st4, h1, h2⟩
        · exact .inl h
        · exact .inr ⟨ε1, [], st3, true, rfl, hb, rfl, .inr ⟨rfl, x, st4, h1, h2⟩⟩
      · rcases b with (_ | b | _ | _ | _ | _ | _) | _ <;> first | (left; rfl) | skip
        cases b with
        | false => exact .inr ⟨ε1, [.d (.bool false)], st3, false, rfl, hb, rfl, .inl ⟨rfl, rfl⟩⟩
        | true =>
          rcases yes (r := evE G (cpK G W k) (cmK G W k) elt ε1 st3) with h | ⟨x, st4, h1, h2⟩
          · exact .inl h
          · exact .inr ⟨ε1, [.d (.bool true)], st3, true, rfl, hb, rfl, .inr ⟨rfl, x, st4, h1, h2⟩⟩
      · left
        rcases b with (_ | b | _ | _ | _ | _ | _) | _ <;> first | rfl | (cases b <;> rfl)
theorem turn_go {scope : Scope} {own : List Nat} {tg : Tn} {t el : Expr} {fs : List Expr} {elt : E} {ifs : Es} (he : SndE G W k cl elt) (hf : AllE (Both G W k cl) ifs) (S : Sta G cl k X c) (hk : scope.kind = .function)
    (ht : chkTn (blkCt c scope) tg t = true) (hel : chkE G (blkCt c scope) elt el = true) (hifs : chkEs G (blkCt c scope) ifs fs = true) (hfl : fs.length ≤ 1) (hin : (tnSlots tg).all (own.contains ·) = true)
    {u : U} {x : V} {σ : L2.St} {ε : Env} {P α} {Fr : Hp} {D : Addr} {accV : List V} {accU : List U} {st : Store} {H : Hp} (r : Rel X.K P α (upd Fr D (.lst accV)) st H) (ev : EnvOk X.K P α σ ε) (rx : RepU X.K P α x u) (ru : RepUs X.K P α accV accU)
    {Wq : Value → Option Addr → Hp → Prop} {P1 : Hp} {α1 : List Addr} {kN : Store → R U} {kS : U → Store → R U} {Q : VK}
    (q : FitR X.K G cl P1 α1 Fr Wq (RepU X.K) ((turnF G W k elt tg ifs own ε u st).bind fun o st1 => match o with
      | none => kN st1
      | some x => if accU.length < sizeMax then kS x st1 else .stuck) Q) {Nx : Hp → Prop}
    (n0 : ∀ H' P' α' st', Aft X.K P α (upd Fr D (.lst accV)) st' H' P' α' → FitR X.K G cl P1 α1 Fr Wq (RepU X.K) (kN st') Q → Nx H')
    (n1 : ∀ H' P' α' st' y v, Rel X.K P' α' (upd Fr D (.lst (accV ++ [v]))) st' H' → Same P P' → α <+: α' → RepU X.K P' α' v y → FitR X.K G cl P1 α1 Fr Wq (RepU X.K) (kS y st') Q → Nx H') :
    tTurn (gB X scope t) (tB X scope fs) (eB X scope el) own D x σ H Nx := by
  rcases turnF_cases (G := G) (W := W) (k := k) (elt := elt) (tg := tg) (ifs := ifs) (own := own) (ε := ε) (u := u) (st2 := st) with z | ⟨ε1, bs, st3, b, hs, hb, hbb, alt⟩
  · rw [z] at q; exact q.elim
  · refine target_go S hk ht hin r ev rx hs fun σ4 ev4 w4 => ⟨w4, ?_⟩
    refine tests_go hf S hk hifs hfl r ev4 hb hbb fun H4 P4 α4 a4 => ?_
    rcases alt with ⟨rfl, z⟩ | ⟨rfl, y, st4, hy, z⟩
    · rw [if_neg Bool.false_ne_true]
      rw [z] at q
      exact n0 _ _ _ _ a4 q
    · rw [if_pos rfl]
      rw [z] at q
      refine elt_go he S hk hel a4.rel (ev4.mono a4.same a4.pre) hy fun v H5 P5 α5 a5 rv => ?_
      have hD : H5 D = some (.lst accV) := a5.rel.fr D _ upd_same
      have q : FitR X.K G cl P1 α1 Fr Wq (RepU X.K) (if accU.length < sizeMax then kS y st4 else .stuck) Q := q
      by_cases hz : accU.length < sizeMax
      · rw [if_pos hz] at q
        exact ⟨accV, hD, by rw [Paired.length ru, ← sizeMax_eq]; exact hz, n1 _ _ _ _ _ _ a5.rel.reframe (a4.same.trans a5.same) (a4.pre.trans a5.pre) rv q⟩
      · rw [if_neg hz] at q
        exact q.elim
/-- the outer turn's meaning -/
def outF (G : Gm) (W k : Nat) (elt : E) (tg : Tn) (ifs : Es) (tg1 : Tn) (ik1 : Ik) (its1 ifs1 : Es) (own own1 : List Nat) (ε : Env) (u : U) (acc : List U) (st2 : Store) : R (List U) := match setTn tg u (wipeE ε own) with
  | none => .stuck
  | some ε1 => (evEs G (cpK G W k) (cmK G W k) ifs ε1 st2).nox.bind fun bs st3 => match tstB bs with
    | some true => ((evEs G (cpK G W k) (cmK G W k) its1 ε1 st3).bind fun us st4 => ofO (walkU ik1 us st4) st4).nox.bind fun items1 st5 => compLoop (turnF G W k elt tg1 ifs1 own1 ε1) items1 acc st5
    | some false => .ok acc st3
    | none => .stuck
theorem evE_comp2 {mu : Bool} {elt : E} {tg : Tn} {ik : Ik} {its ifs : Es} {tg1 : Tn} {ik1 : Ik} {its1 ifs1 : Es} {own own1 : List Nat} {ε : Env} {st : Store} : evE G (cpK G W k) (cmK G W k) (.comp2 mu elt tg ik its ifs tg1 ik1 its1 ifs1 own own1) ε st =
    ((evEs G (cpK G W k) (cmK G W k) its ε st).bind fun us st1 => ofO (walkU ik us st1) st1).bind fun items st1 => (compLoopA (outF G W k elt tg ifs tg1 ik1 its1 ifs1 own own1 ε) items [] st1).bind fun acc st5 => allocL mu acc st5 := by
  rw [evE]; rfl
theorem outF_cases {elt : E} {tg : Tn} {ifs : Es} {tg1 : Tn} {ik1 : Ik} {its1 ifs1 : Es} {own own1 : List Nat} {ε : Env} {u : U} {acc : List U} {st2 : Store} : outF G W k elt tg ifs tg1 ik1 its1 ifs1 own own1 ε u acc st2 = .stuck ∨ ∃ ε1 bs st3 b, setTn tg u (wipeE ε own) = some ε1 ∧ evEs G (cpK G W k) (cmK G W k) ifs ε1 st2 = .ok bs st3 ∧ tstB bs = some b ∧
    ((b = false ∧ outF G W k elt tg ifs tg1 ik1 its1 ifs1 own own1 ε u acc st2 = .ok acc st3) ∨ (b = true ∧ ∃ items1 st5, ((evEs G (cpK G W k) (cmK G W k) its1 ε1 st3).bind fun us st4 => ofO (walkU ik1 us st4) st4) = .ok items1 st5 ∧
      outF G W k elt tg ifs tg1 ik1 its1 ifs1 own own1 ε u acc st2 = compLoop (turnF G W k elt tg1 ifs1 own1 ε1) items1 acc st5)) := by
  unfold outF
  cases hs : setTn tg u (wipeE ε own) with
  | none => exact .inl rfl
  | some ε1 =>
    simp only
    cases hb : evEs G (cpK G W k) (cmK G W k) ifs ε1 st2 with
    | stuck => exact .inl rfl
    | exc => exact .inl rfl
    | ok bs st3 =>
      simp only [R.nox, R.bind]
      cases hbb : tstB bs with
      | none => exact .inl rfl
      | some b =>
        cases b with
        | false => exact .inr ⟨ε1, bs, st3, false, rfl, hb, hbb, .inl ⟨rfl, rfl⟩⟩
        | true =>
          simp only
          cases hi : ((evEs G (cpK G W k) (cmK G W k) its1 ε1 st3).bind fun us st4 => ofO (walkU ik1 us st4) st4) with
          | stuck => exact .inl (by simp only [R.bind] at hi ⊢; rw [hi])
          | exc => exact .inl (by simp only [R.bind] at hi ⊢; rw [hi])
          | ok items1 st5 => exact .inr ⟨ε1, bs, st3, true, rfl, hb, hbb, .inr ⟨rfl, items1, st5, hi, by simp only [R.bind] at hi ⊢; rw [hi]⟩⟩
theorem nofold_it {c : Ct} {ik : Ik} {its : Es} {iter t : Expr} (hsh : itShape ik iter t c.sc G.bts = true) (hits : chkEs G c its (itArgs ik iter) = true) : ∀ (env : PySem.Env) x, foldedSetIterable iter env x = pure x := by
  intro env
  have no : ∀ a b p, iter ≠ .Set a b p := fun a b p w => by
    subst w
    cases ik with
    | val =>
      cases its with
      | nil => simp [itArgs, chkEs] at hits
      | cons e es =>
        simp only [itArgs, chkEs, Bool.and_eq_true] at hits
        obtain ⟨h, _⟩ := hits
        cases e <;> simp [chkE, dictShape, repShape, gen2, isVarE] at h
    | _ => simp [itShape] at hsh
  intro x
  cases iter with
  | Set a b p => exact absurd rfl (no a b p)
  | _ => rfl
theorem comp2_go {mu : Bool} {elt : E} {tg : Tn} {ik : Ik} {its ifs : Es} {tg1 : Tn} {ik1 : Ik} {its1 ifs1 : Es} {own own1 : List Nat} (he : SndE G W k cl elt) (hi : AllE (SndE G W k cl) its) (hf : AllE (Both G W k cl) ifs) (hi1 : AllE (SndE G W k cl) its1) (hf1 : AllE (Both G W k cl) ifs1) {Wx : WX} (S : Sta G cl k X c) (tk : Takes X Wx)
    {el : Expr} {g g1 : Comprehension} {scope : Scope} (hk : scope.kind = .function) (ht : chkTn (blkCt c scope) tg g.target = true) (ht1 : chkTn (blkCt c scope) tg1 g1.target = true) (hel : chkE G (blkCt c scope) elt el = true) (hifs : chkEs G (blkCt c scope) ifs g.ifs = true) (hifs1 : chkEs G (blkCt c scope) ifs1 g1.ifs = true)
    (hl : g.ifs.length ≤ 1) (hl1 : g1.ifs.length ≤ 1) (hin : (tnSlots tg).all (own.contains ·) = true) (hin1 : (tnSlots tg1).all (own1.contains ·) = true)
    (hsh : itShape ik g.iter g.target c.sc G.bts = true) (hits : chkEs G c its (itArgs ik g.iter) = true) (hsh1 : itShape ik1 g1.iter g1.target (blkCt c scope).sc G.bts = true) (hits1 : chkEs G (blkCt c scope) its1 (itArgs ik1 g1.iter) = true)
    {σ : L2.St} {H P : Hp} {α : List Addr} {Fr : Hp} {st : Store} {ε : Env} (r : Rel X.K P α Fr st H) (ev : EnvOk X.K P α σ ε) {Q : VK}
    (q : FitR X.K G cl P α Fr (fun v d H' => Wx v d σ H') (RepU X.K) (evE G (cpK G W k) (cmK G W k) (.comp2 mu elt tg ik its ifs tg1 ik1 its1 ifs1 own own1) ε st) Q) :
    tLc2 (WI X g.target g.iter) (gB X scope g.target) (tB X scope g.ifs) (iB X scope g1.target g1.iter) (gB X scope g1.target) (tB X scope g1.ifs) (eB X scope el) own own1 σ H Q := by
  rw [evE_comp2] at q
  refine iter_sound S tk hsh hits hi r ev (FitR.bind q fun items st1 J H1 P1 α1 e1 a1 wk q1 => ?_)
  intro D hD
  have hF : Fr D = none := a1.rel.fr.free hD
  let F := outF G W k elt tg ifs tg1 ik1 its1 ifs1 own own1 ε
  let Wq : Value → Option Addr → Hp → Prop := fun v d H' => Wx v d σ H'
  refine ⟨fun i m H => m = items.length - i ∧ i ≤ items.length ∧ ∃ P2 α2 st2 accU accV, Rel X.K P2 α2 (upd Fr D (.lst accV)) st2 H ∧ Same P1 P2 ∧ α1 <+: α2 ∧ RepUs X.K P2 α2 accV accU ∧
    FitR X.K G cl P1 α1 Fr Wq (RepU X.K) ((compLoopA F (items.drop i) accU st2).bind fun acc st5 => allocL mu acc st5) Q,
    ⟨_, rfl, Nat.zero_le _, P1, α1, st1, [], [], a1.rel.enframe hD, Same.refl _, List.prefix_rfl, .nil, q1⟩, ?_⟩
  rintro i m H2 ⟨rfl, hi2, P2, α2, st2, accU, accV, rel2, s2, p2, ru2, q2⟩
  by_cases hlt : i < items.length
  · refine .inr ?_
    have eu : items[i]? = some items[i] := List.getElem?_eq_getElem hlt
    obtain ⟨go, yl⟩ := wk.go i _ H2 P2 α2 _ st2 eu s2 rel2
    rw [List.drop_eq_getElem_cons hlt] at q2
    unfold compLoopA at q2
    refine ⟨go, fun H3 => ∃ P3 α3 st3 accU' accV', Rel X.K P3 α3 (upd Fr D (.lst accV')) st3 H3 ∧ Same P1 P3 ∧ α1 <+: α3 ∧ RepUs X.K P3 α3 accV' accU' ∧
      FitR X.K G cl P1 α1 Fr Wq (RepU X.K) ((compLoopA F (items.drop (i + 1)) accU' st3).bind fun acc st5 => allocL mu acc st5) Q,
      fun H3 h3 => ⟨_, by omega, rfl, hlt, h3⟩, fun x H3 y => ?_⟩
    obtain ⟨P3, a3, rx⟩ := yl x H3 y
    have ev3 := (((ev.mono a1.same a1.pre).mono s2 p2).mono a3.same a3.pre)
    rcases outF_cases (G := G) (W := W) (k := k) (elt := elt) (tg := tg) (ifs := ifs) (tg1 := tg1) (ik1 := ik1) (its1 := its1) (ifs1 := ifs1) (own := own) (own1 := own1) (ε := ε) (u := items[i]) (acc := accU) (st2 := st2) with z | ⟨ε1, bs, st3, b, hs, hb, hbb, alt⟩
    · rw [show F items[i] accU st2 = .stuck from z] at q2; exact q2.elim
    · refine target_go S hk ht hin a3.rel ev3 rx hs fun σ4 ev4 w4 => ⟨w4, ?_⟩
      refine tests_go hf S hk hifs hl a3.rel ev4 hb hbb fun H4 P4 α4 a4 => ?_
      rcases alt with ⟨rfl, z⟩ | ⟨rfl, items1, st5, hw, z⟩
      · rw [if_neg Bool.false_ne_true]
        rw [show F items[i] accU st2 = .ok accU st3 from z] at q2
        exact ⟨P4, α4, st3, accU, accV, a4.rel, (s2.trans a3.same).trans a4.same, (p2.trans a3.pre).trans a4.pre, (ru2.mono a3.same a3.pre).mono a4.same a4.pre, q2⟩
      · rw [if_pos rfl]
        rw [show F items[i] accU st2 = _ from z] at q2
        intro s0 H0 C clo fp
        refine iter_sound (blk_sta S hk s0 H0 C clo fp) takes_none hsh1 hits1 hi1 a4.rel (ev4.mono a4.same a4.pre) ?_
        rw [hw]
        intro J1 H5 P5 α5 a5 wk1
        have ev5 := (ev4.mono a4.same a4.pre).mono a5.same a5.pre
        have ru5 := ((ru2.mono a3.same a3.pre).mono a4.same a4.pre).mono a5.same a5.pre
        have s5 := ((s2.trans a3.same).trans a4.same).trans a5.same
        have p5 := ((p2.trans a3.pre).trans a4.pre).trans a5.pre
        refine ⟨fun j n H => n = items1.length - j ∧ j ≤ items1.length ∧ ∃ P6 α6 st6 accU6 accV6, Rel X.K P6 α6 (upd Fr D (.lst accV6)) st6 H ∧ Same P5 P6 ∧ α5 <+: α6 ∧ RepUs X.K P6 α6 accV6 accU6 ∧
          FitR X.K G cl P1 α1 Fr Wq (RepU X.K) (((compLoop (turnF G W k elt tg1 ifs1 own1 ε1) (items1.drop j) accU6 st6).bind fun acc1 st7 => compLoopA F (items.drop (i + 1)) acc1 st7).bind fun acc st5 => allocL mu acc st5) Q,
          ⟨_, rfl, Nat.zero_le _, P5, α5, st5, accU, accV, a5.rel, Same.refl _, List.prefix_rfl, ru5, q2⟩, ?_⟩
        rintro j n H6 ⟨rfl, hj, P6, α6, st6, accU6, accV6, rel6, s6, p6, ru6, q6⟩
        by_cases hjl : j < items1.length
        · refine .inr ?_
          obtain ⟨go1, yl1⟩ := wk1.go j _ H6 P6 α6 _ st6 (List.getElem?_eq_getElem hjl) s6 rel6
          rw [List.drop_eq_getElem_cons hjl] at q6
          unfold compLoop at q6
          refine ⟨go1, fun H7 => ∃ P7 α7 st7 accU7 accV7, Rel X.K P7 α7 (upd Fr D (.lst accV7)) st7 H7 ∧ Same P5 P7 ∧ α5 <+: α7 ∧ RepUs X.K P7 α7 accV7 accU7 ∧
            FitR X.K G cl P1 α1 Fr Wq (RepU X.K) (((compLoop (turnF G W k elt tg1 ifs1 own1 ε1) (items1.drop (j + 1)) accU7 st7).bind fun acc1 st7 => compLoopA F (items.drop (i + 1)) acc1 st7).bind fun acc st5 => allocL mu acc st5) Q,
            fun H7 h7 => ⟨_, by omega, rfl, hjl, h7⟩, fun x1 H7 y1 => ?_⟩
          obtain ⟨P7, a7, rx1⟩ := yl1 x1 H7 y1
          have q7 : FitR X.K G cl P1 α1 Fr Wq (RepU X.K) ((turnF G W k elt tg1 ifs1 own1 ε1 items1[j] st6).bind fun o st1 => match o with
              | none => ((compLoop (turnF G W k elt tg1 ifs1 own1 ε1) (items1.drop (j + 1)) accU6 st1).bind fun acc1 st7 => compLoopA F (items.drop (i + 1)) acc1 st7).bind fun acc st5 => allocL mu acc st5
              | some x => if accU6.length < sizeMax then ((compLoop (turnF G W k elt tg1 ifs1 own1 ε1) (items1.drop (j + 1)) (accU6 ++ [x]) st1).bind fun acc1 st7 => compLoopA F (items.drop (i + 1)) acc1 st7).bind fun acc st5 => allocL mu acc st5 else .stuck) Q := by
            cases ht : turnF G W k elt tg1 ifs1 own1 ε1 items1[j] st6 with
            | stuck => rw [ht] at q6; exact q6.elim
            | exc => rw [ht] at q6; exact q6
            | ok o st1 =>
              rw [ht] at q6
              cases o with
              | none => exact q6
              | some x =>
                have q6 : FitR X.K G cl P1 α1 Fr Wq (RepU X.K) (((if accU6.length < sizeMax then compLoop (turnF G W k elt tg1 ifs1 own1 ε1) (items1.drop (j + 1)) (accU6 ++ [x]) st1 else .stuck).bind fun acc1 st7 => compLoopA F (items.drop (i + 1)) acc1 st7).bind fun acc st5 => allocL mu acc st5) Q := q6
                show FitR X.K G cl P1 α1 Fr Wq (RepU X.K) (if accU6.length < sizeMax then _ else .stuck) Q
                by_cases hz : accU6.length < sizeMax
                · rw [if_pos hz] at q6 ⊢; exact q6
                · rw [if_neg hz] at q6; exact q6.elim
          refine turn_go he hf1 S hk ht1 hel hifs1 hl1 hin1 a7.rel ((ev5.mono s6 p6).mono a7.same a7.pre) rx1 (ru6.mono a7.same a7.pre) (kN := fun st1 => ((compLoop (turnF G W k elt tg1 ifs1 own1 ε1) (items1.drop (j + 1)) accU6 st1).bind fun acc1 st7 => compLoopA F (items.drop (i + 1)) acc1 st7).bind fun acc st5 => allocL mu acc st5)
            (kS := fun x st1 => ((compLoop (turnF G W k elt tg1 ifs1 own1 ε1) (items1.drop (j + 1)) (accU6 ++ [x]) st1).bind fun acc1 st7 => compLoopA F (items.drop (i + 1)) acc1 st7).bind fun acc st5 => allocL mu acc st5) q7 (fun H8 P8 α8 st8 a8 q8 => ?_) fun H8 P8 α8 st8 yy v r8 s8 p8 rv q8 => ?_
          · exact ⟨P8, α8, st8, accU6, accV6, a8.rel, (s6.trans a7.same).trans a8.same, (p6.trans a7.pre).trans a8.pre, (ru6.mono a7.same a7.pre).mono a8.same a8.pre, q8⟩
          · exact ⟨P8, α8, st8, accU6 ++ [yy], accV6 ++ [v], r8, (s6.trans a7.same).trans s8, (p6.trans a7.pre).trans p8, pappend ((ru6.mono a7.same a7.pre).mono s8 p8) (.cons rv .nil), q8⟩
        · refine .inl ⟨?_, ?_⟩
          · have ej : j = items1.length := by omega
            subst ej
            exact wk1.stop H6 P6 α6 _ st6 s6 rel6
          · have ej : j = items1.length := by omega
            subst ej
            rw [List.drop_length] at q6
            unfold compLoop at q6
            exact ⟨P6, α6, st6, accU6, accV6, rel6, s5.trans s6, p5.trans p6, ru6, q6⟩
  · refine .inl ?_
    have ei : i = items.length := by omega
    subst ei
    rw [List.drop_length] at q2
    unfold compLoopA at q2
    refine ⟨wk.stop H2 P2 α2 _ st2 s2 rel2, ?_⟩
    obtain ⟨rel3, hP3, hH3, hα3⟩ := rel2.deframe hF
    have q3 : FitR X.K G cl P2 α2 Fr Wq (RepU X.K) (allocL mu accU st2) Q := FitR.weak (st1 := st2) (H1 := H2) q2 ⟨rel3, s2, p2⟩
    unfold allocL at q3
    split at q3
    · exact q3 _ _ _ _ (rel3.take_cell hP3 hF hα3 hH3 ru2) (.m (by rw [← rel3.len, List.getElem?_append_right (Nat.le_refl _), Nat.sub_self]; rfl))
    · split at q3
      · rename_i ds hd
        exact q3 _ _ _ _ (rel3.take_in hP3 hF hα3 hH3) (.d (rep_lst (sq_up hP3) (ru2.toDs hd)))
      · exact q3.elim
/-- a comprehension of two fors: all that its rules ask -/
theorem comp2_all {mu : Bool} {elt : E} {tg : Tn} {ik : Ik} {its ifs : Es} {tg1 : Tn} {ik1 : Ik} {its1 ifs1 : Es} {own own1 : List Nat} (he : SndE G W k cl elt) (hi : AllE (SndE G W k cl) its) (hf : AllE (Both G W k cl) ifs) (hi1 : AllE (SndE G W k cl) its1) (hf1 : AllE (Both G W k cl) ifs1) {Wx : WX} (S : Sta G cl k X c) (tk : Takes X Wx)
    {x : Expr} (hc : chkE G c (.comp2 mu elt tg ik its ifs tg1 ik1 its1 ifs1 own own1) x = true) {σ : L2.St} {H P : Hp} {α : List Addr} {Fr : Hp} {st : Store} {ε : Env} (r : Rel X.K P α Fr st H) (ev : EnvOk X.K P α σ ε) {Q : VK}
    (q : FitR X.K G cl P α Fr (fun v d H' => Wx v d σ H') (RepU X.K) (evE G (cpK G W k) (cmK G W k) (.comp2 mu elt tg ik its ifs tg1 ik1 its1 ifs1 own own1) ε st) Q) :
    ∃ (el t iter t1 iter1 : Expr) (fs fs1 : List Expr) (scope : Scope) (pos : Pos), x = .ListComp el [⟨t, iter, fs, 0⟩, ⟨t1, iter1, fs1, 0⟩] scope pos ∧ BlkOk X.N X.env.scope scope (ownOf c own) ∧ (∀ i ∈ own1, i ∈ (ownOf c own).map (·.2)) ∧
      (∀ x, foldedSetIterable iter X.env x = pure x) ∧ (∀ env x, foldedSetIterable iter1 env x = pure x) ∧
      tLc2 (WI X t iter) (gB X scope t) (tB X scope fs) (iB X scope t1 iter1) (gB X scope t1) (tB X scope fs1) (eB X scope el) ((ownOf c own).map (·.2)) own1 σ H Q := by
  have own2 : (ownOf c own).map (·.2) = own := by simp [ownOf, List.map_map, Function.comp_def]
  unfold chkE at hc
  cases hx : gen2 x with
  | none => rw [hx] at hc; cases hc
  | some p =>
    obtain ⟨el, ⟨t, iter, fs, a⟩, ⟨t1, iter1, fs1, a1⟩, scope⟩ := p
    rw [hx] at hc
    simp only [Bool.and_eq_true, decide_eq_true_eq] at hc
    obtain ⟨⟨⟨⟨⟨⟨⟨⟨⟨⟨⟨⟨⟨⟨⟨⟨b1, b2⟩, b3⟩, b4⟩, b5⟩, b6⟩, b7⟩, b8⟩, b9⟩, b10⟩, b11⟩, b12⟩, b13⟩, b14⟩, b15⟩, b16⟩, b17⟩ := hc
    subst b1 b2
    have ok : BlkOk X.N X.env.scope scope (ownOf c own) := by rw [S.hN, S.sc]; exact blkOk_by b3
    obtain ⟨pos, rfl⟩ : ∃ pos, x = .ListComp el [⟨t, iter, fs, 0⟩, ⟨t1, iter1, fs1, 0⟩] scope pos := by
      unfold gen2 at hx
      split at hx
      · cases hx; exact ⟨_, rfl⟩
      · cases hx
    refine ⟨el, t, iter, t1, iter1, fs, fs1, scope, pos, rfl, ok, fun i hi => ?_, nofold_it b14 b15 _, nofold_it b16 b17, ?_⟩
    · rw [own2]
      have := List.all_eq_true.mp b13 i hi
      simpa using this
    · rw [own2]
      exact comp2_go (g := ⟨t, iter, fs, 0⟩) (g1 := ⟨t1, iter1, fs1, 0⟩) he hi hf hi1 hf1 S tk ok.kind b4 b5 b6 b7 b8 b9 b10 b11 b12 b14 b15 b16 b17 r ev q
theorem snd_comp2 {mu : Bool} {elt : E} {tg : Tn} {ik : Ik} {its ifs : Es} {tg1 : Tn} {ik1 : Ik} {its1 ifs1 : Es} {own own1 : List Nat} (he : SndE G W k cl elt) (hi : AllE (SndE G W k cl) its) (hf : AllE (Both G W k cl) ifs) (hi1 : AllE (SndE G W k cl) its1) (hf1 : AllE (Both G W k cl) ifs1) :
    SndE G W k cl (.comp2 mu elt tg ik its ifs tg1 ik1 its1 ifs1 own own1) := by
  intro X c x Wx S tk hc σ H P α Fr st ε r ev Q q
  obtain ⟨el, t, iter, t1, iter1, fs, fs1, scope, pos, rfl, ok, hv, f1, f2, h⟩ := comp2_all he hi hf hi1 hf1 S tk hc r ev q
  exact WE.of (pe_lc2 S.calm (by rw [S.hN]; exact S.nd) pi_W ok hv pgB ptB piB pgB ptB peB f1 f2) h
end
end Ev
end

section
set_option maxRecDepth 10000
set_option autoImplicit false
/-! EvV: functions at hand: a lambda is made, a def's name is read, what is at hand is called. -/
namespace Ev
open PySem PySem.Spec PyProof.Rows L2
variable [Lams]

section
variable {G : Gm} {W k : Nat} {cl : Nat → Value} {X : Cx} {c : Ct}
omit [Lams] in
theorem upd_comm {H : Hp} {a b : Addr} {o u : HO} (n : a ≠ b) : upd (upd H a o) b u = upd (upd H b u) a o := by
  funext c
  unfold upd
  by_cases h1 : c = b
  · subst h1
    rw [if_pos rfl, if_neg (Ne.symm n), if_pos rfl]
  · rw [if_neg h1]
    by_cases h2 : c = a
    · rw [if_pos h2, if_pos h2]
    · rw [if_neg h2, if_neg h2, if_neg h1]
omit [Lams] in
theorem clo_nil {cells : List (Str × Addr)} : ∀ {l : List (Str × NameKind)} {acc : List (Str × Addr)}, (∀ y ∈ l, y.2 ≠ .free) → cloFrom cells l acc = acc
  | [], _, _ => rfl
  | (n, kd) :: r, acc, h => by
    have h1 : (kd == NameKind.free) = false := by
      have := h (n, kd) (List.mem_cons_self ..)
      exact beq_eq_false_iff_ne.mpr this
    unfold cloFrom
    rw [h1]
    exact clo_nil fun y hy => h y (List.mem_cons_of_mem _ hy)
/-- a table has grown -/
theorem Rel.table {K : PySem.W.Frag} {P : Hp} {α : List Addr} {Fr : Hp} {st : Store} {H : Hp} (r : Rel K P α Fr st H) {t : Addr × Addr × Str} (ht : t ∈ Lams.tabs) {ps ps2 : Array Value} (hP : H t.2.1 = some (.tbl ps)) (ok : TabP P (upd H t.2.1 (.tbl ps2)) t.2.1 t.2.2) :
    Rel K P α Fr st (upd H t.2.1 (.tbl ps2)) := by
  obtain ⟨nP, nF⟩ := r.tb.nt _ _ hP
  refine ⟨fun b x e => ?_, fun b x e => ?_, r.len, r.nd, fun n a us h1 h2 => ?_, r.dis, r.gone, fun p hp => ?_, fun b qs e => ?_⟩
  · rw [upd_ne (ne_of_none e nP)]; exact r.sub b x e
  · rw [upd_ne (ne_of_none e nF)]; exact r.fr b x e
  · obtain ⟨c1, c2, vs, c3, c4⟩ := r.cell n a us h1 h2
    exact ⟨c1, c2, vs, by rw [upd_ne fun z => by rw [z, hP] at c3; cases c3]; exact c3, c4⟩
  · by_cases hb : p.2.1 = t.2.1
    · rw [hb, Lams.uniq p hp t ht hb]; exact ok
    · exact (r.tb.tb p hp).mono (Same.refl _) fun qs e => by rw [upd_ne hb]; exact e
  · by_cases hb : b = t.2.1
    · rw [hb]; exact ⟨nP, nF⟩
    · rw [upd_ne hb] at e; exact r.tb.nt b qs e
theorem lam_new {params : Arguments} {body : Expr} {scope : Scope} {pos : Pos} {pins : List (Addr × Obj)} {σ : L2.St} {H P : Hp} {α : List Addr} {Fr : Hp} {st : Store} {s : Shared} {c0 P0 : Addr} {Q : VK}
    (r : Rel X.K P α Fr st H) (I : Inv X pins σ H s) (TB : LamX.TabB X.base X.mg c0 P0) (hcode : X.env.code = .ref c0) (hm : (c0, P0, X.env.qual ++ "<lambda>") ∈ Lams.tabs)
    (hdef : defaultsOf params X.env = ([], [])) (nofree : ∀ y ∈ scope.names, y.2 ≠ .free)
    (h : ∀ (a c' : Addr) (pm ctv : Value) (H' P' : Hp), Aft X.K P α Fr st H' P' α → P' a = some (FunO a (lamO (X.env.qual ++ "<lambda>") params body scope pm c' ctv)) → P' c' = some (LamX.CodeO c' (X.env.qual ++ "<lambda>")) → Q (.ref a) H') :
    wpAny (model X.prog X.w) X.A (eval (.Lambda params body scope pos) X.env) (EP X pins σ Q) X.xe s := by
  obtain ⟨ps, hP, ht, ha⟩ := r.tb.tb _ hm
  have hP : H P0 = some (.tbl ps) := hP
  refine PySem.W.kla_eval hdef ?_
  have hb := TB.bm.keeps I.bk
  have hP' : s.heap.get? P0 = some { cls := .none, data := .fields ps } := I.hok P0 _ hP
  have hcl : closureFor scope X.env = pure [] := by
    rw [closure_ok fun y hy e => absurd e (nofree y hy), clo_nil nofree]
  cases hc : codeAmong pos ps.toList with
  | none =>
    refine PySem.W.kla_makeFunction (mg := X.mg) hcl I.ok.glob (I.mod.glob.keeps I.bk) hcode (TB.code.keeps I.bk) hP' ht hc TB.gP hb ?_
    intro c' ctv h' tk hx hge hlt hrec htb
    obtain ⟨c2, oc, vs, t, e2, hoc, hd, hv⟩ := hrec
    cases e2
    have nC : H c' = none := I.hok.fresh hge
    have nPc : P0 ≠ c' := ne_of_none hP nC
    have I1 := LamX.inv_table (t' := tk) (more := #[rawInt pos.line, rawInt pos.col, .ref c']) I hP hx htb hge ⟨oc, vs, t, hoc, hd, hv⟩
    have I2 := I1.laid (t' := tk) (a := h'.objs.size) (h' := h'.push (lamO (X.env.qual ++ "<lambda>") params body scope ((X.mg "__name__").getD .none) c' ctv))
      (o := FunO h'.objs.size (lamO (X.env.qual ++ "<lambda>") params body scope ((X.mg "__name__").getD .none) c' ctv)) (fun b u e => Heap.get?_push_of_some _ e) (Nat.le_refl _) (funO_ok (Heap.get?_push_size _ rfl))
    have a1 := r.new nC (LamX.CodeO c' (X.env.qual ++ "<lambda>")) (fun ps z => LamX.codeO_ne ps z)
    have eL : (ps ++ #[rawInt pos.line, rawInt pos.col, Value.ref c']).toList = ps.toList ++ [rawInt pos.line, rawInt pos.col, .ref c'] := by simp
    have tab : TabP (upd P c' (LamX.CodeO c' (X.env.qual ++ "<lambda>"))) (upd (upd H c' (LamX.CodeO c' (X.env.qual ++ "<lambda>"))) P0 (.tbl (ps ++ #[rawInt pos.line, rawInt pos.col, .ref c']))) P0 (X.env.qual ++ "<lambda>") := by
      refine ⟨_, upd_same, by rw [eL]; exact TriplesOk_snoc _ _ _ _ ht, fun p' cv hcv => ?_⟩
      rw [eL] at hcv
      rcases LamX.among_app _ ht hcv with z | z
      · obtain ⟨d, d1, d2⟩ := ha p' cv z
        exact ⟨d, d1, a1.same _ _ d2⟩
      · exact ⟨c', z, upd_same⟩
    have r2 := a1.rel.table (t := (c0, P0, X.env.qual ++ "<lambda>")) hm (by show upd H c' _ P0 = some (.tbl ps); rw [upd_ne nPc]; exact hP) tab
    have a2 : Aft X.K P α Fr st (upd (upd H c' (LamX.CodeO c' (X.env.qual ++ "<lambda>"))) P0 (.tbl (ps ++ #[rawInt pos.line, rawInt pos.col, .ref c']))) (upd P c' (LamX.CodeO c' (X.env.qual ++ "<lambda>"))) α := ⟨r2, a1.same, a1.pre⟩
    rw [upd_comm (Ne.symm nPc)] at a2
    have nf : (upd (upd H P0 (.tbl (ps ++ #[rawInt pos.line, rawInt pos.col, .ref c']))) c' (LamX.CodeO c' (X.env.qual ++ "<lambda>"))) h'.objs.size = none := I1.hok.fresh (Nat.le_refl _)
    have a3 := a2.rel.new nf (FunO h'.objs.size (lamO (X.env.qual ++ "<lambda>") params body scope ((X.mg "__name__").getD .none) c' ctv))
    refine ⟨.ref h'.objs.size, _, I2, rfl, h _ c' _ ctv _ _ (a2.trans a3) upd_same ?_⟩
    rw [upd_ne (ne_of_none (show (upd P c' _) c' = some _ from upd_same) (a2.rel.sub.free nf))]
    exact upd_same
  | some cv =>
    obtain ⟨c', e, hco⟩ := ha pos cv hc
    subst e
    refine PySem.W.kla_makeFunctionHit (mg := X.mg) hcl I.ok.glob (I.mod.glob.keeps I.bk) hcode (TB.code.keeps I.bk) hP' ht hc hb ?_
    intro ctv h' tk hx hsz
    have I1 : Inv X pins σ H { s with heap := h', toks := tk } := I.kept hx
    have I2 := I1.laid (t' := tk) (a := h'.objs.size) (h' := h'.push (lamO (X.env.qual ++ "<lambda>") params body scope ((X.mg "__name__").getD .none) c' ctv))
      (o := FunO h'.objs.size (lamO (X.env.qual ++ "<lambda>") params body scope ((X.mg "__name__").getD .none) c' ctv)) (fun b u e => Heap.get?_push_of_some _ e) (Nat.le_refl _) (funO_ok (Heap.get?_push_size _ rfl))
    have nf : H h'.objs.size = none := I1.hok.fresh (Nat.le_refl _)
    have a3 := r.new nf (FunO h'.objs.size (lamO (X.env.qual ++ "<lambda>") params body scope ((X.mg "__name__").getD .none) c' ctv))
    exact ⟨.ref h'.objs.size, _, I2, rfl, h _ c' _ ctv _ _ a3 upd_same (a3.same _ _ hco)⟩
end
end Ev
end

section
set_option maxRecDepth 10000
set_option autoImplicit false
/-! EvW: the rules of functions at hand. -/
namespace Ev
open PySem PySem.Spec PyProof.Rows L2
variable [Lams]

section
variable {G : Gm} {W k : Nat} {cl : Nat → Value}
omit [Lams] in
theorem head_of {i : Nat} {e : E} {params : Arguments} {scope : Scope} (h : lamHead G i e params scope = true) : ∃ g F, G.lams[i]? = some g ∧ G.fns[g]? = some F ∧ lamFn G i = some F ∧ retOf F.body = some e ∧ scopeB F.N F.ps scope = true ∧ F.ps.length = 1 ∧ onePar params = F.ps[0]? ∧ F.dfl = [] ∧ F.name = ("<lambda>" : Str) := by
  unfold lamHead at h
  split at h
  · rename_i F hF
    simp only [Bool.and_eq_true, decide_eq_true_eq] at h
    obtain ⟨⟨⟨⟨⟨h1, h2⟩, h3⟩, h4⟩, h5⟩, h6⟩ := h
    have hF2 := hF
    unfold lamFn at hF2
    split at hF2
    · rename_i g hg
      exact ⟨g, F, hg, hF2, hF, h1, h2, h3, h4, List.isEmpty_iff.mp h5, h6⟩
    · cases hF2
  · cases h
omit [Lams] in
theorem scope_of {N P : List Str} {sc : Scope} (h : scopeB N P sc = true) : FnScope N P sc ∧ (∀ x ∈ P, sc.names.lookup x = some .local) ∧ ∀ y ∈ sc.names, y.2 ≠ .free := by
  unfold scopeB at h
  simp only [Bool.and_eq_true, decide_eq_true_eq, Bool.not_eq_true', List.all_eq_true, decide_eq_false_iff_not] at h
  obtain ⟨⟨⟨⟨⟨⟨h1, h2⟩, h3⟩, h4⟩, h5⟩, h6⟩, h7⟩ := h
  exact ⟨⟨h1, h2, h3, h4, h5, fun x hx => .inl (h6 x hx), h7⟩, h6, h7⟩
omit [Lams] in
theorem par_def {params : Arguments} {x : Str} (h : onePar params = some x) (env : PySem.Env) : defaultsOf params env = ([], []) := by
  unfold onePar at h
  split at h
  · rfl
  · cases h
theorem snd_lam {i : Nat} {e : E} : SndE G W k cl (.lam i e) := by
  intro X c a Wx S tk hc σ H P α Fr st ε r ev Q q
  cases a with
  | Lambda params body scope pos =>
    simp only [chkE, Bool.and_eq_true] at hc
    obtain ⟨⟨h1, h2⟩, h3⟩ := hc
    obtain ⟨c0, P0, t1, t2, t3⟩ := S.tab h1
    obtain ⟨g, F, _, _, _, _, hs, hl, hp, _, _⟩ := head_of h2
    unfold evE at q
    intro pins s I
    obtain ⟨x, hx⟩ : ∃ x, F.ps[0]? = some x := ⟨_, List.getElem?_eq_getElem (by rw [hl]; decide)⟩
    rw [hx] at hp
    refine lam_new r I t2 t1 t3 (par_def hp _) (scope_of hs).2.2 fun a c' pm ctv H' P' aft ha hc' => ?_
    exact q _ _ _ _ aft (.l (by rw [S.hG]; exact ⟨e, h2, h3⟩) ha hc')
  | _ => simp only [chkE, Bool.false_eq_true] at hc
theorem snd_fnv {f : Nat} {y : Str} : SndE G W k cl (.fnv f y) := by
  intro X c a Wx S tk hc σ H P α Fr st ε r ev Q q
  cases a with
  | Name n p =>
    simp only [chkE, Bool.and_eq_true, decide_eq_true_eq] at hc
    obtain ⟨rfl, hf⟩ := hc
    unfold chkF at hf
    simp only [Bool.and_eq_true] at hf
    obtain ⟨⟨⟨⟨h1, h2⟩, h3⟩, h4⟩, h5⟩ := hf
    split at h1
    · rename_i F e
      have en := of_decide_eq_true h1
      subst en
      obtain ⟨a, fd, m1, m2, FG, hB, _⟩ := (S.fn f F e (of_decide_eq_true h5)).ex
      unfold evE at q
      intro pins s I
      exact ld_glob I (S.gl h2) m1 ⟨.ref a, H, I, rfl, q _ _ _ _ (Aft.refl r) (.g (by rw [S.hmg]; exact m1))⟩ (nm_of h3).1
    · cases h1
  | _ => simp only [chkE, Bool.false_eq_true] at hc
/-- a lambda runs, from a body -/
theorem lam_go {X : Cx} {c : Ct} {Wx : WX} (S : Sta G cl k X c) (tk : Takes X Wx) {i g : Nat} {F : Fn} (hi : G.lams[i]? = some g) (hF : G.fns[g]? = some F) (hd : F.dfl = []) {σ : L2.St} {P : Hp} {α : List Addr} {Fr : Hp} {st1 : Store} {H1 : Hp} {us : List U} {vs : List V} {Q : VK} (r1 : Rel X.K P α Fr st1 H1) (ru : RepUs X.K P α vs us)
    (q1 : FitR X.K G cl P α Fr (fun v d H' => Wx v d σ H') (RepU X.K) (callU G (cpK G W k) (cmK G W k) g us st1) Q) {a cc : Addr} {q : Str} {params : Arguments} {body : Expr} {scope : Scope} {pm ctv : Value}
    (hb : lamB G i params body scope) (ha : P a = some (FunO a (lamO q params body scope pm cc ctv))) (hc : P cc = some (LamX.CodeO cc q))
    {pins : List (Addr × Obj)} {s : Shared} (I : Inv X pins σ H1 s) {ws : List Value} (rv : Vals vs ws) : wpAny (model X.prog X.w) X.A (call (.ref a) ws) (EP X pins σ Q) X.xe s := by
  have hl := callU_len hF q1
  have sp := call_spec (dvs := []) hF r1 hl ru (by rw [hd]; simp; exact .nil) q1
  rw [List.append_nil] at sp
  have go := (S.lam i g F hi hF).run X.A X.stack s H1 ws vs Q _ a cc q params body scope pm ctv S.room S.guards I.env0 rv hb (r1.sub _ _ ha) (r1.sub _ _ hc) sp
  refine wpAny_call (codeAny_mono go fun res s' hq => ?_)
  match res, hq with
  | .error e, hq => exact tk e s' (XE.of_call I (fun _ _ _ z => z) hq)
  | .ok (.ret u), hq => exact I.after hq
theorem snd_callV {i : Nat} {es : Es} (hs : SndEs G W k cl es) : SndE G W k cl (.callV i es) := by
  intro X c x Wx S tk hc σ H P α Fr st ε r ev Q q
  cases x with
  | Call fn xs kws pos =>
    cases fn with
    | Name n p =>
      cases kws with
      | cons kw kws => simp only [chkE, Bool.false_eq_true] at hc
      | nil =>
        simp only [chkE, Bool.and_eq_true, decide_eq_true_eq] at hc
        obtain ⟨⟨h1, h0⟩, hx⟩ := hc
        unfold evE at q
        split at q
        · rename_i h hv
          split at q
          rotate_left 1
          · exact q.elim
          rename_i hok
          cases xs with
          | nil => exact absurd rfl h0
          | cons y ys =>
            cases es with
            | nil => simp [chkEs] at hx
            | cons e' es' =>
              have hx0 := hx
              simp only [chkEs, Bool.and_eq_true] at hx
              intro pins s I
              refine wpAny_Call_Name_kw (thn (we_var (pos := p) S h1 ev hv (Q := fun v H' => RepU X.K P α v (.f h) ∧ H' = H) (fun v rv => ⟨rv, rfl⟩) pins s I) fun u s1 ⟨v, H1, I1, r1, rv, eH⟩ => ?_)
              subst eH
              cases rv with
              | @l i' a cc q0 params body scope pm ctv g1 g2 g3 =>
                obtain rfl : u = Value.ref a := r1
                rw [S.hG] at g1
                obtain ⟨e0, b1, b2⟩ := g1
                obtain ⟨g, F, f1, f2, _, _, _, _, _, f3, _⟩ := head_of b1
                have at_ : ∀ {H2 : Hp} {P2 : Hp} {s2 : Shared}, Same P P2 → Same P2 H2 → Inv X pins σ H2 s2 → PySem.W.FnAt a s2.heap := fun {H2 P2 s2} m1 m2 J => ⟨_, _, _, _, (J.hok a _ (m2 _ _ (m1 _ _ g2))).1⟩
                have args : WA X (y :: ys) σ H1 (fun vs H2 => ∀ pins' s' (ws : List Value), pins' = pins → Inv X pins' σ H2 s' → Vals vs ws → PySem.W.FnAt a s'.heap ∧ wpAny (model X.prog X.w) X.A (call (.ref a) ws) (EP X pins σ Q) X.xe s') := by
                  refine hs X c _ Wx S tk hx0 σ H1 P α Fr st ε r ev _ (FitR.bind q fun us st1 vs H2 P2 α2 e1 a2 ru q1 => ?_)
                  intro pins' s' ws ep J rw'
                  subst ep
                  unfold callF at q1
                  simp only [f1] at q1
                  exact ⟨at_ a2.same a2.rel.sub J, lam_go S tk f1 f2 f3 a2.rel ru q1 ⟨e0, b1, b2⟩ (a2.same _ _ g2) (a2.same _ _ g3) J rw'⟩
                refine PySem.W.callWith_F (at_ (Same.refl _) r.sub I1) (thn (args pos pins s1 I1) fun ws s2 ⟨vs, H2, I2, rw', q2⟩ => ?_) (star_cons (chk_ns hx.1)) (chkEs_plain hx.2 _ _)
                exact q2 pins s2 ws rfl I2 rw'
              | @g f x a m1 =>
                obtain rfl : u = Value.ref a := r1
                rw [S.hmg] at m1
                unfold okF at hok
                simp only at hok
                split at hok
                · rename_i F e
                  simp only [Bool.and_eq_true, decide_eq_true_eq] at hok
                  obtain ⟨en, nl⟩ := hok
                  subst en
                  obtain ⟨a', fd, m1', m2, FG, hB, _⟩ := (S.fn f F e nl).ex
                  rw [m1] at m1'
                  cases m1'
                  have args : WA X (y :: ys) σ H1 (fun vs H2 => ∀ pins s (ws : List Value), Inv X pins σ H2 s → Vals vs ws → wpAny (model X.prog X.w) X.A (call (.ref a) ws) (EP X pins σ Q) X.xe s) := by
                    refine hs X c _ Wx S tk hx0 σ H1 P α Fr st ε r ev _ (FitR.bind q fun us st1 vs H2 P2 α2 e1 a2 ru q1 => ?_)
                    intro pins s ws J rw'
                    exact call_part S tk e FG hB a2.rel ru q1 J rw'
                  refine PySem.W.callWith_K (h₀ := X.base) I1.ok.mod.kin m2 (thn (args pos pins s1 I1) fun us s2 ⟨vs, H2, I2, rw', q2⟩ => ⟨I2.kIn, ?_⟩) (star_cons (chk_ns hx.1)) (chkEs_plain hx.2 _ _)
                  exact q2 pins s2 us I2 rw'
                · cases hok
        · exact q.elim
    | _ => simp only [chkE, Bool.false_eq_true] at hc
  | _ => simp only [chkE, Bool.false_eq_true] at hc
end
end Ev
end

section
set_option maxRecDepth 10000
set_option autoImplicit false
/-! EvY: methods that take data and give data. -/
namespace Ev
open PySem PySem.Spec PyProof.Rows L2
variable [Lams]
section
variable {X : Cx}
omit [Lams] in
/-- xs.count(d), items of any depth -/
theorem mt_countD (hu : X.A.units + 65 < cLine) : MtR X "list.count" (fun x xs H Q => ∃ (a : Addr) (y : V) (d : D) (ds : List D), x = V.ref a ∧ xs = [y] ∧ Dp X.K H (V.ref a) (.list ds) ∧ Dp X.K H y d ∧
    SeqAt.shaped (.list ds) = true ∧ SeqAt.shaped d = true ∧ Q (.int (ds.countP fun z => PyData.eqv z d : Nat)) H) := by
  intro pins s σ H x xs v us Q I rx rxs h
  obtain ⟨a, y, d, ds, rfl, rfl, hl, hy, sl, sd, q⟩ := h
  cases rx
  obtain ⟨uy, rfl, ry⟩ := rxs.one
  obtain ⟨bs, r1⟩ := Dp.reads I d y uy hy ry
  have lay : PyData.canLayAll0 ds = true := SeqAt.canLay_of_shaped sl
  have room : X.A.units + 1 + min (PyData.depthAll ds) d.depth < cLine := room_in_shaped sd hu
  cases hl with
  | lst hs ha =>
    obtain ⟨its, rv, ⟨⟨cls, dd, data, sls⟩, n, ho, hc, hdn, hdt⟩, hlen⟩ := I.list hs
    simp only at hc hdt
    subst hc hdt
    obtain ⟨as, h4⟩ := Dp.readsAll I ds _ its ha rv
    have hmap : its.map (SeqAt.readOf s.heap) = ds := SeqAt.readsAll_map ds its as lay h4
    refine call_meets PySem.F.slot_list_count ⟨_, ho, rfl⟩ PySem.F.entry_list_count (PySem.F.args_list_count_2 _ _)
      (SeqAt.list_countAt a its.toArray n dd sls uy (fun u => PyData.eqv (SeqAt.readOf s.heap u) d)) ⟨ho, SeqAt.items_eqAt (vs := its.toArray) (show ReadsAll s.heap its.toArray.toList ds as from h4) r1 lay (SeqAt.canLay_of_shaped sd) room, ?_⟩
    have ec : its.toArray.toList.countP (fun u => PyData.eqv (SeqAt.readOf s.heap u) d) = ds.countP fun z => PyData.eqv z d := by
      rw [← hmap, List.countP_map]; rfl
    refine ⟨.int (ds.countP (fun z => PyData.eqv z d) : Nat), H, I.tok _, ⟨s.toks, ?_⟩, q⟩
    rw [← ec]
end
section
variable {G : Gm} {W k : Nat} {cl : Nat → Value}
theorem snd_dm {m : DM} {o a : E} (ho : SndE G W k cl o) (ha : SndE G W k cl a) : SndE G W k cl (.dm m o a) := by
  intro X c x Wx S tk hc σ H P α Fr st ε r ev Q q
  cases x with
  | Call fn xs kws cpos =>
    cases fn with
    | Attribute y n apos =>
      rcases xs with _ | ⟨z, _ | ⟨z2, zs⟩⟩ <;> first | (simp only [chkE, Bool.false_eq_true] at hc; done) | skip
      cases kws with
      | cons kw kws => simp only [chkE, Bool.false_eq_true] at hc
      | nil =>
        simp only [chkE, Bool.and_eq_true, decide_eq_true_eq] at hc
        obtain ⟨⟨⟨hn, hl⟩, hy⟩, hz⟩ := hc
        subst hn
        unfold evE at q
        have few : ((backTo cpos (starEach [z] X.env)).all (fun x => !x.1) && (backToKw cpos (keywordEach [] X.env)).all (fun x => x.1.isSome) && decide (([z] : List Expr).length + ([] : List Keyword).length + (if ([] : List Keyword).isEmpty then 0 else 1) < 30)) = true := by
          rw [star_cons (chk_ns hz)]; rfl
        cases m with
        | split =>
          refine WE.of (pe_split pe_W pe_W (by rw [star_cons (chk_ns hz)]; rfl) (chk_base hy _ _) hl) ?_
          refine ho X c _ Wx S tk hy σ H P α Fr st ε r ev _ (FitR.bind q fun u st1 v H1 P1 α1 e1 a1 rx q1 => ?_)
          split at q1
          · rename_i ok
            rcases u with (_ | _ | _ | sx | _ | _ | _) | _ | _ | _ <;> first | (cases ok; done) | skip
            cases rx with | d rx =>
            cases rx
            refine ⟨⟨_, rfl⟩, ?_⟩
            refine ha X c _ Wx S tk hz σ H1 P1 α1 Fr st1 ε a1.rel (ev.mono a1.same a1.pre) _ (FitR.bind q1 fun w st2 vw H2 P2 α2 e2 a2 rw q2 => ?_)
            rcases w with (_ | _ | _ | sy | _ | _ | _) | _ | _ | _ <;> first | exact q2.elim | skip
            cases rw with | d rw =>
            cases rw
            simp only [dmU, dmD] at q2
            split at q2
            · rename_i h
              refine ⟨sx, sy, rfl, rfl, h.1, by rw [← sizeMax_eq]; exact h.2, fun p hp => ?_⟩
              refine q2 _ _ _ _ (a2.rel.new hp _) (.d (rep_lst (sq_up (a2.rel.sub.free hp)) ?_))
              generalize PySem.Txt.split sx sy = l
              induction l with
              | nil => exact .nil
              | cons t l ih => exact .cons (.str t) ih
            · exact q2.elim
          · exact q1.elim
        | count =>
          refine WE.of (pe_bm PySem.F.plainAttrs_list PySem.F.slot_list_count PySem.F.type_list_count (mt_countD (by have := S.hu; omega)) pe_W (pa_cons pe_W pa_nil (star_cons (chk_ns hz))) (chk_base hy _ _) few hl (star_cons (chk_ns hz)) rfl) ?_
          refine ho X c _ Wx S tk hy σ H P α Fr st ε r ev _ (FitR.bind q fun u st1 v H1 P1 α1 e1 a1 rx q1 => ?_)
          split at q1
          · rename_i ok
            rcases u with (_ | _ | _ | _ | ds | _ | _) | _ | _ | _ <;> first | (cases ok; done) | skip
            cases rx with | d rx =>
            have rx0 := rx
            cases rx with | lst hs ra =>
            refine ⟨.inl ⟨rfl, _, Same.sql a1.rel.sub hs⟩, ?_⟩
            refine ha X c _ Wx S tk hz σ H1 P1 α1 Fr st1 ε a1.rel (ev.mono a1.same a1.pre) _ (FitR.bind q1 fun w st2 vw H2 P2 α2 e2 a2 rw q2 => ?_)
            cases w with
            | d y =>
              cases rw with | d rw =>
              simp only [dmU, dmD] at q2
              split at q2
              · rename_i h
                rw [Bool.and_eq_true] at h
                have n1 := PyData.hasDict_of_canLay _ (SeqAt.canLay_of_shaped h.1)
                have n2 := PyData.hasDict_of_canLay _ (SeqAt.canLay_of_shaped h.2)
                exact ⟨_, _, y, ds, rfl, rfl, ((rx0.mono a2.same).mono a2.rel.sub).dp n1, (rw.mono a2.rel.sub).dp n2, h.1, h.2, q2 _ _ _ _ (Aft.refl a2.rel) (.d (.int _))⟩
              · exact q2.elim
            | m n => exact q2.elim
            | f h => exact q2.elim
            | s z => exact q2.elim
          · exact q1.elim
    | _ => simp only [chkE, Bool.false_eq_true] at hc
  | _ => simp only [chkE, Bool.false_eq_true] at hc
theorem RepU.non_iff {K : PySem.W.Frag} {P : Hp} {α : List Addr} {v : V} {u : U} (r : RepU K P α v u) : decide (v = .non) = noneU u := by
  cases r with
  | d h => exact h.non_iff
  | m h => rfl
  | l h1 h2 h3 => rfl
  | g h => rfl
  | x h r => rfl
  | t3 h h1 h2 h3 h4 => rfl
theorem non_of {r : Expr} (h : isNon r = true) : ∃ j p, r = .Constant .none j p := by
  cases r with
  | Constant c j p => cases c <;> first | exact ⟨_, _, rfl⟩ | cases h
  | _ => cases h
theorem snd_isn {neg : Bool} {e : E} (he : SndE G W k cl e) : SndE G W k cl (.isn neg e) := by
  intro X c x Wx S tk hc σ H P α Fr st ε r ev Q q
  cases x with
  | Compare l os rs pos =>
    rcases os with _ | ⟨o, _ | ⟨o2, os⟩⟩ <;> rcases rs with _ | ⟨y, _ | ⟨y2, rs⟩⟩ <;> first | (simp only [chkE, Bool.false_eq_true] at hc; done) | skip
    simp only [chkE, Bool.and_eq_true, decide_eq_true_eq] at hc
    obtain ⟨⟨h1, h2⟩, h3⟩ := hc
    obtain ⟨j, p, rfl⟩ := non_of h2
    unfold evE at q
    cases neg with
    | true =>
      simp only [if_true] at h1
      subst h1
      refine WE.of (pe_cmpR op_notN pe_W pe_W (by rfl)) ?_
      refine he X c _ Wx S tk h3 σ H P α Fr st ε r ev _ (FitR.bind q fun x st1 vx H1 P1 α1 e1 a1 rx q1 => ?_)
      refine we_con (d := .none) rfl fun v hv => ?_
      cases hv (fun _ => none)
      refine ⟨rfl, ?_⟩
      rw [rx.non_iff]
      have := q1 _ _ _ _ (Aft.refl a1.rel) (.d (.bl _))
      simpa using this
    | false =>
      simp only [Bool.false_eq_true, if_false] at h1
      subst h1
      refine WE.of (pe_cmpR op_isN pe_W pe_W (by rfl)) ?_
      refine he X c _ Wx S tk h3 σ H P α Fr st ε r ev _ (FitR.bind q fun x st1 vx H1 P1 α1 e1 a1 rx q1 => ?_)
      refine we_con (d := .none) rfl fun v hv => ?_
      cases hv (fun _ => none)
      refine ⟨rfl, ?_⟩
      rw [rx.non_iff]
      have := q1 _ _ _ _ (Aft.refl a1.rel) (.d (.bl _))
      simpa using this
  | _ => simp only [chkE, Bool.false_eq_true] at hc
theorem tst_isn {neg : Bool} {e : E} (he : SndE G W k cl e) : SndT G W k cl (.isn neg e) := by
  intro X c x Wx S tk hc σ H P α Fr st ε r ev Q q
  cases x with
  | Compare l os rs pos =>
    rcases os with _ | ⟨o, _ | ⟨o2, os⟩⟩ <;> rcases rs with _ | ⟨y, _ | ⟨y2, rs⟩⟩ <;> first | (simp only [chkE, Bool.false_eq_true] at hc; done) | skip
    simp only [chkE, Bool.and_eq_true, decide_eq_true_eq] at hc
    obtain ⟨⟨h1, h2⟩, h3⟩ := hc
    obtain ⟨j, p, rfl⟩ := non_of h2
    have q := fitT q
    unfold evE at q
    cases neg with
    | true =>
      simp only [if_true] at h1
      subst h1
      refine WT.of (pt_cmpR op_notN pe_W pe_W (by rfl)) ?_
      refine he X c _ Wx S tk h3 σ H P α Fr st ε r ev _ (FitR.bind q fun x st1 vx H1 P1 α1 e1 a1 rx q1 => ?_)
      refine we_con (d := .none) rfl fun v hv => ?_
      cases hv (fun _ => none)
      refine ⟨rfl, ?_⟩
      rw [rx.non_iff]
      have := q1 _ _ _ _ (Aft.refl a1.rel) (.d (.bl _))
      simpa using this
    | false =>
      simp only [Bool.false_eq_true, if_false] at h1
      subst h1
      refine WT.of (pt_cmpR op_isN pe_W pe_W (by rfl)) ?_
      refine he X c _ Wx S tk h3 σ H P α Fr st ε r ev _ (FitR.bind q fun x st1 vx H1 P1 α1 e1 a1 rx q1 => ?_)
      refine we_con (d := .none) rfl fun v hv => ?_
      cases hv (fun _ => none)
      refine ⟨rfl, ?_⟩
      rw [rx.non_iff]
      have := q1 _ _ _ _ (Aft.refl a1.rel) (.d (.bl _))
      simpa using this
  | _ => simp only [chkE, Bool.false_eq_true] at hc
theorem snd_catM {a b : E} (ha : SndE G W k cl a) (hb : SndE G W k cl b) : SndE G W k cl (.catM a b) := by
  intro X c x Wx S tk hc σ H P α Fr st ε r ev Q q
  cases x with
  | BinOp l o y pos =>
    simp only [chkE, Bool.and_eq_true, decide_eq_true_eq] at hc
    obtain ⟨⟨h1, h2⟩, h3⟩ := hc
    subst h1
    unfold evE at q
    refine WE.of (pe_op op_catL pe_W pe_W) ?_
    refine ha X c _ Wx S tk h2 σ H P α Fr st ε r ev _ (FitR.bind q fun x st1 vx H1 P1 α1 e1 a1 rx q1 => ?_)
    refine hb X c _ Wx S tk h3 σ H1 P1 α1 Fr st1 ε a1.rel (ev.mono a1.same a1.pre) _ (FitR.bind q1 fun y st2 vy H2 P2 α2 e2 a2 ry q2 => ?_)
    unfold catU at q2
    split at q2
    · rename_i xs ys
      split at q2
      · rename_i hl
        cases (rx.mono a2.same a2.pre) with | d rx =>
        cases ry with | d ry =>
        cases rx with | lst h1 r1 =>
        cases ry with | lst h2 r2 =>
        refine ⟨_, _, _, _, rfl, rfl, Same.sql a2.rel.sub h1, Same.sql a2.rel.sub h2, by rw [r1.length, r2.length, ← sizeMax_eq]; exact hl, fun p hp => ?_⟩
        have rr : RepUs X.K P2 α2 _ ((xs ++ ys).map U.d) := RepUs.of_all (r1.append r2)
        refine q2 _ _ _ _ (a2.rel.alloc hp rr) (.m ?_)
        rw [← a2.rel.len, List.getElem?_append_right (Nat.le_refl _), Nat.sub_self]
        rfl
      · exact q2.elim
    · exact q2.elim
  | _ => simp only [chkE, Bool.false_eq_true] at hc
end
end Ev
end

section
set_option maxRecDepth 10000
set_option autoImplicit false
/-! EvZ: tuples that are known to be plain: made, told, asked for a place. -/
namespace Ev
open PySem PySem.Spec PyProof.Rows L2
variable [Lams]
section
variable {X : Cx}
omit [Lams] in
theorem call_tupX : CallR X (.type "tuple") (fun xs H Q => ∃ p ys, xs = [.ref p] ∧ SqL X.K H p ys ∧ ∀ l (o : Obj), H l = none → o.cls = .type "tuple" → o.dict = none → Q (.ref l) (upd H l (.frz o (.tup ys)))) := by
  intro pins s σ H xs us Q I r h
  obtain ⟨p, ys, rfl, hq, q⟩ := h
  obtain ⟨u, rfl, rx⟩ := vals1 r
  cases rx
  obtain ⟨its, r', pl, hz⟩ := I.list hq
  have hlen := r'.length
  refine call_tuple_list pl.isList (fun h' kp => ?_) (by simp only [List.size_toArray] <;> omega)
  have I1 : Inv X pins σ H { s with heap := h' } := I.kept (t' := s.toks) kp
  obtain ⟨o, ho⟩ : ∃ o : Obj, o = { cls := .type "tuple", data := .seq its.toArray } := ⟨_, rfl⟩
  have get : (h'.push { cls := .type "tuple", data := .seq its.toArray }).get? h'.objs.size = some o := by rw [ho]; exact Heap.get?_push_size _ rfl
  have I2 : Inv X pins σ (upd H h'.objs.size (.frz o (.tup ys))) { s with heap := h'.push { cls := .type "tuple", data := .seq its.toArray } } :=
    I1.laid (t' := s.toks) (fun b o e => Heap.get?_push_of_some _ e) (Nat.le_refl _) (show ObjOk X.prog X.w _ _ _ (.frz o (.tup ys)) from ⟨get, hz, its, r', IsTup.new _ _⟩)
  exact ⟨.ref h'.objs.size, _, I2, rfl, q _ o (I1.hok.fresh (Nat.le_refl _)) (by rw [ho]) (by rw [ho])⟩
/-- t.index(d), t a plain tuple, items of any depth -/
theorem pe_tix {o e : Expr} {to : TE} {ta : TA} {apos cpos : Pos} (hu : X.A.units + 65 < cLine) (ho : PE X o to) (he : PA X [e] ta) (hs : starEach [e] X.env = [(false, eval e X.env)]) (hbase : attributeBase o "index" X.env (eval o X.env) = eval o X.env) (hline : (apos.endLine == cpos.line) = true) :
    PE X (.Call (.Attribute o "index" apos) [e] [] cpos) (fun σ H Q => to σ H fun x H1 => ∃ p vs, x = .ref p ∧ ExT H1 p vs ∧ ta σ H1 fun ys H2 => ∃ (y : V) (d : D) (ds : List D) (j : Nat), ys = [y] ∧ ExT H2 p vs ∧ DpAll X.K H2 vs ds ∧ Dp X.K H2 y d ∧ SeqAt.shaped (.tuple ds) = true ∧ SeqAt.shaped d = true ∧ placeD ds d = some j ∧ Q (.int (j : Nat)) H2) := by
  refine ⟨fun pins s σ H Q I h => ?_⟩
  have few : ((backTo cpos (starEach [e] X.env)).all (fun x => !x.1) && (backToKw cpos (keywordEach [] X.env)).all (fun x => x.1.isSome) && decide (([e] : List Expr).length + ([] : List Keyword).length + (if ([] : List Keyword).isEmpty then 0 else 1) < 30)) = true := by rw [hs]; rfl
  refine wpAny_Call_method_late hbase few hline rfl (thn (ho.run pins s σ H _ I h) fun v s1 ⟨x, H1, I1, r1, p, vs, ex, hx, q1⟩ => ?_)
  subst ex
  obtain rfl : v = Value.ref p := r1
  obtain ⟨ob, hp, hcls, hdict⟩ := hx
  have get1 : s1.heap.get? p = some ob := (I1.hok p _ hp).1
  refine ⟨"tuple", "tuple.index", PySem.F.plainAttrs_tuple, PySem.F.slot_tuple_index, PySem.F.type_tuple_index, ⟨ob, get1, hcls⟩, fun a ea => ?_, ?_⟩
  · cases ea
    exact ⟨ob, get1, hdict⟩
  have hA := he.run cpos pins s1 σ H1 _ I1 q1
  rw [hs] at hA ⊢
  refine Calls.callWith_builtin rfl (Calls.evalArgs_plain (thn hA fun us s2 ⟨ys, H2, I2, r2, y, d, ds, j, ey, hx2, ha, hy, sl, sd, hj, q2⟩ => ?_))
  subst ey
  obtain ⟨u, rfl, r3⟩ := r2.one
  obtain ⟨ob2, hp2, hcls2, hdict2⟩ := hx2
  obtain ⟨get2, hlen, its, rv, ⟨⟨cls, dd, dt, slt⟩, ho2, hc2, n, hd2⟩⟩ := I2.hok p _ hp2
  simp only at hc2 hd2
  subst hc2 hd2
  obtain ⟨bs, rd⟩ := Dp.reads I2 d y u hy r3
  obtain ⟨as, rds⟩ := Dp.readsAll I2 ds _ its ha rv
  have lay : PyData.canLayAll0 ds = true := SeqAt.canLay_of_shaped sl
  have room : X.A.units + 1 + min (PyData.depthAll ds) d.depth < cLine := room_in_shaped sd hu
  have hmap : its.map (SeqAt.readOf s2.heap) = ds := SeqAt.readsAll_map ds its as lay rds
  unfold placeD at hj
  obtain ⟨hjl, hjt, hjn⟩ := List.findIdx?_eq_some_iff_getElem.mp hj
  have hlen2 : its.length = ds.length := by rw [← hmap, List.length_map]
  have at_ : ∀ (m : Nat) (hm : m < its.toArray.size) (hm2 : m < ds.length), SeqAt.readOf s2.heap its.toArray[m] = ds[m] := fun m hm hm2 => by
    have h1 : m < its.length := by simpa using hm
    have e1 : ds[m]? = some (SeqAt.readOf s2.heap its[m]) := by rw [← hmap, List.getElem?_map, List.getElem?_eq_getElem h1]; rfl
    rw [List.getElem?_eq_getElem hm2] at e1
    have e2 := Option.some.inj e1
    rw [e2]
    simp
  have hj2 : j < its.toArray.size := by rw [List.size_toArray, hlen2]; exact hjl
  show wpAny _ _ (call (.builtin "tuple.index") [.ref p, u]) _ _ s2
  refine call_meets PySem.F.slot_tuple_index ⟨_, ho2, rfl⟩ PySem.F.entry_tuple_index (PySem.F.args_tuple_index_2 _ _) (TI.tuple_indexAt p its.toArray n dd slt u (fun w => PyData.eqv (SeqAt.readOf s2.heap w) d) j hj2 ?_ ?_)
    ⟨ho2, SeqAt.items_eqAt (vs := its.toArray) (show ReadsAll s2.heap its.toArray.toList ds as from rds) rd lay (SeqAt.canLay_of_shaped sd) room, ⟨.int (j : Nat), H2, I2.tok _, ⟨_, rfl⟩, q2⟩⟩
  · show PyData.eqv (SeqAt.readOf s2.heap its.toArray[j]) d = true
    rw [at_ j hj2 hjl]
    exact hjt
  · intro m hm hmj
    have hm2 : m < ds.length := Nat.lt_trans hmj hjl
    show PyData.eqv (SeqAt.readOf s2.heap its.toArray[m]) d = false
    rw [at_ m hm hm2]
    have := hjn m hmj
    simpa using this
end
section
variable {G : Gm} {W k : Nat} {cl : Nat → Value}
theorem snd_tupX {e : E} (he : SndE G W k cl e) : SndE G W k cl (.tupX e) := by
  intro X c x Wx S tk hc σ H P α Fr st ε r ev Q q
  cases x with
  | Call fn xs kws pos =>
    cases fn with
    | Name n p =>
      rcases xs with _ | ⟨y, _ | ⟨y2, ys⟩⟩ <;> cases kws <;> first | (simp only [chkE, Bool.false_eq_true] at hc; done) | skip
      simp only [chkE, Bool.and_eq_true, decide_eq_true_eq, List.contains_eq_mem] at hc
      obtain ⟨⟨⟨rfl, hg⟩, hb⟩, hy⟩ := hc
      unfold evE at q
      obtain ⟨b1, b2, b3⟩ := boot_bf .tuple
      refine WE.of (we_callV (v := .type "tuple") (.inr ⟨_, rfl⟩) call_tupX (S.gl hg) (S.bt _ hb) b1 (pa_cons pe_W pa_nil (star_cons (chk_ns hy))) b2 b3 (star_cons (chk_ns hy)) rfl) ?_
      refine he X c _ Wx S tk hy σ H P α Fr st ε r ev _ (FitR.bind q fun u st1 v H1 P1 α1 e1 a1 rx q1 => ?_)
      cases u with
      | d z =>
        cases z with
        | list ds =>
          cases rx with | d rx =>
          cases rx with | lst hs ra =>
          refine ⟨_, _, rfl, Same.sql a1.rel.sub hs, fun l o hl h1 h2 => ?_⟩
          exact q1 _ _ _ _ (a1.rel.new hl _) (.x ⟨o, upd_same, h1, h2⟩ (ra.mono (sq_up (a1.rel.sub.free hl))))
        | _ => exact q1.elim
      | m n => exact q1.elim
      | f h => exact q1.elim
      | s z => exact q1.elim
    | _ => simp only [chkE, Bool.false_eq_true] at hc
  | _ => simp only [chkE, Bool.false_eq_true] at hc
theorem snd_weak {e : E} (he : SndE G W k cl e) : SndE G W k cl (.weak e) := by
  intro X c x Wx S tk hc σ H P α Fr st ε r ev Q q
  simp only [chkE, Bool.and_eq_true] at hc
  unfold evE at q
  refine he X c x Wx S tk hc.2 σ H P α Fr st ε r ev _ (FitR.bind q fun u st1 v H1 P1 α1 e1 a1 rx q1 => ?_)
  refine q1 _ _ _ _ (Aft.refl a1.rel) ?_
  cases rx with
  | x h ra => exact .d (.tup h.sqt ra)
  | d h => exact .d h
  | m h => exact .m h
  | l h1 h2 h3 => exact .l h1 h2 h3
  | g h => exact .g h
  | t3 h h1 h2 h3 h4 => exact .t3 h h1 h2 h3 h4
theorem snd_trip {a b d : E} (ha : SndE G W k cl a) (hb : SndE G W k cl b) (hd : SndE G W k cl d) : SndE G W k cl (.trip a b d) := by
  intro X c x Wx S tk hc σ H P α Fr st ε r ev Q q
  cases x with
  | Tuple xs n pos =>
    rcases xs with _ | ⟨x, _ | ⟨y, _ | ⟨z, _ | ⟨w, xs⟩⟩⟩⟩ <;> first | (simp only [chkE, Bool.false_eq_true] at hc; done) | skip
    simp only [chkE, Bool.and_eq_true] at hc
    obtain ⟨⟨h1, h2⟩, h3⟩ := hc
    unfold evE at q
    refine WE.of (pe_tup (pa_cons pe_W (pa_cons pe_W (pa_cons pe_W pa_nil (star_cons (chk_ns h3))) (star_cons (chk_ns h2))) (star_cons (chk_ns h1)))) ?_
    refine ha X c _ Wx S tk h1 σ H P α Fr st ε r ev _ (FitR.bind q fun u1 st1 v1 H1 P1 α1 e1 a1 r1 q1 => ?_)
    refine hb X c _ Wx S tk h2 σ H1 P1 α1 Fr st1 ε a1.rel (ev.mono a1.same a1.pre) _ (FitR.bind q1 fun u2 st2 v2 H2 P2 α2 e2 a2 r2 q2 => ?_)
    refine hd X c _ Wx S tk h3 σ H2 P2 α2 Fr st2 ε a2.rel ((ev.mono a1.same a1.pre).mono a2.same a2.pre) _ (FitR.bind q2 fun u3 st3 v3 H3 P3 α3 e3 a3 r3 q3 => ?_)
    cases hz : tripU u1 u2 u3 with
    | none => rw [hz] at q3; exact q3.elim
    | some z =>
      rw [hz] at q3
      unfold tripU at hz
      split at hz
      · rename_i da db xs
        cases hz
        cases ((r1.mono a2.same a2.pre).mono a3.same a3.pre) with | d r1 =>
        cases (r2.mono a3.same a3.pre) with | d r2 =>
        cases r3 with | @x qa vs3 xs3 hx ra =>
        refine ⟨by show 3 ≤ sizeLine; decide, fun p hp => ?_⟩
        have sm := sq_up (o := .tup [v1, v2, .ref qa]) (a3.rel.sub.free hp)
        exact q3 _ _ _ _ (a3.rel.new hp _) (.t3 (.inl (.inl upd_same)) (r1.mono sm) (r2.mono sm) (hx.mono sm) (ra.mono sm))
      · cases hz
  | _ => simp only [chkE, Bool.false_eq_true] at hc
theorem snd_tix {o a : E} (ho : SndE G W k cl o) (ha : SndE G W k cl a) : SndE G W k cl (.tix o a) := by
  intro X c x Wx S tk hc σ H P α Fr st ε r ev Q q
  cases x with
  | Call fn xs kws cpos =>
    cases fn with
    | Attribute y n apos =>
      rcases xs with _ | ⟨z, _ | ⟨z2, zs⟩⟩ <;> cases kws <;> first | (simp only [chkE, Bool.false_eq_true] at hc; done) | skip
      simp only [chkE, Bool.and_eq_true, decide_eq_true_eq] at hc
      obtain ⟨⟨⟨hn, hl⟩, hy⟩, hz⟩ := hc
      subst hn
      unfold evE at q
      refine WE.of (pe_tix (by have := S.hu; omega) pe_W (pa_cons pe_W pa_nil (star_cons (chk_ns hz))) (by rw [star_cons (chk_ns hz)]; rfl) (chk_base hy _ _) hl) ?_
      refine ho X c _ Wx S tk hy σ H P α Fr st ε r ev _ (FitR.bind q fun u st1 v H1 P1 α1 e1 a1 rx q1 => ?_)
      split at q1
      · rename_i ok
        cases rx <;> first | (cases ok; done) | skip
        rename_i p vs xs hx ra
        refine ⟨p, vs, rfl, hx.mono a1.rel.sub, ?_⟩
        refine ha X c _ Wx S tk hz σ H1 P1 α1 Fr st1 ε a1.rel (ev.mono a1.same a1.pre) _ (FitR.bind q1 fun w st2 vw H2 P2 α2 e2 a2 rw q2 => ?_)
        cases hz : tixU (.s (.x xs)) w with
        | none => rw [hz] at q2; exact q2.elim
        | some z =>
          rw [hz] at q2
          unfold tixU at hz
          split at hz
          · rename_i xs' d ex
            cases ex
            split at hz
            · rename_i h
              rw [Bool.and_eq_true] at h
              rw [Option.map_eq_some_iff] at hz
              obtain ⟨j, hj, rfl⟩ := hz
              cases rw with | d rw =>
              have n1 := PyData.hasDict_of_canLay _ (SeqAt.canLay_of_shaped h.1)
              have n2 := PyData.hasDict_of_canLay _ (SeqAt.canLay_of_shaped h.2)
              exact ⟨_, d, _, j, rfl, (hx.mono a2.same).mono a2.rel.sub, RepAll.dp (by simpa [PyData.hasDict] using n1) ((ra.mono a2.same).mono a2.rel.sub), (rw.mono a2.rel.sub).dp n2, h.1, h.2, hj, q2 _ _ _ _ (Aft.refl a2.rel) (.d (.int _))⟩
            · cases hz
          · cases hz
      · exact q1.elim
    | _ => simp only [chkE, Bool.false_eq_true] at hc
  | _ => simp only [chkE, Bool.false_eq_true] at hc
end
end Ev
end

section
set_option maxRecDepth 10000
set_option autoImplicit false
/-! EvL: every expression. -/
namespace Ev
open PySem PySem.Spec PyProof.Rows L2
variable [Lams]

section
variable {G : Gm} {W k : Nat} {cl : Nat → Value}
/-- the tests of what is neither not, and, or, a comparison, nor an if -/
local macro_rules | `(tactic| rfl) => `(tactic| (intro c a env h; cases a with
  | UnaryOp o x p => cases o <;> first | exact fun _ => rfl | (simp [chkE, dictShape, repShape, gen2, isVarE] at h; done)
  | _ => first | exact fun _ => rfl | (simp [chkE, dictShape, repShape, gen2, isVarE] at h; done)))
mutual
theorem snd_all : ∀ e : E, Both G W k cl e
  | .con kc => ⟨snd_con, snd_con.test (by rfl)⟩
  | .var i => ⟨snd_var, snd_var.test (by rfl)⟩
  | .glob g => ⟨snd_glob, snd_glob.test (by rfl)⟩
  | .bin op a b => ⟨snd_bin (snd_all a).1 (snd_all b).1, (snd_bin (snd_all a).1 (snd_all b).1).test (by rfl)⟩
  | .neg a => ⟨snd_neg (snd_all a).1, (snd_neg (snd_all a).1).test (by rfl)⟩
  | .not_ a => ⟨snd_not (snd_all a).1, tst_not (snd_all a).2⟩
  | .cmp op a b => ⟨snd_cmp (snd_all a).1 (snd_all b).1, tst_cmp (snd_all a).1 (snd_all b).1⟩
  | .chain o1 o2 a b c => ⟨snd_chain (snd_all a).1 (snd_all b).1 (snd_all c).1, tst_chain (snd_all a).1 (snd_all b).1 (snd_all c).1⟩
  | .and_ a b => ⟨snd_and (snd_all a).1 (snd_all b).1, tst_and (snd_all a).2 (snd_all b).2⟩
  | .or_ a b => ⟨snd_or (snd_all a).1 (snd_all b).1, tst_or (snd_all a).2 (snd_all b).2⟩
  | .ite c a b => ⟨snd_ite (snd_all c).2 (snd_all a).1 (snd_all b).1, tst_ite (snd_all c).2 (snd_all a).2 (snd_all b).2⟩
  | .tup es => ⟨snd_tup (sndEs_of (snds_all es).fst), (snd_tup (sndEs_of (snds_all es).fst)).test (by rfl)⟩
  | .lst mu es => ⟨snd_lst (sndEs_of (snds_all es).fst), (snd_lst (sndEs_of (snds_all es).fst)).test (by rfl)⟩
  | .ix a b => ⟨snd_ix (snd_all a).1 (snd_all b).1, (snd_ix (snd_all a).1 (snd_all b).1).test (by rfl)⟩
  | .slice a lo hi => ⟨snd_slice (snd_all a).1 (snds_all lo).fst (snds_all hi).fst, (snd_slice (snd_all a).1 (snds_all lo).fst (snds_all hi).fst).test (by rfl)⟩
  | .call f es => ⟨snd_call (sndEs_of (snds_all es).fst), (snd_call (sndEs_of (snds_all es).fst)).test (by rfl)⟩
  | .callK f ks js es => ⟨snd_callK (sndKs_of (snds_all es).fst), (snd_callK (sndKs_of (snds_all es).fst)).test (by rfl)⟩
  | .bcall b es => ⟨snd_bcall (snds_all es).fst, (snd_bcall (snds_all es).fst).test (by rfl)⟩
  | .isty t e => ⟨snd_isty (snd_all e).1, (snd_isty (snd_all e).1).test (by rfl)⟩
  | .meth0 m o => ⟨snd_meth0 (snd_all o).1, (snd_meth0 (snd_all o).1).test (by rfl)⟩
  | .meth1 m o a => ⟨snd_meth1 (snd_all o).1 (snd_all a).1, (snd_meth1 (snd_all o).1 (snd_all a).1).test (by rfl)⟩
  | .comp mu elt tg ik its ifs own => ⟨snd_comp (snd_all elt).1 (snds_all its).fst (snds_all ifs), (snd_comp (snd_all elt).1 (snds_all its).fst (snds_all ifs)).test (by rfl)⟩
  | .dict ks es => ⟨snd_dict (snds_all es).fst, (snd_dict (snds_all es).fst).test (by rfl)⟩
  | .tupX e => ⟨snd_tupX (snd_all e).1, (snd_tupX (snd_all e).1).test (by rfl)⟩
  | .trip a b d => ⟨snd_trip (snd_all a).1 (snd_all b).1 (snd_all d).1, (snd_trip (snd_all a).1 (snd_all b).1 (snd_all d).1).test (by rfl)⟩
  | .weak e => ⟨snd_weak (snd_all e).1, (snd_weak (snd_all e).1).test (by rfl)⟩
  | .tix o a => ⟨snd_tix (snd_all o).1 (snd_all a).1, (snd_tix (snd_all o).1 (snd_all a).1).test (by rfl)⟩
  | .isn neg e => ⟨snd_isn (snd_all e).1, tst_isn (snd_all e).1⟩
  | .catM a b => ⟨snd_catM (snd_all a).1 (snd_all b).1, (snd_catM (snd_all a).1 (snd_all b).1).test (by rfl)⟩
  | .dm m o a => ⟨snd_dm (snd_all o).1 (snd_all a).1, (snd_dm (snd_all o).1 (snd_all a).1).test (by rfl)⟩
  | .lam i e => ⟨snd_lam, snd_lam.test (by rfl)⟩
  | .fnv f x => ⟨snd_fnv, snd_fnv.test (by rfl)⟩
  | .callV i es => ⟨snd_callV (sndEs_of (snds_all es).fst), (snd_callV (sndEs_of (snds_all es).fst)).test (by rfl)⟩
  | .rep es n => ⟨snd_rep (sndEs_of (snds_all es).fst), (snd_rep (sndEs_of (snds_all es).fst)).test (by rfl)⟩
  | .comp2 mu elt tg ik its ifs tg1 ik1 its1 ifs1 own own1 => ⟨snd_comp2 (snd_all elt).1 (snds_all its).fst (snds_all ifs) (snds_all its1).fst (snds_all ifs1), (snd_comp2 (snd_all elt).1 (snds_all its).fst (snds_all ifs) (snds_all its1).fst (snds_all ifs1)).test (by rfl)⟩
theorem snds_all : ∀ es : Es, AllE (Both G W k cl) es
  | .nil => trivial
  | .cons e es => ⟨snd_all e, snds_all es⟩
end
end
end Ev
end

section
set_option maxRecDepth 10000
set_option autoImplicit false
/-! EvM: statements' syntax meets the machine's. -/
namespace Ev
open PySem PySem.Spec PyProof.Rows L2
variable [Lams]

section
variable {K : PySem.W.Frag} (G : Gm) (cl : Nat → Value)
variable (K) in
def FitS (P : Hp) (α : List Addr) (Fr : Hp) (Wx : WX) (r : RS) (D : Ends) : Prop := match r with
  | .nx ε st' => ∀ σ' H' P' α', Aft K P α Fr st' H' P' α' → EnvOk K P' α' σ' ε → D.nx σ' H'
  | .ret u st' => ∀ v H' P' α', Aft K P α Fr st' H' P' α' → RepU K P' α' v u → D.rt v H'
  | .brk ε st' => ∀ σ' H' P' α', Aft K P α Fr st' H' P' α' → EnvOk K P' α' σ' ε → D.bk σ' H'
  | .cnt ε st' => ∀ σ' H' P' α', Aft K P α Fr st' H' P' α' → EnvOk K P' α' σ' ε → D.ct σ' H'
  | .exc c x ε st' => ∀ σ' H' P' α' d, Aft K P α Fr st' H' P' α' → EnvOk K P' α' σ' ε → XR G K P' c x d → Wx (cl c) d σ' H'
  | .stuck => False
variable {G} {cl}
theorem FitS.weak {P P1 : Hp} {α α1 : List Addr} {Fr : Hp} {st1 : Store} {H1 : Hp} {Wx : WX} {r : RS} {D : Ends} (h : FitS K G cl P α Fr Wx r D) (a : Aft K P α Fr st1 H1 P1 α1) : FitS K G cl P1 α1 Fr Wx r D := by
  cases r with
  | nx ε st' => exact fun σ' H' P' α' b q => h σ' H' P' α' (a.trans b) q
  | ret u st' => exact fun v H' P' α' b q => h v H' P' α' (a.trans b) q
  | brk ε st' => exact fun σ' H' P' α' b q => h σ' H' P' α' (a.trans b) q
  | cnt ε st' => exact fun σ' H' P' α' b q => h σ' H' P' α' (a.trans b) q
  | exc c x ε st' => exact fun σ' H' P' α' d b q => h σ' H' P' α' d (a.trans b) q
  | stuck => exact h
/-- an expression's part of a statement -/
theorem FitS.bind {β γ : Type} {P : Hp} {α : List Addr} {Fr : Hp} {Wx : WX} {repA : Hp → List Addr → β → γ → Prop} {r : R γ} {f : γ → Store → RS} {D : Ends} {Qa : β → Hp → Prop} {σ : L2.St} {ε : Env} (ev : EnvOk K P α σ ε)
    (h : FitS K G cl P α Fr Wx (r.bindS ε f) D)
    (k : ∀ u st1 v H1 P1 α1, r = .ok u st1 → Aft K P α Fr st1 H1 P1 α1 → repA P1 α1 v u → FitS K G cl P1 α1 Fr Wx (f u st1) D → Qa v H1) : FitR K G cl P α Fr (fun v d H' => Wx v d σ H') repA r Qa := by
  cases r with
  | ok u st' => exact fun v H' P' α' b q => k u st' v H' P' α' rfl b q (FitS.weak h b)
  | exc c x st' => exact fun H' P' α' d b q => h σ H' P' α' d b (ev.mono b.same b.pre) q
  | stuck => exact h
end

section
variable (G : Gm) (W k : Nat) (cl : Nat → Value)
def SndS (s : S) : Prop := ∀ (X : Cx) (c : Ct) (x : Stmt) (Wx : WX), Sta G cl k X c → PassesOwn (model X.prog X.w) X.A X.env X.xe → Takes X Wx → chkS G c s x = true → ∀ (σ : L2.St) (H P : Hp) (α : List Addr) (Fr : Hp) (st : Store) (ε : Env), Rel X.K P α Fr st H → EnvOk X.K P α σ ε → ∀ D : Ends,
  FitS X.K G cl P α Fr Wx (exS G W (cpK G W k) (cmK G W k) s ε st) D → WS X x D σ H
def SndSs (ss : Ss) : Prop := ∀ (X : Cx) (c : Ct) (xs : List Stmt) (Wx : WX), Sta G cl k X c → PassesOwn (model X.prog X.w) X.A X.env X.xe → Takes X Wx → chkSs G c ss xs = true → ∀ (σ : L2.St) (H P : Hp) (α : List Addr) (Fr : Hp) (st : Store) (ε : Env), Rel X.K P α Fr st H → EnvOk X.K P α σ ε → ∀ D : Ends,
  FitS X.K G cl P α Fr Wx (exSs G W (cpK G W k) (cmK G W k) ss ε st) D → WSs X xs D σ H
end

section
variable {G : Gm} {W k : Nat} {cl : Nat → Value}
theorem snd_ret {e : E} : SndS G W k cl (.ret e) := by
  intro X c x Wx S ps tk hc σ H P α Fr st ε r ev D q
  cases x with
  | Return v pos =>
    cases v with
    | none => simp only [chkS, Bool.false_eq_true] at hc
    | some y =>
      simp only [chkS] at hc
      refine WS.of (ps_ret pe_W) ?_
      unfold exS at q
      exact (snd_all e).1 X c y Wx S tk hc σ H P α Fr st ε r ev _ (FitS.bind ev q fun u st1 v H1 P1 α1 e1 a1 rx q1 => q1 _ _ _ _ (Aft.refl a1.rel) rx)
  | _ => simp only [chkS, Bool.false_eq_true] at hc
theorem snd_ex {e : E} : SndS G W k cl (.ex e) := by
  intro X c x Wx S ps tk hc σ H P α Fr st ε r ev D q
  cases x with
  | Expr y pos =>
    simp only [chkS, Bool.and_eq_true, Bool.not_eq_true'] at hc
    refine WS.of (ps_expr pe_W (by cases y <;> first | rfl | (simp [isLC] at hc; done) | (simp [chkE, dictShape, repShape, gen2, isVarE] at hc; done) | (cases e <;> simp [chkE, dictShape, repShape, gen2, isVarE] at hc; done))) ?_
    unfold exS at q
    exact (snd_all e).1 X c y Wx S tk hc.1 σ H P α Fr st ε r ev _ (FitS.bind ev q fun u st1 v H1 P1 α1 e1 a1 rx q1 => q1 _ _ _ _ (Aft.refl a1.rel) (ev.mono a1.same a1.pre))
  | _ => simp only [chkS, Bool.false_eq_true] at hc
end
end Ev
end

section
set_option maxRecDepth 10000
set_option autoImplicit false
/-! EvN: assignments. -/
namespace Ev
open PySem PySem.Spec PyProof.Rows L2
variable [Lams]

section
variable {G : Gm} {W k : Nat} {cl : Nat → Value}
theorem nonlc_sw {v : Expr} {o : Option Expr} {l : Nat} {env : PySem.Env} (h : isLC v = false) (hd : ∀ a b c s p, v ≠ .DictComp a b c s p) (hs : ∀ a c s p, v ≠ .SetComp a c s p) : swapsWith v o l env = pure false := by
  cases v with
  | ListComp => cases h
  | DictComp => exact absurd rfl (hd _ _ _ _ _)
  | SetComp => exact absurd rfl (hs _ _ _ _)
  | _ => rfl
theorem chk_nodc {c : Ct} {e : E} {v : Expr} (h : chkE G c e v = true) : (∀ a b c s p, v ≠ .DictComp a b c s p) ∧ (∀ a c s p, v ≠ .SetComp a c s p) :=
  ⟨fun _ _ _ _ _ z => by subst z; cases e <;> simp [chkE, dictShape, repShape, gen2, isVarE] at h, fun _ _ _ _ z => by subst z; cases e <;> simp [chkE, dictShape, repShape, gen2, isVarE] at h⟩
/-- whether the store is made within the comprehension's end -/
theorem sw_lc {X : Cx} {c : Ct} (S : Sta G cl k X c) {el : Expr} {gs : List Comprehension} {scope : Scope} {pos py : Pos} {y : Str} {l : Nat} : ∃ b, swapsWith (.ListComp el gs scope pos) (some (.Name y py)) l X.env = pure b ∧ (b = true → X.env.scope.names.lookup y = some .local) := by
  have hk : X.env.scope.kind = .function := by rw [S.sc]; exact S.kind
  refine ⟨(X.env.blockKind == .function && X.env.kindOf y == some .local && py.line == pos.line && !(scope.names.any fun (n, k) => n == y && (k == .local || k == .cell))), rfl, fun h => ?_⟩
  simp only [Bool.and_eq_true] at h
  have := h.1.1.2
  exact eq_of_beq this
theorem set_name {X : Cx} {c : Ct} {i : Nat} {e : E} {y : Str} {py pos : Pos} {v : Expr} {Wx : WX} (S : Sta G cl k X c) (tk : Takes X Wx) (hn : stName c i y = true) (hc : chkE G c e v = true)
    {σ : L2.St} {H P : Hp} {α : List Addr} {Fr : Hp} {st : Store} {ε : Env} (r : Rel X.K P α Fr st H) (ev : EnvOk X.K P α σ ε) {Q : VK} {D : Ends}
    (q : FitR X.K G cl P α Fr (fun v d H' => Wx v d σ H') (RepU X.K) (evE G (cpK G W k) (cmK G W k) e ε st) (fun x H1 => D.nx (σ.set i (some x)) H1)) : WS X (.Assign [.Name y py] v pos) D σ H := by
  have hN : X.N.Nodup := by rw [S.hN]; exact S.nd
  unfold stName at hn
  rw [Bool.and_eq_true] at hn
  have hi : X.N[i]? = some y := by rw [S.hN]; exact isE_of hn.1
  obtain ⟨h1, h2⟩ := S.sv y hn.2
  have hx : Loc X.env.scope y := by rw [S.sc]; exact h1
  have hf : X.fn y = true ∨ X.env.scope.names.lookup y = some .local := by rw [S.sc]; exact h2
  have plain : swapsWith v (some (.Name y py)) pos.line X.env = pure false → WS X (.Assign [.Name y py] v pos) D σ H := fun hs =>
    WS.of (ps_set hN hi hx pe_W hs hf) ((snd_all e).1 X c v Wx S tk hc σ H P α Fr st ε r ev _ q)
  by_cases hl : isLC v = true
  · cases v with
    | ListComp el gens scope vpos =>
      rcases gens with _ | ⟨⟨t, iter, fs, kk⟩, _ | ⟨⟨t2, iter2, fs2, kk2⟩, _ | ⟨g3, gens⟩⟩⟩
      · cases e <;> simp [chkE, dictShape, repShape, gen2, isVarE] at hc
      · cases e with
        | comp mu elt tg ik its ifs own =>
          obtain ⟨b, hb, hloc⟩ := sw_lc (el := el) (gs := [⟨t, iter, fs, kk⟩]) (scope := scope) (pos := vpos) (py := py) (y := y) (l := pos.line) S
          cases b with
          | false => exact plain hb
          | true =>
            obtain ⟨rfl, ok, fold, g, tt, te, g1, g2, g3, g4⟩ := comp_go (snd_all elt).1 (snds_all its).fst (snds_all ifs) S tk hc r ev q
            exact WS.of (ps_setLc S.calm hN hi (hloc rfl) hb pi_W ok g1 g2 g3 fold) g4
        | _ => simp [chkE, dictShape, repShape, gen2, isVarE] at hc
      · cases e with
        | comp2 mu elt tg ik its ifs tg1 ik1 its1 ifs1 own own1 =>
          obtain ⟨b, hb, hloc⟩ := sw_lc (el := el) (gs := [⟨t, iter, fs, kk⟩, ⟨t2, iter2, fs2, kk2⟩]) (scope := scope) (pos := vpos) (py := py) (y := y) (l := pos.line) S
          cases b with
          | false => exact plain hb
          | true =>
            obtain ⟨el', t', iter', t1', iter1', fs', fs1', scope', pos', e, ok, hv, f1, f2, h⟩ := comp2_all (snd_all elt).1 (snds_all its).fst (snds_all ifs) (snds_all its1).fst (snds_all ifs1) S tk hc r ev q
            cases e
            exact WS.of (ps_setLc2 S.calm hN hi (hloc rfl) hb pi_W ok hv pgB ptB piB pgB ptB peB f1 f2) h
        | _ => simp [chkE, dictShape, repShape, gen2, isVarE] at hc
      · cases e <;> simp [chkE, dictShape, repShape, gen2, isVarE] at hc
    | _ => cases hl
  · have d := chk_nodc hc
    exact plain (nonlc_sw (by simpa using hl) d.1 d.2)

/-! ### other targets -/
theorem assign_sub {o i : Expr} {pos : Pos} {env : PySem.Env} (h : ∀ x y z p, i ≠ .Slice x y z p) : ∀ v, assign (.Subscript o i pos) env v = (do
      let ov ← holding [v] (eval o env)
      let iv ← holding [v, ov] (eval i env)
      standAt pos
      holding [v, ov, iv] (setItem ov iv v)
      release [v, ov, iv] []) := by
  intro v
  cases i <;> first | rfl | exact absurd rfl (h _ _ _ _)
theorem chk_ns2 {c : Ct} {e : E} {a : Expr} (h : chkE G c e a = true) : ∀ x y z p, a ≠ .Slice x y z p := fun x y z p w => by
  subst w
  rw [chk_noslice] at h; cases h
def endsOf (Q : L2.St → Hp → Prop) : Ends := ⟨Q, fun _ _ => False, fun _ _ => False, fun _ _ => False⟩
theorem setsub_sound {X : Cx} {P : Hp} {α : List Addr} {Fr : Hp} {st st1 : Store} {H : Hp} (r : Rel X.K P α Fr st H) {o i u : U} {vo vi v : V} (ho : RepU X.K P α vo o) (hi : RepU X.K P α vi i) (hu : RepU X.K P α v u) (e : setSub o i u st = .ok () st1) {Q : Hp → Prop}
    (q : ∀ H', Aft X.K P α Fr st1 H' P α → Q H') : ∃ t, PSet X t ∧ t vo vi v H Q := by
  unfold setSub at e
  split at e
  · rename_i n kk
    cases ho with | m ho =>
    cases hi with | d hi =>
    cases hi
    split at e
    · rename_i us hus
      split at e
      · rename_i j hj
        cases e
        obtain ⟨_, _, vs, c3, c4⟩ := r.cell _ _ _ ho hus
        exact ⟨_, set_list, _, _, _, j, rfl, rfl, c3, by rw [Paired.length c4]; exact hj, q _ (r.put ho hus (pset hu j c4))⟩
      · cases e
    · cases e
  · cases e
theorem tg_sound {X : Cx} {c : Ct} {t : Tg} {x : Expr} {Wx : WX} (S : Sta G cl k X c) (tk : Takes X Wx) (hc : chkTg G c t x = true) {σ : L2.St} {H P : Hp} {α : List Addr} {Fr : Hp} {st : Store} {ε : Env} (r : Rel X.K P α Fr st H) (ev : EnvOk X.K P α σ ε)
    {v : V} {u : U} (ru : RepU X.K P α v u) {Q : L2.St → Hp → Prop} (D : Ends) (hD : D.nx = Q) (q : FitS X.K G cl P α Fr Wx (asgTg G (cpK G W k) (cmK G W k) t u ε st) D) : WG X x v σ H Q := by
  cases t with
  | name i =>
    cases x with
    | Name n pos =>
      simp only [asgTg] at q
      rw [← hD]
      exact WG.of (name_pg S hc) (q _ _ _ _ (Aft.refl r) (ev.set ru i))
    | _ => simp [chkTg] at hc
  | sub o i =>
    cases x with
    | Subscript a b pos =>
      simp only [chkTg, Bool.and_eq_true] at hc
      simp only [asgTg] at q
      have set_any : PSet X (fun o i v H Q => ∃ t, PSet X t ∧ t o i v H Q) := fun pins s σ H o i v ov iv u Q I r1 r2 r3 ⟨t, h1, h2⟩ => h1 pins s σ H o i v ov iv u Q I r1 r2 r3 h2
      refine WG.of (pg_sub pe_W pe_W set_any (assign_sub (chk_ns2 hc.2))) ?_
      refine (snd_all o).1 X c a Wx S tk hc.1 σ H P α Fr st ε r ev _ (FitS.bind ev q fun ou st1 vo H1 P1 α1 e1 a1 ro q1 => ?_)
      refine (snd_all i).1 X c b Wx S tk hc.2 σ H1 P1 α1 Fr st1 ε a1.rel (ev.mono a1.same a1.pre) _ (FitS.bind (ev.mono a1.same a1.pre) q1 fun iu st2 vi H2 P2 α2 e2 a2 ri q2 => ?_)
      cases hs : setSub ou iu u st2 with
      | ok z st3 =>
        rw [hs] at q2
        refine setsub_sound a2.rel (ro.mono a2.same a2.pre) ri ((ru.mono a1.same a1.pre).mono a2.same a2.pre) hs fun H' a3 => ?_
        rw [← hD]
        exact q2 _ _ _ _ a3 (((ev.mono a1.same a1.pre).mono a2.same a2.pre).mono a3.same a3.pre)
      | exc cc xx st3 =>
        exfalso
        unfold setSub at hs
        split at hs
        · split at hs
          · split at hs <;> cases hs
          · cases hs
        · cases hs
      | stuck => rw [hs] at q2; exact q2.elim
    | _ => simp [chkTg] at hc
theorem tgs_sound {X : Cx} {c : Ct} {Wx : WX} (S : Sta G cl k X c) (tk : Takes X Wx) {Fr : Hp} {Q : L2.St → Hp → Prop} (D : Ends) (hD : D.nx = Q) : ∀ {ts : List Tg} {xs : List Expr} {vs : List V} {us : List U} {σ : L2.St} {H P : Hp} {α : List Addr} {st : Store} {ε : Env}, chkTgs G c ts xs = true → Rel X.K P α Fr st H → EnvOk X.K P α σ ε →
    RepUs X.K P α vs us → FitS X.K G cl P α Fr Wx (asgTgs G (cpK G W k) (cmK G W k) ts us ε st) D → WGs X xs vs σ H Q
  | [], [], _, _, σ, H, P, α, st, ε, _, r, ev, .nil, q => by
    unfold asgTgs at q
    rw [← hD]
    exact WGs.of pgs_nil ⟨rfl, q _ _ _ _ (Aft.refl r) ev⟩
  | [], [], _, _, σ, H, P, α, st, ε, _, r, ev, .cons _ _, q => by unfold asgTgs at q; exact q.elim
  | [], _ :: _, _, _, _, _, _, _, _, _, h, _, _, _, _ => by simp [chkTgs] at h
  | _ :: _, [], _, _, _, _, _, _, _, _, h, _, _, _, _ => by simp [chkTgs] at h
  | t :: ts, x :: xs, _, _, σ, H, P, α, st, ε, h, r, ev, .nil, q => by unfold asgTgs at q; exact q.elim
  | t :: ts, x :: xs, _, _, σ, H, P, α, st, ε, h, r, ev, .cons (a := v) (b := u) (l₁ := vs) (l₂ := us) rv rs, q => by
    simp only [chkTgs, Bool.and_eq_true] at h
    have hsx : (assignEach (x :: xs) X.env).map (·.2) = assign x X.env :: (assignEach xs X.env).map (·.2) := by
      cases t with
      | name i => cases x <;> first | rfl | (simp [chkTg] at h; done)
      | sub o i => cases x <;> first | rfl | (simp [chkTg] at h; done)
    refine WGs.of (pgs_cons pg_W pgs_W hsx) ⟨_, _, rfl, ?_⟩
    unfold asgTgs at q
    have key : ∀ (rs0 : RS), asgTg G (cpK G W k) (cmK G W k) t u ε st = rs0 → FitS X.K G cl P α Fr Wx rs0 { D with nx := fun σ' H' => WGs X xs vs σ' H' Q } := by
      intro rs0 e0
      rw [e0] at q
      cases rs0 with
      | nx ε1 st1 =>
        intro σ' H' P' α' a1 ev1
        exact tgs_sound S tk D hD h.2 a1.rel ev1 (RepUs.mono a1.same a1.pre rs) (FitS.weak q a1)
      | ret => exact q
      | brk => exact q
      | cnt => exact q
      | exc => exact q
      | stuck => exact q
    exact tg_sound S tk h.1 r ev rv _ rfl (key _ rfl)
theorem tgs_each {c : Ct} {env : PySem.Env} : ∀ {ts : List Tg} {xs : List Expr}, chkTgs G c ts xs = true → (assignEach xs env).length = ts.length ∧ (assignEach xs env).findIdx? (·.1) = none
  | [], [], _ => ⟨rfl, rfl⟩
  | [], _ :: _, h => by simp [chkTgs] at h
  | _ :: _, [], h => by simp [chkTgs] at h
  | t :: ts, x :: xs, h => by
    simp only [chkTgs, Bool.and_eq_true] at h
    obtain ⟨h1, h2⟩ := tgs_each (env := env) h.2
    have e : ∃ f, assignEach (x :: xs) env = (false, f) :: assignEach xs env := by
      cases t with
      | name i => cases x <;> first | exact ⟨_, rfl⟩ | (simp [chkTg] at h; done)
      | sub o i => cases x <;> first | exact ⟨_, rfl⟩ | (simp [chkTg] at h; done)
    obtain ⟨f, e⟩ := e
    rw [e]
    exact ⟨by rw [List.length_cons, h1]; rfl, by rw [List.findIdx?_cons, h2]; rfl⟩
theorem snd_asg {t : Tg} {e : E} : SndS G W k cl (.asg t e) := by
  intro X c x Wx S ps tk hc σ H P α Fr st ε r ev D q
  cases x with
  | Assign tgs v pos =>
    simp only [chkS] at hc
    rcases tgs with _ | ⟨tg, _ | ⟨tg2, tgs⟩⟩ <;> first | (simp only [chkAsg, Bool.false_eq_true] at hc; done) | skip
    simp only [chkAsg, Bool.and_eq_true] at hc
    obtain ⟨⟨h1, h2⟩, h3⟩ := hc
    unfold exS at q
    cases t with
    | name i =>
      cases tg with
      | Name y py =>
        refine set_name (Q := fun _ _ => True) S tk h1 h2 r ev (FitS.bind ev q fun u st1 v H1 P1 α1 e1 a1 rx q1 => ?_)
        exact q1 _ _ _ _ (Aft.refl a1.rel) ((ev.mono a1.same a1.pre).set rx i)
      | _ => simp [chkTg] at h1
    | sub o i =>
      cases tg with
      | Subscript a b pos' =>
        have hsw : swapsWithSole [.Subscript a b pos'] v pos.line X.env = pure false := by cases v <;> rfl
        refine WS.of (ps_asg pe_W pg_W hsw rfl rfl) ?_
        refine (snd_all e).1 X c v Wx S tk h2 σ H P α Fr st ε r ev _ (FitS.bind ev q fun u st1 v H1 P1 α1 e1 a1 rx q1 => ?_)
        exact tg_sound S tk h1 a1.rel (ev.mono a1.same a1.pre) rx D rfl q1
      | _ => simp [chkTg] at h1
  | _ => simp only [chkS, Bool.false_eq_true] at hc
theorem snd_tupS {ts : List Tg} {e : E} : SndS G W k cl (.tup ts e) := by
  intro X c x Wx S ps tk hc σ H P α Fr st ε r ev D q
  cases x with
  | Assign tgs v pos =>
    simp only [chkS] at hc
    rcases tgs with _ | ⟨tg, _ | ⟨tg2, tgs⟩⟩ <;> first | (simp only [chkTup, Bool.false_eq_true] at hc; done) | skip
    · cases tg with
      | Tuple es kk tpos =>
        simp only [chkTup, Bool.and_eq_true, Bool.not_eq_true'] at hc
        obtain ⟨⟨h1, h2⟩, h3⟩ := hc
        unfold exS at q
        have hsw : swapsWithSole [.Tuple es kk tpos] v pos.line X.env = pure false := by cases v <;> rfl
        have hst : swappedStores [.Tuple es kk tpos] v X.env = pure none := by cases v <;> first | rfl | cases h3
        refine WS.of (ps_asg pe_W pg_W hsw hst rfl) ?_
        refine (snd_all e).1 X c v Wx S tk h2 σ H P α Fr st ε r ev _ (FitS.bind ev q fun u st1 v H1 P1 α1 e1 a1 rx q1 => ?_)
        split at q1
        · rename_i da db xs
          split at q1
          · rename_i hl
            obtain ⟨b1, b2⟩ := tgs_each (env := X.env) h1
            cases rx with | t3 hs r1 r2 hx ra =>
            exact WG.of (pg_tup S.calm pgs_W b1 b2) ⟨_, _, rfl, Same.sqt a1.rel.sub hs, hl.symm, tgs_sound S tk D rfl h1 a1.rel (ev.mono a1.same a1.pre) (.cons (.d r1) (.cons (.d r2) (.cons (.x hx ra) .nil))) q1⟩
          · exact q1.elim
        · rename_i xs
          split at q1
          · rename_i hl
            obtain ⟨b1, b2⟩ := tgs_each (env := X.env) h1
            cases rx with | d rx =>
            cases rx with | tup hs ra =>
            exact WG.of (pg_tup S.calm pgs_W b1 b2) ⟨_, _, rfl, Same.sqt a1.rel.sub hs, by rw [ra.length]; exact hl, tgs_sound S tk D rfl h1 a1.rel (ev.mono a1.same a1.pre) (RepUs.of_all ra) q1⟩
          · exact q1.elim
        · exact q1.elim
      | _ => simp only [chkTup, Bool.false_eq_true] at hc
  | _ => simp only [chkS, Bool.false_eq_true] at hc
def starB : Expr → Bool
  | .Starred .. => true
  | _ => false
theorem starB_no {a : Expr} (h : ∀ z p, a ≠ .Starred z p) : starB a = false := by
  cases a with
  | Starred z p => exact absurd rfl (h z p)
  | _ => rfl
/-- two names at once -/
theorem sw_two {x y : Str} {px py : Pos} {kt k2 : Nat} {pt pt2 : Pos} {a b : Expr} {env : PySem.Env} (hb : env.blockKind = .function) (hx : env.kindOf x = some .local) (hy : env.kindOf y = some .local) (hxy : x ≠ y) (hl : px.line = py.line)
    (ha : ∀ z p, a ≠ .Starred z p) (hbb : ∀ z p, b ≠ .Starred z p) (f1 : [a, b].all (foldedForSure 8) = false) (f2 : [a, b].all (constantsAlone 8) = false) :
    swappedStores [.Tuple [.Name x px, .Name y py] kt pt] (.Tuple [a, b] k2 pt2) env = pure (some [x, y]) := by
  have st : ([a, b].any fun | .Starred .. => true | _ => false) = false := by
    have h1 := starB_no ha
    have h2 := starB_no hbb
    unfold starB at h1 h2
    rw [List.any_cons, List.any_cons, List.any_nil, h1, h2]; rfl
  have e1 : (env.kindOf x == some NameKind.local) = true := by rw [hx]; rfl
  have e2 : (env.kindOf y == some NameKind.local) = true := by rw [hy]; rfl
  have e3 : (px.line == px.line) = true := by simp
  have e4 : (py.line == px.line) = true := by rw [hl]; simp
  have yx : (y == x) = false := by simpa using fun h : y = x => hxy h.symm
  have dd : ([x, y] : List Str).eraseDups.length = 2 := by
    rw [List.eraseDups_cons, List.filter_cons, yx]
    simp [List.eraseDups_cons]
  unfold swappedStores
  simp only [hb, st, List.length_cons, List.length_nil, List.head?_cons, Option.map_some, Option.getD_some, Expr.pos, List.filterMap_cons, List.filterMap_nil, e1, e2, e3, e4, Bool.and_self, if_true, dd, f1, f2]
  have cond : ∀ {c : Prop} [Decidable c] {m n : Sem (Option (List Str))}, ¬c → (if c then m else n) = n := fun h => if_neg h
  rw [cond (by decide), cond (by intro h; exact absurd (st.symm.trans h) (by decide)), cond (by decide), cond (by decide), cond (by decide)]
theorem snd_par {is : List Nat} {es : Es} : SndS G W k cl (.par is es) := by
  intro X c x Wx S ps tk hc σ H P α Fr st ε r ev D q
  cases x with
  | Assign tgs v pos =>
    simp only [chkS] at hc
    unfold chkPar at hc
    split at hc
    · rename_i i j ts kt pt vs k2 pt2
      unfold par2 at hc
      split at hc
      · rename_i x px y py a b
        simp only [Bool.and_eq_true, decide_eq_true_eq, Bool.not_eq_true'] at hc
        obtain ⟨⟨⟨⟨⟨⟨⟨⟨⟨h1, h2⟩, h3⟩, h4⟩, h5⟩, h6⟩, h7⟩, h8⟩, h9⟩, h10⟩ := hc
        have hx : X.env.scope.names.lookup x = some .local := by rw [S.sc]; exact h5
        have hy : X.env.scope.names.lookup y = some .local := by rw [S.sc]; exact h6
        have hb : X.env.blockKind = .function := by
          have hk : X.env.scope.kind = .function := by rw [S.sc]; exact S.kind
          unfold PySem.Env.blockKind
          rw [hk]; rfl
        cases es with
        | nil => simp [chkEs] at h1
        | cons e1 es =>
          cases es with
          | nil => simp [chkEs] at h1
          | cons e2 es =>
            have h1' := h1
            simp only [chkEs, Bool.and_eq_true] at h1'
            refine WS.of (ps_par S.calm (by rw [S.hN]; exact S.nd) (by rw [S.hN]; exact isE_of h2) (by rw [S.hN]; exact isE_of h3) h4 hx hy pa_W (sw_two hb hx hy h7 h8 (chk_ns h1'.1) (chk_ns h1'.2.1) h9 h10) rfl) ?_
            unfold exS at q
            refine sndEs_of (snds_all _).fst X c _ Wx S tk h1 σ H P α Fr st ε r ev _ (FitS.bind ev q fun us st1 vs H1 P1 α1 e1 a1 ru q1 => ?_)
            split at q1
            · rename_i ε1 hs
              cases ru with
              | nil => simp [setEs] at hs
              | cons r1 ru =>
                cases ru with
                | nil => simp [setEs] at hs
                | cons r2 ru =>
                  cases ru with
                  | cons r3 ru => simp [setEs] at hs
                  | nil =>
                    simp only [setEs, Option.some.injEq] at hs
                    subst hs
                    exact ⟨_, _, rfl, q1 _ _ _ _ (Aft.refl a1.rel) (((ev.mono a1.same a1.pre).set r1 i).set r2 j)⟩
            · exact q1.elim
      · cases hc
    · cases hc
  | _ => simp only [chkS, Bool.false_eq_true] at hc
/-- three names at once -/
theorem sw_three {x y z : Str} {px py pz : Pos} {kt k2 : Nat} {pt pt2 : Pos} {a b d : Expr} {env : PySem.Env} (hb : env.blockKind = .function) (hx : env.kindOf x = some .local) (hy : env.kindOf y = some .local) (hz : env.kindOf z = some .local) (hxy : x ≠ y) (hxz : x ≠ z) (hyz : y ≠ z) (hl : px.line = py.line) (hl2 : px.line = pz.line)
    (ha : ∀ z p, a ≠ .Starred z p) (hbb : ∀ z p, b ≠ .Starred z p) (hd : ∀ z p, d ≠ .Starred z p) (f1 : [a, b, d].all (foldedForSure 8) = false) (f2 : [a, b, d].all (constantsAlone 8) = false) :
    swappedStores [.Tuple [.Name x px, .Name y py, .Name z pz] kt pt] (.Tuple [a, b, d] k2 pt2) env = pure (some [x, y, z]) := by
  have st : ([a, b, d].any fun | .Starred .. => true | _ => false) = false := by
    have h1 := starB_no ha
    have h2 := starB_no hbb
    have h3 := starB_no hd
    unfold starB at h1 h2 h3
    rw [List.any_cons, List.any_cons, List.any_cons, List.any_nil, h1, h2, h3]; rfl
  have e1 : (env.kindOf x == some NameKind.local) = true := by rw [hx]; rfl
  have e2 : (env.kindOf y == some NameKind.local) = true := by rw [hy]; rfl
  have e5 : (env.kindOf z == some NameKind.local) = true := by rw [hz]; rfl
  have e3 : (px.line == px.line) = true := by simp
  have e4 : (py.line == px.line) = true := by rw [hl]; simp
  have e6 : (pz.line == px.line) = true := by rw [hl2]; simp
  have yx : (y == x) = false := by simpa using fun h : y = x => hxy h.symm
  have zx : (z == x) = false := by simpa using fun h : z = x => hxz h.symm
  have zy : (z == y) = false := by simpa using fun h : z = y => hyz h.symm
  have dd : ([x, y, z] : List Str).eraseDups.length = 3 := by
    rw [List.eraseDups_cons, List.filter_cons, yx, List.filter_cons, zx]
    simp only [Bool.not_false, if_true, List.filter_nil]
    rw [List.eraseDups_cons, List.filter_cons, zy]
    simp [List.eraseDups_cons]
  unfold swappedStores
  simp only [hb, st, List.length_cons, List.length_nil, List.head?_cons, Option.map_some, Option.getD_some, Expr.pos, List.filterMap_cons, List.filterMap_nil, e1, e2, e3, e4, e5, e6, Bool.and_self, if_true, dd, f1, f2]
  have cond : ∀ {c : Prop} [Decidable c] {m n : Sem (Option (List Str))}, ¬c → (if c then m else n) = n := fun h => if_neg h
  rw [cond (by decide), cond (by intro h; exact absurd (st.symm.trans h) (by decide)), cond (by decide), cond (by decide), cond (by decide)]
theorem snd_par3 {is : List Nat} {es : Es} : SndS G W k cl (.par3 is es) := by
  intro X c x Wx S ps tk hc σ H P α Fr st ε r ev D q
  cases x with
  | Assign tgs v pos =>
    simp only [chkS] at hc
    unfold chkThree at hc
    split at hc
    · rename_i i j l ts kt pt vs k2 pt2
      unfold three at hc
      split at hc
      · rename_i x px y py z pz a b d
        simp only [Bool.and_eq_true, decide_eq_true_eq, Bool.not_eq_true'] at hc
        obtain ⟨⟨⟨⟨⟨⟨⟨⟨⟨⟨⟨⟨⟨⟨⟨⟨h1, h2⟩, h3⟩, h4⟩, h5⟩, h6⟩, h7⟩, h8⟩, h9⟩, h10⟩, h11⟩, h12⟩, h13⟩, h14⟩, h15⟩, h16⟩, h17⟩ := hc
        have hx : X.env.scope.names.lookup x = some .local := by rw [S.sc]; exact h8
        have hy : X.env.scope.names.lookup y = some .local := by rw [S.sc]; exact h9
        have hz : X.env.scope.names.lookup z = some .local := by rw [S.sc]; exact h10
        have hb : X.env.blockKind = .function := by
          have hk : X.env.scope.kind = .function := by rw [S.sc]; exact S.kind
          unfold PySem.Env.blockKind
          rw [hk]; rfl
        rcases es with _ | ⟨e1, _ | ⟨e2, _ | ⟨e3, es⟩⟩⟩ <;> first | (simp [chkEs] at h1; done) | skip
        · have h1' := h1
          simp only [chkEs, Bool.and_eq_true] at h1'
          refine WS.of (ps_par3 S.calm (by rw [S.hN]; exact S.nd) (by rw [S.hN]; exact isE_of h2) (by rw [S.hN]; exact isE_of h3) (by rw [S.hN]; exact isE_of h4) h5 h6 h7 hx hy hz pa_W (sw_three hb hx hy hz h11 h12 h13 h14 h15 (chk_ns h1'.1) (chk_ns h1'.2.1) (chk_ns h1'.2.2.1) h16 h17) rfl) ?_
          unfold exS at q
          refine sndEs_of (snds_all _).fst X c _ Wx S tk h1 σ H P α Fr st ε r ev _ (FitS.bind ev q fun us st1 vs H1 P1 α1 f1 a1 ru q1 => ?_)
          split at q1
          · rename_i ε1 hs
            rcases ru with _ | ⟨r1, _ | ⟨r2, _ | ⟨r3, _ | ⟨r4, ru⟩⟩⟩⟩ <;> first | (simp [setEs] at hs; done) | skip
            simp only [setEs, Option.some.injEq] at hs
            subst hs
            exact ⟨_, _, _, rfl, q1 _ _ _ _ (Aft.refl a1.rel) ((((ev.mono a1.same a1.pre).set r1 i).set r2 j).set r3 l)⟩
          · exact q1.elim
      · cases hc
    · cases hc
  | _ => simp only [chkS, Bool.false_eq_true] at hc
end
end Ev
end

section
set_option maxRecDepth 10000
set_option autoImplicit false
/-! EvO: the other statements; every statement. -/
namespace Ev
open PySem PySem.Spec PyProof.Rows L2
variable [Lams]

section
variable {G : Gm} {W k : Nat} {cl : Nat → Value}
theorem aug_sound {X : Cx} {P : Hp} {H : Hp} {op : Operator} {x y z : D} {vx vy : V} (hx : Rep X.K P vx x) (hy : Rep X.K P vy y) (e : augD op x y = some z) {Q : VK} (q : ∀ v, Rep X.K P v z → Q v H) : ∃ t, PIp X op t ∧ t vx vy H Q := by
  unfold augD at e
  split at e
  · cases hx; cases hy; cases e
    exact ⟨_, iop_add, _, _, rfl, rfl, q _ (.int _)⟩
  · cases hx; cases hy; cases e
    exact ⟨_, iop_sub, _, _, rfl, rfl, q _ (.int _)⟩
  · cases hx; cases hy
    split at e
    · rename_i h
      cases e
      exact ⟨_, iop_mul, _, _, rfl, rfl, cmul_of h, q _ (.int _)⟩
    · cases e
  · cases hx; cases hy
    split at e
    · rename_i h
      cases e
      exact ⟨_, iop_add_str, _, _, rfl, rfl, h, q _ (.str _)⟩
    · cases e
  · cases e
theorem snd_aug {i : Nat} {op : Operator} {e : E} : SndS G W k cl (.aug i op e) := by
  intro X c x Wx S ps tk hc σ H P α Fr st ε r ev D q
  cases x with
  | AugAssign tg o v pos =>
    cases tg with
    | Name n npos =>
      simp only [chkS, Bool.and_eq_true, decide_eq_true_eq] at hc
      obtain ⟨⟨rfl, h2⟩, h3⟩ := hc
      unfold stName at h2
      rw [Bool.and_eq_true] at h2
      obtain ⟨s1, s2⟩ := S.sv n h2.2
      unfold exS at q
      cases he : ε[i]? with
      | none => rw [he] at q; exact q.elim
      | some w =>
        cases w with
        | none => rw [he] at q; exact q.elim
        | some u =>
          cases u with
          | m _ => rw [he] at q; exact q.elim
          | f _ => rw [he] at q; exact q.elim
          | s _ => rw [he] at q; exact q.elim
          | d x =>
            rw [he] at q
            obtain ⟨vx, e1, rx⟩ := ev.at_ i _ he
            cases rx with | d rx =>
            have any : PIp X o (fun x y H Q => ∃ t, PIp X o t ∧ t x y H Q) := fun pins s σ H x y v u Q I r1 r2 ⟨t, h1, h2⟩ => h1 pins s σ H x y v u Q I r1 r2 h2
            refine WS.of (ps_aug (i := i) (by rw [S.hN]; exact S.nd) (by rw [S.hN]; exact isE_of h2.1) (by rw [S.sc]; exact s1) pe_W any (by rw [S.sc]; exact s2)) ⟨_, e1, ?_⟩
            refine (snd_all e).1 X c v Wx S tk h3 σ H P α Fr st ε r ev _ (FitS.bind ev q fun u st1 vy H1 P1 α1 e1 a1 ry q1 => ?_)
            cases u with
            | m _ => exact q1.elim
            | f _ => exact q1.elim
            | s _ => exact q1.elim
            | d y =>
              cases ry with | d ry =>
              cases hz : augD o x y with
              | none => simp only [hz] at q1; exact q1.elim
              | some z =>
                simp only [hz] at q1
                exact aug_sound (rx.mono a1.same) ry hz fun v rv => q1 _ _ _ _ (Aft.refl a1.rel) ((ev.mono a1.same a1.pre).set (.d rv) i)
    | _ => simp only [chkS, Bool.false_eq_true] at hc
  | _ => simp only [chkS, Bool.false_eq_true] at hc
/-- a test that a statement asks -/
theorem fitTS {K : PySem.W.Frag} {P : Hp} {α : List Addr} {Fr : Hp} {Wx : WX} {r : R U} {f : Bool → Store → RS} {D : Ends} {σ : L2.St} {ε : Env} {Q : Bool → Hp → Prop} (ev : EnvOk K P α σ ε)
    (h : FitS K G cl P α Fr Wx (r.bindS ε fun u st1 => match u with
      | .d (.bool true) => f true st1
      | .d (.bool false) => f false st1
      | _ => .stuck) D)
    (g : ∀ b st1 H1 P1 α1, Aft K P α Fr st1 H1 P1 α1 → FitS K G cl P1 α1 Fr Wx (f b st1) D → Q b H1) : FitR K G cl P α Fr (fun v d H' => Wx v d σ H') (fun _ _ v u => v = u) (r.bind toB) Q := by
  cases r with
  | ok u st1 =>
    cases u with
    | m n => exact h.elim
    | f h => exact h.elim
    | s z => exact h.elim
    | d x =>
      cases x with
      | bool b =>
        intro v' H1 P1 α1 a1 e
        subst e
        cases v' with
        | true => exact g true st1 H1 P1 α1 a1 (FitS.weak (r := f true st1) h a1)
        | false => exact g false st1 H1 P1 α1 a1 (FitS.weak (r := f false st1) h a1)
      | _ => exact h.elim
  | exc c x st' => exact fun H' P' α' d b q => h σ H' P' α' d b (ev.mono b.same b.pre) q
  | stuck => exact h
theorem snd_ifs {t : E} {a b : Ss} (ha : SndSs G W k cl a) (hb : SndSs G W k cl b) : SndS G W k cl (.ifs t a b) := by
  intro X c x Wx S ps tk hc σ H P α Fr st ε r ev D q
  cases x with
  | If t' a' b' pos =>
    simp only [chkS, Bool.and_eq_true] at hc
    obtain ⟨⟨h1, h2⟩, h3⟩ := hc
    refine WS.of (ps_if pt_W pss_W pss_W) ?_
    unfold exS at q
    refine (snd_all t).2 X c t' Wx S tk h1 σ H P α Fr st ε r ev _ (fitTS (f := fun b0 st1 => if b0 = true then exSs G W (cpK G W k) (cmK G W k) a ε st1 else exSs G W (cpK G W k) (cmK G W k) b ε st1) ev q fun b0 st1 H1 P1 α1 a1 q1 => ?_)
    cases b0 with
    | true => exact ha X c a' Wx S ps tk h2 σ H1 P1 α1 Fr st1 ε a1.rel (ev.mono a1.same a1.pre) D q1
    | false => exact hb X c b' Wx S ps tk h3 σ H1 P1 α1 Fr st1 ε a1.rel (ev.mono a1.same a1.pre) D q1
  | _ => simp only [chkS, Bool.false_eq_true] at hc
/-- a loop's body -/
theorem fit_body {K : PySem.W.Frag} {P : Hp} {α : List Addr} {Fr : Hp} {Wx : WX} {r : RS} {F : Env → Store → RS} {D : Ends} {N : L2.St → Hp → Prop}
    (h : FitS K G cl P α Fr Wx (match r with
      | .nx ε2 st2 => F ε2 st2
      | .cnt ε2 st2 => F ε2 st2
      | .brk ε2 st2 => .nx ε2 st2
      | r => r) D)
    (g : ∀ ε2 st2 σ' H' P' α', Aft K P α Fr st2 H' P' α' → EnvOk K P' α' σ' ε2 → FitS K G cl P' α' Fr Wx (F ε2 st2) D → N σ' H') : FitS K G cl P α Fr Wx r { D with nx := N, ct := N, bk := D.nx } := by
  cases r with
  | nx ε2 st2 => exact fun σ' H' P' α' a ev => g ε2 st2 σ' H' P' α' a ev (FitS.weak (r := F ε2 st2) h a)
  | cnt ε2 st2 => exact fun σ' H' P' α' a ev => g ε2 st2 σ' H' P' α' a ev (FitS.weak (r := F ε2 st2) h a)
  | brk ε2 st2 => exact h
  | ret => exact h
  | exc => exact h
  | stuck => exact h
theorem chk_nost {c : Ct} {e : E} {a : Expr} (h : chkE G c e a = true) : ∀ x y p, a ≠ .Set x y p := fun x y p w => by
  subst w
  cases e <;> simp [chkE, dictShape, repShape, gen2, isVarE] at h
theorem fold_no {iter : Expr} {env : PySem.Env} (h : ∀ x y p, iter ≠ .Set x y p) (v : Value) : foldedSetIterable iter env v = pure v := by
  cases iter with
  | Set x y p => exact absurd rfl (h x y p)
  | _ => rfl
theorem it_noset {c : Ct} {ik : Ik} {its : Es} {iter t : Expr} (hsh : itShape ik iter t c.sc G.bts = true) (hc : chkEs G c its (itArgs ik iter) = true) : ∀ x y p, iter ≠ .Set x y p := fun x y p w => by
  subst w
  cases ik with
  | val =>
    cases its with
    | nil => simp [itArgs, chkEs] at hc
    | cons e es =>
      simp only [itArgs, chkEs, Bool.and_eq_true] at hc
      exact chk_nost hc.1 _ _ _ rfl
  | _ => simp [itShape] at hsh
theorem snd_for {t : Tn} {ik : Ik} {its : Es} {body : Ss} (hb : SndSs G W k cl body) : SndS G W k cl (.for_ t ik its body) := by
  intro X c x Wx S ps tk hc σ H P α Fr st ε r ev D q
  cases x with
  | For tg iter b orelse pos =>
    cases orelse with
    | cons => simp only [chkS, Bool.false_eq_true] at hc
    | nil =>
      simp only [chkS, Bool.and_eq_true] at hc
      obtain ⟨⟨⟨h1, h2⟩, h3⟩, h4⟩ := hc
      unfold exS at q
      refine WS.of (ps_for ps S.calm pi_W pg_W pss_W (fold_no (it_noset h2 h3))) ?_
      refine iter_sound S tk h2 h3 (snds_all its).fst r ev (FitS.bind (repA := fun P' _ J items => Walk X.K P' J items) ev q fun items st1 J H1 P1 α1 e1 a1 wk q1 => ?_)
      refine ⟨fun i m σ' H' => m = items.length - i ∧ i ≤ items.length ∧ ∃ P2 α2 st2 ε2, Rel X.K P2 α2 Fr st2 H' ∧ Same P1 P2 ∧ EnvOk X.K P2 α2 σ' ε2 ∧ FitS X.K G cl P2 α2 Fr Wx (forLoop (setTn t) (fun ε1 st2 => exSs G W (cpK G W k) (cmK G W k) body ε1 st2) (items.drop i) ε2 st2) D, ⟨_, rfl, Nat.zero_le _, P1, α1, st1, ε, a1.rel, Same.refl _, ev.mono a1.same a1.pre, q1⟩, ?_⟩
      rintro i m σ2 H2 ⟨rfl, hi, P2, α2, st2, ε2, r2, s2, ev2, q2⟩
      by_cases hlt : i < items.length
      · refine .inr ?_
        have hd : items.drop i = items[i] :: items.drop (i + 1) := List.drop_eq_getElem_cons hlt
        obtain ⟨go, yl⟩ := wk.go i items[i] H2 P2 α2 Fr st2 (List.getElem?_eq_getElem hlt) s2 r2
        refine ⟨go, _, fun _ _ z => z, fun x H3 y => ?_⟩
        obtain ⟨P3, a3, ru⟩ := yl x H3 y
        rw [hd] at q2
        unfold forLoop at q2
        split at q2
        · exact q2.elim
        · rename_i ε3 hs3
          refine tn_sound S a3.rel h1 ru hs3 (ev2.mono a3.same a3.pre) fun σ4 ev4 _ _ => ?_
          refine hb X c b Wx S ps tk h4 σ4 H3 P3 α2 Fr st2 ε3 a3.rel ev4 _ (fit_body (FitS.weak q2 a3) fun ε5 st5 σ5 H5 P5 α5 a5 ev5 q5 => ?_)
          exact ⟨_, by omega, rfl, hlt, P5, α5, st5, ε5, a5.rel, (s2.trans a3.same).trans a5.same, ev5, q5⟩
      · have : i = items.length := by omega
        subst this
        refine .inl ⟨wk.stop H2 P2 α2 Fr st2 s2 r2, ?_⟩
        rw [List.drop_length] at q2
        unfold forLoop at q2
        exact q2 _ _ _ _ (Aft.refl r2) ev2
  | _ => simp only [chkS, Bool.false_eq_true] at hc
theorem snd_whil {t : E} {body : Ss} (hb : SndSs G W k cl body) : SndS G W k cl (.whil t body) := by
  intro X c x Wx S ps tk hc σ H P α Fr st ε r ev D q
  cases x with
  | While t' b orelse pos =>
    cases orelse with
    | cons => simp only [chkS, Bool.false_eq_true] at hc
    | nil =>
      simp only [chkS, Bool.and_eq_true] at hc
      obtain ⟨h1, h2⟩ := hc
      unfold exS at q
      refine WS.of (ps_while ps pt_W pss_W) ?_
      refine ⟨fun m σ' H' => ∃ P2 α2 st2 ε2, Rel X.K P2 α2 Fr st2 H' ∧ EnvOk X.K P2 α2 σ' ε2 ∧ FitS X.K G cl P2 α2 Fr Wx (whileLoop (fun ε1 st1 => evE G (cpK G W k) (cmK G W k) t ε1 st1) (fun ε1 st2 => exSs G W (cpK G W k) (cmK G W k) body ε1 st2) m ε2 st2) D, ⟨W, P, α, st, ε, r, ev, q⟩, ?_⟩
      rintro m σ2 H2 ⟨P2, α2, st2, ε2, r2, ev2, q2⟩
      cases m with
      | zero => unfold whileLoop at q2; exact q2.elim
      | succ m =>
        unfold whileLoop at q2
        refine (snd_all t).2 X c t' Wx S tk h1 σ2 H2 P2 α2 Fr st2 ε2 r2 ev2 _ (fitTS (f := fun b0 st1 => if b0 = true then (match exSs G W (cpK G W k) (cmK G W k) body ε2 st1 with
            | .nx ε2 st2 => whileLoop (fun ε1 st1 => evE G (cpK G W k) (cmK G W k) t ε1 st1) (fun ε1 st2 => exSs G W (cpK G W k) (cmK G W k) body ε1 st2) m ε2 st2
            | .cnt ε2 st2 => whileLoop (fun ε1 st1 => evE G (cpK G W k) (cmK G W k) t ε1 st1) (fun ε1 st2 => exSs G W (cpK G W k) (cmK G W k) body ε1 st2) m ε2 st2
            | .brk ε2 st2 => .nx ε2 st2
            | r => r) else .nx ε2 st1) ev2 q2 fun b0 st3 H3 P3 α3 a3 q3 => ?_)
        cases b0 with
        | true =>
          refine ⟨_, fun _ _ z => z, ?_⟩
          refine hb X c b Wx S ps tk h2 σ2 H3 P3 α3 Fr st3 ε2 a3.rel (ev2.mono a3.same a3.pre) _ (fit_body q3 fun ε5 st5 σ5 H5 P5 α5 a5 ev5 q5 => ?_)
          exact ⟨m, Nat.lt_succ_self _, P5, α5, st5, ε5, a5.rel, ev5, q5⟩
        | false => exact q3 _ _ _ _ (Aft.refl a3.rel) (ev2.mono a3.same a3.pre)
  | _ => simp only [chkS, Bool.false_eq_true] at hc
theorem snd_pass : SndS G W k cl .pass := by
  intro X c x Wx S ps tk hc σ H P α Fr st ε r ev D q
  cases x with
  | Pass pos => unfold exS at q; exact WS.of ps_pass (q _ _ _ _ (Aft.refl r) ev)
  | _ => simp only [chkS, Bool.false_eq_true] at hc
theorem snd_brk : SndS G W k cl .brk := by
  intro X c x Wx S ps tk hc σ H P α Fr st ε r ev D q
  cases x with
  | Break pos => unfold exS at q; exact WS.of ps_break (q _ _ _ _ (Aft.refl r) ev)
  | _ => simp only [chkS, Bool.false_eq_true] at hc
theorem snd_cnt : SndS G W k cl .cnt := by
  intro X c x Wx S ps tk hc σ H P α Fr st ε r ev D q
  cases x with
  | Continue pos => unfold exS at q; exact WS.of ps_continue (q _ _ _ _ (Aft.refl r) ev)
  | _ => simp only [chkS, Bool.false_eq_true] at hc
theorem snd_retN : SndS G W k cl .retN := by
  intro X c x Wx S ps tk hc σ H P α Fr st ε r ev D q
  cases x with
  | Return v pos =>
    cases v with
    | some y => simp only [chkS, Bool.false_eq_true] at hc
    | none => unfold exS at q; exact WS.of ps_retN (q _ _ _ _ (Aft.refl r) (.d .non))
  | _ => simp only [chkS, Bool.false_eq_true] at hc
theorem snd_never : SndS G W k cl .never := by
  intro X c x Wx S ps tk hc σ H P α Fr st ε r ev D q
  unfold exS at q
  exact q.elim
theorem snd_ghost {i : Nat} : SndS G W k cl (.freeze i) := by
  intro X c x Wx S ps tk hc σ H P α Fr st ε r ev D q
  cases x <;> simp only [chkS, Bool.false_eq_true] at hc
/-- a ghost changes the store, and nothing of the machine -/
theorem freeze_step {X : Cx} {i : Nat} {ss : Ss} {Wx : WX} {σ : L2.St} {H P : Hp} {α : List Addr} {Fr : Hp} {st : Store} {ε : Env} (r : Rel X.K P α Fr st H) (ev : EnvOk X.K P α σ ε) {D : Ends}
    (q : FitS X.K G cl P α Fr Wx (exSs G W (cpK G W k) (cmK G W k) (.cons (.freeze i) ss) ε st) D) :
    ∃ P1 st1 ε1, Rel X.K P1 α Fr st1 H ∧ EnvOk X.K P1 α σ ε1 ∧ FitS X.K G cl P1 α Fr Wx (exSs G W (cpK G W k) (cmK G W k) ss ε1 st1) D := by
  unfold exSs at q
  unfold exS at q
  cases he : ε[i]? with
  | none => rw [he] at q; exact q.elim
  | some w =>
    cases w with
    | none => rw [he] at q; exact q.elim
    | some u =>
      cases u with
      | d x => rw [he] at q; exact q.elim
      | f h => rw [he] at q; exact q.elim
      | s z => rw [he] at q; exact q.elim
      | m n =>
        rw [he] at q
        cases hs : st[n]? with
        | none => simp only [hs] at q; exact q.elim
        | some cell =>
          cases cell with
          | dead => simp only [hs] at q; exact q.elim
          | lst us =>
            cases ht : toDs us with
            | none => simp only [hs, ht] at q; exact q.elim
            | some ds =>
              simp only [hs, ht] at q
              obtain ⟨v, e1, rv⟩ := ev.at_ i _ he
              cases rv with | m rv =>
              obtain ⟨vs, _, a, rr⟩ := r.freeze rv hs ht
              have ev1 := ev.mono a.same a.pre
              refine ⟨_, _, _, a.rel, ⟨?_, ?_⟩, FitS.weak q a⟩
              · rw [ev1.len]; simp [setE]
              · intro j w hj
                by_cases hij : i = j
                · subst hij
                  have hi : i < ε.length := (List.getElem?_eq_some_iff.mp he).1
                  unfold setE at hj
                  rw [List.getElem?_set_self hi] at hj
                  cases hj
                  exact ⟨_, e1, .d rr⟩
                · unfold setE at hj
                  rw [List.getElem?_set_ne hij] at hj
                  exact ev1.at_ j w hj
theorem snds_nil : SndSs G W k cl .nil := by
  intro X c xs Wx S ps tk hc σ H P α Fr st ε r ev D q
  cases xs with
  | nil => unfold exSs at q; exact WSs.of pss_nil (q _ _ _ _ (Aft.refl r) ev)
  | cons => simp [chkSs] at hc
theorem snds_cons {s : S} {ss : Ss} (h1 : SndS G W k cl s) (h2 : SndSs G W k cl ss) : SndSs G W k cl (.cons s ss) := by
  intro X c xs Wx S ps tk hc σ H P α Fr st ε r ev D q
  unfold chkSs at hc
  by_cases hg : isGhost s = true
  · rw [if_pos hg] at hc
    cases s with
    | freeze i =>
      obtain ⟨P1, st1, ε1, r1, ev1, q1⟩ := freeze_step r ev q
      exact h2 X c xs Wx S ps tk hc σ H P1 α Fr st1 ε1 r1 ev1 D q1
    | _ => cases hg
  · rw [if_neg hg] at hc
    cases xs with
    | nil => cases hc
    | cons x xs =>
      simp only [Bool.and_eq_true] at hc
      refine WSs.of (pss_cons ps_W pss_W) ?_
      refine h1 X c x Wx S ps tk hc.1 σ H P α Fr st ε r ev _ ?_
      unfold exSs at q
      cases hr : exS G W (cpK G W k) (cmK G W k) s ε st with
      | nx ε1 st1 =>
        rw [hr] at q
        intro σ' H' P' α' a ev'
        exact h2 X c xs Wx S ps tk hc.2 σ' H' P' α' Fr st1 ε1 a.rel ev' D (FitS.weak q a)
      | ret => rw [hr] at q; exact q
      | brk => rw [hr] at q; exact q
      | cnt => rw [hr] at q; exact q
      | exc => rw [hr] at q; exact q
      | stuck => rw [hr] at q; exact q
mutual
theorem sndS_all : ∀ s : S, SndS G W k cl s
  | .pass => snd_pass
  | .ret _ => snd_ret
  | .retN => snd_retN
  | .asg _ _ => snd_asg
  | .tup _ _ => snd_tupS
  | .par _ _ => snd_par
  | .par3 _ _ => snd_par3
  | .aug _ _ _ => snd_aug
  | .ex _ => snd_ex
  | .ifs _ a b => snd_ifs (sndSs_all a) (sndSs_all b)
  | .for_ _ _ _ b => snd_for (sndSs_all b)
  | .whil _ b => snd_whil (sndSs_all b)
  | .brk => snd_brk
  | .cnt => snd_cnt
  | .never => snd_never
  | .freeze _ => snd_ghost
theorem sndSs_all : ∀ ss : Ss, SndSs G W k cl ss
  | .nil => snds_nil
  | .cons s ss => snds_cons (sndS_all s) (sndSs_all ss)
end
end
end Ev
end

section
set_option maxRecDepth 10000
set_option autoImplicit false
/-! EvP: every def keeps its promise; the head of a law. -/
namespace Ev
open PySem PySem.Spec PyProof.Rows L2
variable [Lams]

section
variable {P : Program} {w : World} {K : PySem.W.Frag} {mg : Str → Option Value} {base : Heap}
/-- a def's promise from its body, where nothing is being shown -/
theorem fng_of {k : Nat} {f : Addr} {name qual : Str} {params : Arguments} {body : List Stmt} {scope : Scope} {dV kV doc pm cdv ct oc : Value} {an od : Option Addr} {osl : Array (Option Value)} {N ps : List Str} {sp : Sp}
    (there : K.lookup f = some ⟨oc, od, .func (PySem.W.fnOf name qual params body scope dV kV doc pm an cdv ct), osl⟩) (code : PySem.W.codeIn K cdv qual = true) (S : FnScope N ps scope) (many : ∀ vs H Q E, sp vs H Q E → vs.length = ps.length)
    (run : ∀ (A : Around) (outer : List PySem.Env) (s : Shared) (H : Hp) (vs : List V) (Q : VK) (E : XK), Room k (A.deeper (envOfC qual scope s.heap.objs.size f cdv)) → A.guards = some [] → sp vs H Q E →
      WSs (cxOf (L2.CX P w) P w K mg base N qual scope f cdv A outer s H E) body { nx := fun _ H' => Q .non H', rt := Q } (L2.start N vs) H) :
    FnG P w K mg base (k + 1) f (PySem.W.fnOf name qual params body scope dV kV doc pm an cdv ct) ps sp := by
  refine ⟨many, fun A outer s H args us vs Q E room quiet at0 binds rel wish => ?_⟩
  have same0 : ∀ b o, base.get? b = some o → s.heap.get? b = some o := fun b o e => (at0.bs b o e).1
  have here : K.In s.heap := at0.mod.kin.keeps same0
  have free : s.heap.NoLimit := at0.mod.nolimit.keeps same0
  have kinds : ∀ y ∈ ps.zip us, scope.names.lookup y.1 = some .local ∨ (scope.names.lookup y.1 = some .cell ∧ ((cellsFrom (s.heap.objs.size + 1) scope.names []).lookup y.1).isSome = true) := by
    rintro ⟨n, v⟩ hy
    exact (S.par n (List.of_mem_zip hy).1).imp id fun q => ⟨q, PySem.W.cellsFrom_some _ _ _ (.inl q)⟩
  refine codeAny_call_function room.depth (here _ _ there) rfl S.co S.gen rfl (PySem.W.codeRec_of here code) (binds _ _ _ _ ?_)
  refine wpAny_newFunctionEnv_cells S.kind kinds fun env he s1 inside => ?_
  subst he
  refine ⟨free.keeps inside.toInCall.keep, codeAny_func ?_⟩
  have I := inv_start (CX := L2.CX P w) (cd := cdv) (E := E) S room.hd at0 (many _ _ _ _ wish) rel inside
  refine wpAny_mono (run A outer s H vs Q E (room.deeper _) quiet wish [] s1 I) (fun fl s' z => ?_) fun e s' z => z
  cases fl with
  | brk => exact z.elim fun _ y => y.elim fun _ x => x.2.elim
  | cont => exact z.elim fun _ y => y.elim fun _ x => x.2.elim
  | next =>
    obtain ⟨σ', H', J, q⟩ := z
    exact ⟨V.non, H', J.os, J.bare, J.base, J.hok, rfl, q⟩
  | ret u =>
    obtain ⟨v, σ', H', J, rv, q⟩ := z
    exact ⟨v, H', J.os, J.bare, J.base, J.hok, rv, q⟩

/-- what the top has left of a def -/
structure Known (K : PySem.W.Frag) (mg : Str → Option Value) (G : Gm) (tabs : List (Addr × Addr × Str)) (F : Fn) : Prop where
  ex : ∃ (a : Addr) (st : Stmt) (oc : Value) (od : Option Addr) (dV kV doc pm : Value) (an : Option Addr) (cdv ct : Value) (osl : Array (Option Value)),
    mg F.name = some (.ref a) ∧ PySem.W.keepIn K (.ref a) = true ∧ K.lookup a = some ⟨oc, od, .func (PySem.W.fnOf F.name F.name (defArgs st) (defBody st) (defScope st) dV kV doc pm an cdv ct), osl⟩ ∧ PySem.W.codeIn K cdv F.name = true ∧
    FnScope F.N F.ps (defScope st) ∧ chkSs G ⟨F.N, defScope st, fun x => locB (defScope st) x, F.lm⟩ F.body (defBody st) = true ∧
    (F.lm = true → ∃ c0 P0, cdv = .ref c0 ∧ (c0, P0, (F.name ++ (".<locals>." : Str)) ++ ("<lambda>" : Str)) ∈ tabs) ∧
    (∀ j, j ≤ F.dfl.length → ∃ (ds : List Value) (vs : List V), Binds K (PySem.W.fnOf F.name F.name (defArgs st) (defBody st) (defScope st) dV kV doc pm an cdv ct) F.ps ds ∧ Vals vs ds ∧ RepAll K (fun _ => none) vs (F.dfl.drop (F.dfl.length - j))) ∧
    ∀ p ∈ F.kss, ∀ (s : Shared) (ws vs : List Value), K.In s.heap → ws.length = p.1.length → pick ws p.2 = some vs → BindsTo s (PySem.W.fnOf F.name F.name (defArgs st) (defBody st) (defScope st) dV kV doc pm an cdv ct) ⟨[], (p.1.filterMap (F.ps[·]?)).zip ws⟩ (F.ps.zip vs)
structure Knows (K : PySem.W.Frag) (mg : Str → Option Value) (G : Gm) (tabs : List (Addr × Addr × Str)) : Prop where
  fn : ∀ (f : Nat) F, G.fns[f]? = some F → F.name ≠ (("<lambda>" : Str)) → Known K mg G tabs F
  con : ∀ (g : Nat) p, G.consts[g]? = some p → ∃ u v, mg p.1 = some u ∧ RelV v u ∧ Rep K (fun _ => none) v p.2
  bt : ∀ x ∈ G.bts, mg x = none

theorem start_env {P0 : Hp} {α : List Addr} {F : Fn} {vs : List V} {us : List U} (r : RepUs K P0 α vs us) (hl : vs.length ≤ F.N.length) : EnvOk K P0 α (L2.start F.N vs) (startE F us) := by
  have hlen := Paired.length r
  refine ⟨?_, fun i u e => ?_⟩
  · unfold L2.start startE
    simp only [List.length_append, List.length_map, List.length_replicate]
    omega
  · unfold startE at e
    by_cases hi : i < us.length
    · rw [List.getElem?_append_left (by rw [List.length_map]; exact hi), List.getElem?_map] at e
      cases hu : us[i]? with
      | none => rw [hu] at e; cases e
      | some u' =>
        rw [hu] at e
        cases e
        obtain ⟨v, e1, e2⟩ := pget r hu
        refine ⟨v, ?_, e2⟩
        unfold L2.start
        rw [List.getElem?_append_left (by rw [List.length_map]; exact (List.getElem?_eq_some_iff.mp e1).1), List.getElem?_map, e1]
        rfl
    · rw [List.getElem?_append_right (by rw [List.length_map]; omega), List.getElem?_replicate] at e
      split at e <;> cases e
theorem fit_fin {G : Gm} {cl : Nat → Value} {P0 : Hp} {α : List Addr} {Fr : Hp} {E : XK} {r : RS} {Q : VK} (h : FitR K G cl P0 α Fr E (RepU K) (fin r) Q) : FitS K G cl P0 α Fr (fun cls d _ H => E cls d H) r { nx := fun _ H' => Q .non H', rt := Q } := by
  cases r with
  | nx ε st => exact fun σ' H' P' α' a _ => h .non H' P' α' a (.d .non)
  | ret u st => exact h
  | brk => exact h.elim
  | cnt => exact h.elim
  | exc c x ε st => exact fun σ' H' P' α' d a _ z => h H' P' α' d a z
  | stuck => exact h
omit [Lams] in
theorem bind_one {q : Str} {ar : Arg} {body : Expr} {scope : Scope} {pm cdv ctv v : Value} : bindArgs (PySem.W.kla_fn "<lambda>" q ⟨[], [ar], none, [], [], none, []⟩ body scope [] pm cdv ctv) ⟨[v], []⟩ = pure [(ar.arg, v)] := by
  unfold bindArgs
  simp [seqItems?]
  rfl
/-- a lambda's promise from its body -/
theorem fnl_of {G : Gm} {cl : Nat → Value} {k i g : Nat} {F : Fn} (hi : G.lams[i]? = some g) (hF : G.fns[g]? = some F)
    (run : ∀ (A : Around) (outer : List PySem.Env) (s : Shared) (H : Hp) (vs : List V) (Q : VK) (E : XK) (a c : Addr) (q : Str) (body : Expr) (scope : Scope) (e : Ev.E), Room k (A.deeper (envOfC q scope s.heap.objs.size a (.ref c))) → A.guards = some [] → FnScope F.N F.ps scope → retOf F.body = some e → chkE G (lamCt G i scope) e body = true → spec K G cl (k + 1) g F.ps vs H Q E →
      WE (cxOf (L2.CX P w) P w K mg base F.N q scope a (.ref c) A outer s H E) body (L2.start F.N vs) H Q) :
    FnL P w K mg base G cl (k + 1) i g F := by
  refine ⟨fun A outer s H us vs Q E a c q params body scope pm ctv room quiet at0 rel hb ha hc wish => ?_⟩
  obtain ⟨e, b1, b2⟩ := hb
  obtain ⟨g', F', f1, f2, f3, f4, f5, f6, f7, f8, f9⟩ := head_of b1
  rw [hi] at f1
  cases f1
  rw [hF] at f2
  cases f2
  obtain ⟨S, loc, nofree⟩ := scope_of f5
  have same0 : ∀ b o, base.get? b = some o → s.heap.get? b = some o := fun b o e => (at0.bs b o e).1
  have free : s.heap.NoLimit := at0.mod.nolimit.keeps same0
  have obj : s.heap.get? a = some (lamO q params body scope pm c ctv) := (at0.hok a _ ha).1
  obtain ⟨⟨oc, ws, t, hoc, hdc, hvc⟩, _, _⟩ := at0.hok c _ hc
  have len := wish.1
  obtain ⟨x, hx⟩ : ∃ x, F.ps = [x] := by
    match hps : F.ps, f6 with
    | [x], _ => exact ⟨x, rfl⟩
  have hx0 : onePar params = some x := by rw [f7, hx]; rfl
  obtain ⟨v, hv⟩ : ∃ v, us = [v] := by
    have l1 := rel.length
    rw [len, hx] at l1
    match us, l1 with
    | [v], _ => exact ⟨v, rfl⟩
  have bind : bindArgs (PySem.W.kla_fn "<lambda>" q params body scope [] pm (.ref c) ctv) ⟨us, []⟩ = pure (F.ps.zip us) := by
    rw [hv, hx]
    unfold onePar at hx0
    split at hx0
    · rename_i ar
      cases hx0
      exact bind_one
    · cases hx0
  have kinds : ∀ y ∈ F.ps.zip us, scope.names.lookup y.1 = some .local ∨ (scope.names.lookup y.1 = some .cell ∧ ((cellsFrom (s.heap.objs.size + 1) scope.names []).lookup y.1).isSome = true) := by
    rintro ⟨n, u⟩ hy
    exact .inl (loc n (List.of_mem_zip hy).1)
  refine PySem.W.kla_callFunE room.depth obj rfl S.co S.gen rfl ⟨c, oc, ws, t, rfl, hoc, hdc, hvc⟩ ?_
  show wpAny _ _ (bindArgs (PySem.W.kla_fn "<lambda>" q params body scope [] pm (.ref c) ctv) ⟨us, []⟩) _ _ _
  rw [bind]
  refine wpAny_pure (wpAny_newFunctionEnv_cells S.kind kinds fun env he s1 inside => ?_)
  subst he
  refine ⟨free.keeps inside.toInCall.keep, ?_⟩
  have I := inv_start (CX := L2.CX P w) (cd := .ref c) (E := E) (qual := q) (f := a) S room.hd at0 len rel inside
  refine PySem.W.kla_codeExpr (wpAny_mono (run A outer s H vs Q E a c q body scope e (room.deeper _) quiet S f4 b2 wish [] s1 I) (fun u s' z => ?_) fun e' s' z => z)
  obtain ⟨v', H', J, rv, q'⟩ := z
  exact ⟨v', H', J.os, J.bare, J.base, J.hok, rv, q'⟩
theorem fit_ret {G : Gm} {cl : Nat → Value} {P0 : Hp} {α : List Addr} {Fr : Hp} {Wx : Value → Option Addr → Hp → Prop} {r : R U} {ε : Env} {Q : VK} (h : FitR K G cl P0 α Fr Wx (RepU K) (fin (match r.bindS ε fun u st1 => RS.ret u st1 with | .nx ε1 st1 => .nx ε1 st1 | r => r)) Q) : FitR K G cl P0 α Fr Wx (RepU K) r Q := by
  cases r with
  | ok u st => exact h
  | exc c x st => exact h
  | stuck => exact h
/-- every def keeps its promise, so deep; every lambda, too -/
theorem all_fn {G : Gm} {cl : Nat → Value} (hG : Lams.G = G) (hmg : Lams.mg = mg) (TB : ∀ t ∈ Lams.tabs, LamX.TabB base mg t.1 t.2.1) (T : Knows K mg G Lams.tabs) : ∀ (k : Nat), (∀ (f : Nat) (F : Fn), G.fns[f]? = some F → F.name ≠ (("<lambda>" : Str)) → FnIn P w K mg base G cl k f F) ∧ ∀ i g F, G.lams[i]? = some g → G.fns[g]? = some F → FnL P w K mg base G cl k i g F := by
  intro k
  induction k with
  | zero =>
    refine ⟨fun f F hF hn => ?_, fun i g F hi hF => ⟨fun A outer s H us vs Q E a c q params body scope pm ctv _ _ _ _ _ _ _ z => ?_⟩⟩
    · obtain ⟨a, st, oc, od, dV, kV, doc, pm, an, cdv, ct, osl, h1, h2, h3, h4, h5, h6, hm, h7, h8⟩ := (T.fn f F hF hn).ex
      refine ⟨a, _, h1, h2, ⟨fun _ _ _ _ z => z.1, fun A outer s H args us vs Q E _ _ _ _ _ z => ?_⟩, h7, h8⟩
      obtain ⟨_, W, P0, α, Fr, st0, us0, _, _, q⟩ := z
      exact q.elim
    · obtain ⟨_, W, P0, α, Fr, st0, us0, _, _, q⟩ := z
      exact q.elim
  | succ k ih =>
    refine ⟨fun f F hF hn => ?_, fun i g F hi hF => fnl_of hi hF fun A outer s H vs Q E a c q body scope e room quiet S hb hchk z => ?_⟩
    · obtain ⟨a, st, oc, od, dV, kV, doc, pm, an, cdv, ct, osl, h1, h2, h3, h4, h5, h6, hm, h7, h8⟩ := (T.fn f F hF hn).ex
      refine ⟨a, _, h1, h2, fng_of h3 h4 h5 (fun _ _ _ _ z => z.1) fun A outer s H vs Q E room quiet z => ?_, h7, h8⟩
      obtain ⟨hl, W, P0, α, Fr, st0, us, r, ru, q⟩ := z
      have hle : F.ps.length ≤ F.N.length := by
        have := congrArg List.length h5.pre
        rw [List.length_take] at this
        omega
      have hus : us.length = F.ps.length := by rw [← Paired.length ru]; exact hl
      unfold callRaw at q
      rw [hF] at q
      simp only [fill_full hus] at q
      rw [if_pos hus] at q
      have sta : Sta G cl k (cxOf (L2.CX P w) P w K mg base F.N F.name (defScope st) a cdv A outer s H E) ⟨F.N, defScope st, fun x => locB (defScope st) x, F.lm⟩ :=
        { hN := rfl, nd := h5.nd, sc := rfl, kind := h5.kind, calm := rfl, room := room, guards := quiet, sv := fun x hx => ⟨loc_of hx, .inl rfl⟩, fn := ih.1, con := T.con, bt := T.bt, hG := hG, hmg := hmg, lam := ih.2,
          tab := fun hx => by
            obtain ⟨c0, P0, e1, e2⟩ := hm hx
            exact ⟨c0, P0, e1, TB _ e2, e2⟩ }
      exact sndSs_all F.body _ _ _ (fun cls d _ H => E cls d H) sta (passes_of rfl) (takes_of rfl rfl rfl rfl) h6 _ _ _ _ _ _ _ r (start_env ru (by omega)) _ (fit_fin q)
    · obtain ⟨hl, W, P0, α, Fr, st0, us, r, ru, q'⟩ := z
      have hle : F.ps.length ≤ F.N.length := by
        have := congrArg List.length S.pre
        rw [List.length_take] at this
        omega
      have hus : us.length = F.ps.length := by rw [← Paired.length ru]; exact hl
      unfold callRaw at q'
      rw [hF] at q'
      simp only [fill_full hus] at q'
      rw [if_pos hus] at q'
      have ec : lamCt G i scope = ⟨F.N, scope, fun x => locB scope x, false⟩ := by
        unfold lamCt lamFn
        rw [hi]
        simp only [hF]
      rw [ec] at hchk
      have sta : Sta G cl k (cxOf (L2.CX P w) P w K mg base F.N q scope a (.ref c) A outer s H E) ⟨F.N, scope, fun x => locB scope x, false⟩ :=
        { hN := rfl, nd := S.nd, sc := rfl, kind := S.kind, calm := rfl, room := room, guards := quiet, sv := fun x hx => ⟨loc_of hx, .inl rfl⟩, fn := ih.1, con := T.con, bt := T.bt, hG := hG, hmg := hmg, lam := ih.2, tab := fun hx => nomatch hx }
      have hbody : F.body = .cons (.ret e) .nil := by
        unfold retOf at hb
        split at hb
        · cases hb; assumption
        · cases hb
      rw [hbody] at q'
      have q2 : FitR K G cl P0 α Fr E (RepU K) (evE G (cpK G W k) (cmK G W k) e (startE F us) st0) Q := by
        refine fit_ret (ε := startE F us) ?_
        unfold exSs exS exSs at q'
        exact q'
      exact (snd_all e).1 _ _ _ (fun cls d _ H => E cls d H) sta (takes_of rfl rfl rfl rfl) hchk _ _ _ _ _ _ _ r (start_env ru (by omega)) _ q2
end

/-! ### the head -/
/-- one list of whole numbers is at hand, the tables stand empty, and there is nothing else -/
def holdT (a : Addr) (o : Obj) (xs : List V) (b : Bool) (T : List Addr) : Hp := fun c => if b = true ∧ c = a then some (.frz o (.lst xs)) else if c ∈ T then some (.tbl #[]) else none
omit [Lams] in
theorem holdT_some {a c : Addr} {o : Obj} {xs : List V} {b : Bool} {T : List Addr} {u : HO} (h : holdT a o xs b T c = some u) : (b = true ∧ c = a ∧ u = .frz o (.lst xs)) ∨ (c ∈ T ∧ u = .tbl #[]) := by
  unfold holdT at h
  split at h
  · rename_i z; cases h; exact .inl ⟨z.1, z.2, rfl⟩
  · split at h
    · rename_i z; cases h; exact .inr ⟨z, rfl⟩
    · cases h
omit [Lams] in
theorem holdT_free {a c : Addr} {o : Obj} {xs : List V} {b : Bool} {T : List Addr} (h : c ≠ a) (h2 : c ∉ T) : holdT a o xs b T c = none := by
  unfold holdT
  rw [if_neg fun z => h z.2, if_neg h2]
theorem head_call {P : Program} {w : World} {K : PySem.W.Frag} {mg mb : Str → Option Value} {k : Nat} {fa a : Addr} {x : Str} {sp : Sp} {s₁ : Shared} {vs : List Value} {ns : List Int}
    (inK : K.In s₁.heap) (atG : s₁.heap.Ns mainGlobals mg) (atB : s₁.heap.Ns builtinsNs mb) (boot : ∀ x : Str, x ≠ "__name__" → mb x = bootBuiltins x) (lim : s₁.heap.NoLimit) (noGen : s₁.gens = #[])
    (hT : ∀ t ∈ Lams.tabs, s₁.heap.get? t.2.1 = some { cls := .none, data := .fields #[] }) (nT : ∀ t ∈ Lams.tabs, K.lookup t.2.1 = none) (cT : ∀ t ∈ Lams.tabs, PySem.W.CodeHd s₁.heap t.1 t.2.1)
    (main : ∃ (bm : Addr) (ob : Obj), mg "__builtins__" = some (.ref bm) ∧ bm ≠ builtinsNs ∧ s₁.heap.get? bm = some ob ∧ ob.cls = .type "module" ∧ ob.dict = some builtinsNs ∧ ob.data = .plain)
    (obj : s₁.heap.get? a = some { cls := .type "list", data := .seq vs.toArray }) (nums : IntsAre vs ns) (short : ns.length ≤ sizeLine) (room : Room k callerA)
    (F : ∀ base : Heap, K.In base → base.Ns mainGlobals mg → (∀ t ∈ Lams.tabs, LamX.TabB base mg t.1 t.2.1) → ∃ fd : FuncData, BindsTo s₁ fd ⟨[.ref a], []⟩ [(x, .ref a)] ∧ FnG P w K mg base k fa fd [x] sp)
    (keeps : ∀ H : Hp, (∀ t ∈ Lams.tabs, H t.2.1 = some (.tbl #[])) → SqL K H a (ns.map V.int) → sp [.ref a] H (fun v _ => v = .bl true) fun _ _ _ => False) :
    codeAny (model P w) callerA (.call (.ref fa) ⟨[.ref a], []⟩) (fun r s' => r = .ok (.ret (.bool true)) ∧ OldK s₁.heap s'.heap ∧ s'.os = s₁.os ∧ AllBare s'.gens) s₁ := by
  have rel := vals_ints nums
  obtain ⟨own, hown⟩ : ∃ b : Bool, b = (K.lookup a).isNone := ⟨_, rfl⟩
  let o : Obj := { cls := .type "list", data := .seq vs.toArray }
  obtain ⟨T, eT⟩ : ∃ T : List Addr, T = Lams.tabs.map (·.2.1) := ⟨_, rfl⟩
  have inT : ∀ c, c ∈ T → ∃ t ∈ Lams.tabs, t.2.1 = c := fun c hc => by rw [eT] at hc; exact List.mem_map.mp hc
  have objT : ∀ c, c ∈ T → s₁.heap.get? c = some { cls := .none, data := .fields #[] } := fun c hc => by
    obtain ⟨t, ht, rfl⟩ := inT c hc
    exact hT t ht
  have memT : ∀ t ∈ Lams.tabs, t.2.1 ∈ T := fun t ht => by rw [eT]; exact List.mem_map.mpr ⟨t, ht, rfl⟩
  have aT : a ∉ T := fun z => by
    have e := objT a z
    rw [obj] at e
    have e2 := congrArg Obj.data (Option.some.inj e)
    cases e2
  let H : Hp := holdT a o (ns.map V.int) own T
  have tabH : ∀ t ∈ Lams.tabs, H t.2.1 = some (.tbl #[]) := fun t ht => by
    show holdT a o _ own T _ = _
    unfold holdT
    rw [if_neg (show ¬ (own = true ∧ t.2.1 = a) from fun z => aT (by rw [← z.2]; exact memT t ht)), if_pos (memT t ht)]
  have notK : ∀ c, H c ≠ none → (c = a ∧ K.lookup a = none) ∨ c ∈ T := fun c z => by
    cases e : H c with
    | none => exact absurd e z
    | some u =>
      rcases holdT_some e with ⟨e1, e2, _⟩ | ⟨e1, _⟩
      · exact .inl ⟨e2, by rw [hown] at e1; exact Option.isNone_iff_eq_none.mp e1⟩
      · exact .inr e1
  have seq : SqL K H a (ns.map V.int) := by
    cases e : K.lookup a with
    | none => exact .inl (.inr ⟨o, by show holdT a o _ own T a = _; unfold holdT; rw [if_pos ⟨by rw [hown, e]; rfl, rfl⟩]⟩)
    | some ob =>
      have e1 := inK a ob e
      rw [obj] at e1
      cases e1
      exact .inr ⟨_, vs.toArray, _, e, rfl, rfl, rfl, by rw [List.size_toArray, nums.length]; exact short, by simpa using rel⟩
  have ok : HOk P w H s₁.heap := fun c u e => by
    rcases holdT_some e with ⟨_, rfl, rfl⟩ | ⟨e1, rfl⟩
    · exact ⟨obj, by rw [List.length_map]; exact short, vs, _, rel, obj⟩
    · exact objT c e1
  have see : ∀ {c : Addr} {ob : Obj}, s₁.heap.get? c = some ob → H c = none → (hidT s₁.heap H).get? c = some ob := fun e n => hidT_get e n
  have free : ∀ {c : Addr} {ob : Obj}, s₁.heap.get? c = some ob → (∀ vs n, ob.data ≠ .seq vs n) → ob.data ≠ .fields #[] → H c = none := fun {c ob} e d1 d2 => by
    refine holdT_free (fun z => ?_) fun z => ?_
    · rw [z, obj] at e
      cases e
      exact d1 _ _ rfl
    · rw [objT c z] at e
      cases e
      exact d2 rfl
  have dictFree : ∀ {c : Addr} {ob : Obj} {es : Array DictEntry} {ep : Nat}, s₁.heap.get? c = some ob → ob.data = .dict es ep → H c = none := fun {c ob es ep} e d =>
    free e (fun vs n z => by rw [d] at z; cases z) fun z => by rw [d] at z; cases z
  have nsOf : ∀ {c : Addr} {m : Str → Option Value}, s₁.heap.Ns c m → (hidT s₁.heap H).Ns c m := by
    rintro c m ⟨ob, es, ep, e, d, r⟩
    exact ⟨ob, es, ep, see e (dictFree e d), d, r⟩
  have kIn : K.In (hidT s₁.heap H) := fun c ob e => see (inK c ob e) (by
    cases q : H c with
    | none => rfl
    | some u =>
      rcases notK c (by rw [q]; exact Option.some_ne_none u) with ⟨rfl, z⟩ | z
      · rw [z] at e
        cases e
      · obtain ⟨t, ht, rfl⟩ := inT c z
        rw [nT t ht] at e
        cases e)
  have modOk : Mod K mg (hidT s₁.heap H) := ⟨kIn, nsOf atG, ⟨mb, nsOf atB, boot⟩, lim.elim fun mc h => ⟨mc, nsOf h.1, h.2⟩⟩
  have tabB : ∀ t ∈ Lams.tabs, LamX.TabB (hidT s₁.heap H) mg t.1 t.2.1 := fun t ht => by
    have here := hT t ht
    refine ⟨?_, ?_, fun z => ?_⟩
    · obtain ⟨ob, us, fl, tf, fg, tg, inF, tx, tt, e1, r1, r2, r3, r⟩ := cT t ht
      refine ⟨ob, us, fl, tf, fg, tg, inF, tx, tt, see e1 (free e1 (fun vs n z => ?_) fun z => ?_), r1, r2, r3, r⟩
      · rw [r2] at z
        cases z
      · rw [r2] at z
        cases z
        simp at r3
    · obtain ⟨bm, ob, b1, b2, b3, b4, b5, b6⟩ := main
      have nG : bm ≠ mainGlobals := fun z => by
        obtain ⟨ob', es, ep, e, d, _⟩ := atG
        rw [z, e] at b3
        cases b3
        rw [d] at b6
        cases b6
      have nP : bm ≠ t.2.1 := fun z => by
        rw [z, here] at b3
        cases b3
        cases b6
      exact ⟨bm, ob, b1, b2, nG, nP, see b3 (free b3 (fun vs n z => by rw [b6] at z; cases z) fun z => by rw [b6] at z; cases z), b4, b5, b6⟩
    · obtain ⟨ob, es, ep, e, d, _⟩ := atG
      rw [z, here] at e
      cases e
      cases d
  have at0 : Env0 P w K mg (hidT s₁.heap H) callerA [] s₁ H := ⟨rfl, modOk, fun c ob e => of_hidT e, Nat.le_of_eq (hidT_size _ _), trivial, fun c hc => (nomatch hc), ok, AllBare.of_eq noGen⟩
  obtain ⟨fd, binds, good⟩ := F _ kIn (nsOf atG) tabB
  refine codeAny_mono (good.run callerA [] s₁ H ⟨[.ref a], []⟩ [.ref a] [.ref a] _ _ room rfl at0 binds (.cons rfl .nil) (keeps H tabH seq)) fun r s' res => ?_
  cases r with
  | error e =>
    obtain ⟨_, _, _, _, _, _, _, _, _, _, _, _, no⟩ := res
    exact no.elim
  | ok fl =>
    cases fl with
    | next => exact res.elim
    | brk => exact res.elim
    | cont => exact res.elim
    | ret u =>
      obtain ⟨v, H', os, bare, un, ok', rv, hv⟩ := res
      have hv : v = .bl true := hv
      subst hv
      obtain rfl : u = Value.bool true := rv
      have same : ∀ c ob, c ∉ T → s₁.heap.get? c = some ob → s'.heap.get? c = some ob := fun c ob nc e => by
        cases q : H c with
        | none => exact un.keep c ob e q (fun z => nomatch z) (by simp)
        | some u =>
          rcases holdT_some q with ⟨_, rfl, rfl⟩ | ⟨z, _⟩
          · obtain ⟨e1, _⟩ := ok c _ q
            obtain ⟨e2, _⟩ := ok' c _ (un.frzs c _ _ q)
            rw [e1] at e
            cases e
            exact e2
          · exact absurd z nc
      have more : ∀ t ∈ Lams.tabs, ∃ us : Array Value, s'.heap.get? t.2.1 = some { cls := .none, data := .fields us } := fun t ht => by
        obtain ⟨us, z⟩ := un.tbls t.2.1 #[] (tabH t ht)
        exact ⟨_, ok' _ _ z⟩
      refine ⟨rfl, ⟨fun c ob e => ?_, fun c ob e => ?_⟩, os, bare⟩
      · by_cases hc : c ∈ T
        · obtain ⟨t, ht, rfl⟩ := inT c hc
          obtain ⟨us, hu⟩ := more t ht
          rw [hT t ht] at e
          cases e
          exact .inr (.inl ⟨((cT t ht).tab (hT t ht)).isCodeTable, rfl, #[], us, rfl, by rw [Array.empty_append]; exact hu⟩)
        · exact .inl (same c ob hc e)
      · by_cases hc : c ∈ T
        · obtain ⟨t, ht, rfl⟩ := inT c hc
          obtain ⟨us, hu⟩ := more t ht
          exact ⟨_, hu⟩
        · exact ⟨ob, same c ob hc e⟩
omit [Lams] in
theorem rep_ints {K : PySem.W.Frag} {P : Hp} : ∀ ns : List Int, RepAll K P (ns.map V.int) (ns.map PyData.int)
  | [] => .nil
  | n :: ns => .cons (.int n) (rep_ints ns)
/-- without the tables -/
def strip (H : Hp) : Hp := fun b => match H b with
  | some (.tbl _) => none
  | o => o
omit [Lams] in
theorem strip_some {H : Hp} {b : Addr} {o : HO} (h : H b = some o) (n : ∀ ps, o ≠ .tbl ps) : strip H b = some o := by
  unfold strip
  rw [h]
  cases o <;> first | rfl | exact absurd rfl (n _)
omit [Lams] in
theorem strip_sub {H : Hp} {b : Addr} {o : HO} (h : strip H b = some o) : H b = some o := by
  unfold strip at h
  split at h
  · cases h
  · exact h
omit [Lams] in
theorem strip_tbl {H : Hp} {b : Addr} {ps : Array Value} (h : H b = some (.tbl ps)) : strip H b = none := by
  unfold strip
  rw [h]
theorem spec_law {K : PySem.W.Frag} {G : Gm} {cl : Nat → Value} {k f : Nat} {x : Str} {W : Nat} {ns : List Int} {st : Store} (e : callRaw G W k f [.d (.list (ns.map .int))] [] = .ok (.d (.bool true)) st) {H : Hp} {a : Addr} (tabs : ∀ t ∈ Lams.tabs, H t.2.1 = some (.tbl #[])) (h : SqL K H a (ns.map V.int)) :
    spec K G cl k f [x] [.ref a] H (fun v _ => v = .bl true) fun _ _ _ => False := by
  have h2 : SqL K (strip H) a (ns.map V.int) := by
    rcases h with (h | ⟨o, h⟩) | h
    · exact .inl (.inl (strip_some h fun ps z => by cases z))
    · exact .inl (.inr ⟨o, strip_some h fun ps z => by cases z⟩)
    · exact .inr h
  refine ⟨rfl, W, strip H, [], fun _ => none, [], [.d (.list (ns.map .int))], ⟨fun b o z => strip_sub z, same_none _, rfl, List.nodup_nil, fun n a us e _ => (nomatch e), fun b o e => (nomatch e), fun n a e _ => (nomatch e), fun p hp => ⟨#[], tabs p hp, trivial, fun pos cv z => ?_⟩, fun b ps z => ⟨strip_tbl z, rfl⟩⟩, .cons (.d (.lst h2 (rep_ints ns))) .nil, ?_⟩
  · have z : (none : Option Value) = some cv := z
    cases z
  rw [e]
  intro v H' P' α' _ r
  cases r with | d r =>
  cases r
  rfl
omit [Lams] in
/-- the goal behind k_fill -/
theorem walk_by {l : PySem.W.OpenLaw} {n k W f : Nat} {G : Gm} {q : Program} {loose : List Str} {XP : (Str → Option Value) → Heap → Prop} {YP : World → Heap → Prop} {d : DefRec} {K : Params → PySem.W.Frag} {x : Str} {F : Fn}
    (hn : l.most = some n) (hn2 : n ≤ sizeLine) (hdf : d.params.defaults = []) (hr : Room k callerA) (hY : ∀ (w : World) (h : Heap), YP w h → (K w.params).In h)
    (hF : G.fns[f]? = some F) (hname : F.name = d.name) (hps : F.ps = [x]) (hnl : d.name ≠ (("<lambda>" : Str)))
    (T : ∀ (w : World) (mg : Str → Option Value) (h : Heap), YP w h → (K w.params).In h → h.Ns mainGlobals mg → ∃ tabs : List (Addr × Addr × Str), (∀ s ∈ tabs, ∀ t ∈ tabs, s.2.1 = t.2.1 → s.2.2 = t.2.2) ∧
      (∀ t ∈ tabs, List.lookup t.2.1 (K w.params) = none ∧ PySem.W.CodeHd h t.1 t.2.1 ∧ h.get? t.2.1 = some { cls := .none, data := .fields #[] }) ∧ Knows (K w.params) mg G tabs)
    (val : ∀ ns : List Int, ns.length ≤ n → ∃ st, callRaw G W k f [.d (.list (ns.map .int))] [] = .ok (.d (.bool true)) st) :
    PySem.W.WalkO q loose XP YP l.row.toRowW d [] (fun f vs => PySem.call f vs) := by
  refine Att.attach_call hn hdf fun w s₀ s₁ mg mb fa o pm cd doc a vs ns gr Y ho hd hcd hmg hobj hints hlen hg => ?_
  have inK := hY w _ Y
  obtain ⟨tabs, uniq, facts, know⟩ := T w mg _ Y inK gr.T.g
  letI : Lams := ⟨mg, G, tabs, uniq⟩
  obtain ⟨st, hst⟩ := val ns hlen
  refine head_call (x := x) (sp := spec (K w.params) G (fun _ => .none) k f [x]) inK gr.T.g gr.T.b gr.T.builtins gr.T.nolimit hg (fun t ht => (facts t ht).2.2) (fun t ht => (facts t ht).1) (fun t ht => (facts t ht).2.1) gr.T.bmain hobj hints (Nat.le_trans hlen hn2) hr (fun base _ _ tB => ?_) fun H hH hS => spec_law hst hH hS
  obtain ⟨fa', fd, h1, h2, h3, h4, h5⟩ := ((all_fn (P := l.prog) (w := w) (base := base) (cl := fun _ => .none) rfl rfl tB know k).1 f F hF (by rw [hname]; exact hnl)).ex
  have h1 : mg F.name = some (.ref fa') := h1
  rw [hname, hmg] at h1
  cases h1
  rw [hps] at h3
  refine ⟨fd, ?_, h3⟩
  obtain ⟨ds, vs', b, r1, r2⟩ := h4 0 (Nat.zero_le _)
  rw [Nat.sub_zero, List.drop_length] at r2
  cases r2
  cases r1
  rw [hps] at b
  exact b s₁ [.ref a] inK rfl
end Ev
end

section
set_option maxRecDepth 10000
set_option autoImplicit false
/-! EvR: what the top has left, piece by piece. -/
namespace Ev
open PySem PySem.Spec PyProof.Rows L2

section
variable {K : PySem.W.Frag} {mg : Str → Option Value} {h : Heap} {G : Gm} {tabs : List (Addr × Addr × Str)}
/-- a def without defaults -/
theorem known_plain {F : Fn} {st : Stmt} {a : Addr} {oc kV doc pm cdv ct : Value} {od an : Option Addr} {osl : Array (Option Value)} (X : K.In h) (Gn : h.Ns mainGlobals mg)
    (at_ : PySem.W.nsIn K mainGlobals F.name = some (some (.ref a))) (ob : K.lookup a = some ⟨oc, od, .func (PySem.W.fnOf F.name F.name (defArgs st) (defBody st) (defScope st) .none kV doc pm an cdv ct), osl⟩) (code : PySem.W.codeIn K cdv F.name = true) (keep : PySem.W.keepIn K (.ref a) = true)
    (S : FnScope F.N F.ps (defScope st)) (chk : chkSs G ⟨F.N, defScope st, fun x => locB (defScope st) x, F.lm⟩ F.body (defBody st) = true) (nodfl : F.dfl = [])
    (tab : F.lm = true → ∃ c0 P0, cdv = .ref c0 ∧ (c0, P0, (F.name ++ (".<locals>." : Str)) ++ ("<lambda>" : Str)) ∈ tabs)
    (bind : ∀ us : List Value, us.length = F.ps.length → bindArgs (PySem.W.fnOf F.name F.name (defArgs st) (defBody st) (defScope st) .none kV doc pm an cdv ct) ⟨us, []⟩ = pure (F.ps.zip us))
    (kw : ∀ p ∈ F.kss, ∀ (ws vs : List Value), ws.length = p.1.length → pick ws p.2 = some vs → bindArgs (PySem.W.fnOf F.name F.name (defArgs st) (defBody st) (defScope st) .none kV doc pm an cdv ct) ⟨[], (p.1.filterMap (F.ps[·]?)).zip ws⟩ = pure (F.ps.zip vs)) : Known K mg G tabs F := by
  refine ⟨a, st, oc, od, .none, kV, doc, pm, an, cdv, ct, osl, PySem.W.mg_of X Gn at_, keep, ob, code, S, chk, tab, fun j hj => ⟨[], [], .all bind, .nil, by rw [nodfl, List.drop_nil]; exact .nil⟩, fun p hp s ws vs _ hl e => .of_eq (kw p hp ws vs hl e)⟩
/-- a value that the top made, beside data -/
def scalB : Value → D → Bool
  | .none, .none => true
  | .bool b, .bool c => b == c
  | .int i _, .int j => decide (i = j)
  | .str s _, .str t => decide (s = t)
  | _, _ => false
def scalsB : List Value → List D → Bool
  | [], [] => true
  | u :: us, d :: ds => scalB u d && scalsB us ds
  | _, _ => false
theorem scal_rep {P : Hp} {u : Value} {d : D} (h : scalB u d = true) : ∃ v, RelV v u ∧ Rep K P v d := by
  unfold scalB at h
  split at h
  · exact ⟨.non, rfl, .non⟩
  · rename_i b c
    obtain rfl : b = c := by simpa using h
    exact ⟨.bl b, rfl, .bl b⟩
  · obtain rfl := of_decide_eq_true h
    exact ⟨.int _, ⟨_, rfl⟩, .int _⟩
  · obtain rfl := of_decide_eq_true h
    exact ⟨.str _, ⟨_, rfl⟩, .str _⟩
  · cases h
theorem scals_rep {P : Hp} : ∀ {us : List Value} {ds : List D}, scalsB us ds = true → ∃ vs, Vals vs us ∧ RepAll K P vs ds
  | [], [], _ => ⟨[], .nil, .nil⟩
  | [], _ :: _, h => by cases h
  | _ :: _, [], h => by cases h
  | u :: us, d :: ds, h => by
    unfold scalsB at h
    rw [Bool.and_eq_true] at h
    obtain ⟨v, r1, r2⟩ := scal_rep (K := K) (P := P) h.1
    obtain ⟨vs, r3, r4⟩ := scals_rep (P := P) h.2
    exact ⟨v :: vs, .cons r1 r3, .cons r2 r4⟩
/-- a def with defaults, the last of its parameters -/
theorem known_dfl {F : Fn} {st : Stmt} {a T : Addr} {oc kV doc pm cdv ct : Value} {od an : Option Addr} {osl : Array (Option Value)} {to : Value} {td : Option Addr} {its : List Value} {tn : Nat} {tsl : Array (Option Value)} (X : K.In h) (Gn : h.Ns mainGlobals mg)
    (at_ : PySem.W.nsIn K mainGlobals F.name = some (some (.ref a))) (ob : K.lookup a = some ⟨oc, od, .func (PySem.W.fnOf F.name F.name (defArgs st) (defBody st) (defScope st) (.ref T) kV doc pm an cdv ct), osl⟩) (code : PySem.W.codeIn K cdv F.name = true) (keep : PySem.W.keepIn K (.ref a) = true)
    (tup : K.lookup T = some ⟨to, td, .seq its.toArray tn, tsl⟩)
    (S : FnScope F.N F.ps (defScope st)) (chk : chkSs G ⟨F.N, defScope st, fun x => locB (defScope st) x, F.lm⟩ F.body (defBody st) = true)
    (tab : F.lm = true → ∃ c0 P0, cdv = .ref c0 ∧ (c0, P0, (F.name ++ (".<locals>." : Str)) ++ ("<lambda>" : Str)) ∈ tabs) (vals : scalsB its F.dfl = true)
    (bind : ∀ j, j ≤ F.dfl.length → ∀ us : List Value, us.length + j = F.ps.length → ∃ k, bindArgs (PySem.W.fnOf F.name F.name (defArgs st) (defBody st) (defScope st) (.ref T) kV doc pm an cdv ct) ⟨us, []⟩ = seqItems? (.ref T) >>= k ∧ k (some its.toArray) = pure (F.ps.zip (us ++ its.drop (F.dfl.length - j))))
    (kw : ∀ p ∈ F.kss, ∀ (ws vs : List Value), ws.length = p.1.length → pick ws p.2 = some vs → ∃ k, bindArgs (PySem.W.fnOf F.name F.name (defArgs st) (defBody st) (defScope st) (.ref T) kV doc pm an cdv ct) ⟨[], (p.1.filterMap (F.ps[·]?)).zip ws⟩ = seqItems? (.ref T) >>= k ∧ k (some its.toArray) = pure (F.ps.zip vs)) : Known K mg G tabs F := by
  obtain ⟨vs, v1, v2⟩ := scals_rep (K := K) (P := fun _ => none) vals
  have hlen : its.length = F.dfl.length := by rw [← v1.length, v2.length]
  refine ⟨a, st, oc, od, .ref T, kV, doc, pm, an, cdv, ct, osl, PySem.W.mg_of X Gn at_, keep, ob, code, S, chk, tab, fun j hj => ⟨its.drop (F.dfl.length - j), vs.drop (F.dfl.length - j), fun s us X' hl => ?_, v1.drop _, v2.drop _⟩, fun p hp s ws zs X' hl e => ?_⟩
  · rw [List.length_append, List.length_drop, hlen] at hl
    obtain ⟨k, e1, e2⟩ := bind j hj us (by omega)
    refine L2.BindsTo.of_looks fun M => ?_
    rw [e1]
    exact looks_items X' tup rfl (PySem.W.Looks.of_pure e2)
  · obtain ⟨k, e1, e2⟩ := kw p hp ws zs hl e
    refine L2.BindsTo.of_looks fun M => ?_
    rw [e1]
    exact looks_items X' tup rfl (PySem.W.Looks.of_pure e2)
/-- a constant of the module -/
theorem con_scal {x : Str} {u : Value} {d : D} (X : K.In h) (Gn : h.Ns mainGlobals mg) (at_ : PySem.W.nsIn K mainGlobals x = some (some u)) (e : scalB u d = true) : ∃ u v, mg x = some u ∧ RelV v u ∧ Rep K (fun _ => none) v d := by
  obtain ⟨v, r1, r2⟩ := scal_rep (K := K) (P := fun _ => none) e
  exact ⟨u, v, PySem.W.mg_of X Gn at_, r1, r2⟩
theorem con_tup {x : Str} {T : Addr} {ds : List D} {td : Option Addr} {its : List Value} {tn : Nat} {tsl : Array (Option Value)} (X : K.In h) (Gn : h.Ns mainGlobals mg) (at_ : PySem.W.nsIn K mainGlobals x = some (some (.ref T))) (tup : K.lookup T = some ⟨.type "tuple", td, .seq its.toArray tn, tsl⟩)
    (e : scalsB its ds = true) (small : decide (its.length ≤ 1000) = true) : ∃ u v, mg x = some u ∧ RelV v u ∧ Rep K (fun _ => none) v (.tuple ds) := by
  obtain ⟨vs, r1, r2⟩ := scals_rep (K := K) (P := fun _ => none) e
  refine ⟨.ref T, .ref T, PySem.W.mg_of X Gn at_, rfl, .tup (.inr ⟨_, its.toArray, tn, tup, rfl, rfl, ?_, by simpa using r1⟩) r2⟩
  rw [List.size_toArray]
  exact Nat.le_trans (of_decide_eq_true small) (by decide)
theorem bt_none {x : Str} (X : K.In h) (Gn : h.Ns mainGlobals mg) (e : PySem.W.nsIn K mainGlobals x = some none) : mg x = none := PySem.W.mg_none_of X Gn e
/-- list by list -/
theorem all_cons {α : Type} {P : α → Prop} {a : α} {l : List α} (h : P a) (t : ∀ x ∈ l, P x) : ∀ x ∈ a :: l, P x := by
  intro x hx
  rcases List.mem_cons.mp hx with rfl | hx
  · exact h
  · exact t x hx
theorem all_nil {α : Type} {P : α → Prop} : ∀ x ∈ ([] : List α), P x := fun _ h => (nomatch h)
theorem knows_of (fn : ∀ F ∈ G.fns, F.name ≠ (("<lambda>" : Str)) → Known K mg G tabs F) (con : ∀ p ∈ G.consts, ∃ u v, mg p.1 = some u ∧ RelV v u ∧ Rep K (fun _ => none) v p.2) (bt : ∀ x ∈ G.bts, mg x = none) : Knows K mg G tabs :=
  ⟨fun _ F e => fn F (List.mem_of_getElem? e), fun _ p e => con p (List.mem_of_getElem? e), bt⟩
/-- a table of code objects -/
theorem tab_fact {c P : Addr} {x : Str} (X : K.In h) (_q : PySem.W.tabIn K x = some (c, P)) (n : List.lookup P K = none) (e : PySem.W.codeHdIn K c P = true) (t : h.get? P = some { cls := .none, data := .fields #[] }) :
    List.lookup P K = none ∧ PySem.W.CodeHd h c P ∧ h.get? P = some { cls := .none, data := .fields #[] } := ⟨n, PySem.W.codeHd_of_K X e, t⟩
/-- rows that the top made, beside data -/
def RowsOk (K : PySem.W.Frag) (us : List Value) (ds : List D) : Prop := ∃ vs, Vals vs us ∧ RepAll K (fun _ => none) vs ds
theorem rows_nil : RowsOk K [] [] := ⟨[], .nil, .nil⟩
theorem rows_cons {T : Addr} {ds : List D} {td : Option Addr} {its : List Value} {tn : Nat} {tsl : Array (Option Value)} {us : List Value} {xs : List D} (tup : K.lookup T = some ⟨.type "tuple", td, .seq its.toArray tn, tsl⟩)
    (e : scalsB its ds = true) (small : decide (its.length ≤ 1000) = true) (r : RowsOk K us xs) : RowsOk K (.ref T :: us) (.tuple ds :: xs) := by
  obtain ⟨ws, w1, w2⟩ := r
  obtain ⟨vs, r1, r2⟩ := scals_rep (K := K) (P := fun _ => none) e
  refine ⟨.ref T :: ws, .cons rfl w1, .cons (.tup (.inr ⟨_, its.toArray, tn, tup, rfl, rfl, ?_, by simpa using r1⟩) r2) w2⟩
  rw [List.size_toArray]
  exact Nat.le_trans (of_decide_eq_true small) (by decide)
theorem con_rows {x : Str} {T : Addr} {ds : List D} {td : Option Addr} {its : List Value} {tn : Nat} {tsl : Array (Option Value)} (X : K.In h) (Gn : h.Ns mainGlobals mg) (at_ : PySem.W.nsIn K mainGlobals x = some (some (.ref T))) (tup : K.lookup T = some ⟨.type "tuple", td, .seq its.toArray tn, tsl⟩)
    (e : RowsOk K its ds) (small : decide (its.length ≤ 1000) = true) : ∃ u v, mg x = some u ∧ RelV v u ∧ Rep K (fun _ => none) v (.tuple ds) := by
  obtain ⟨vs, r1, r2⟩ := e
  refine ⟨.ref T, .ref T, PySem.W.mg_of X Gn at_, rfl, .tup (.inr ⟨_, its.toArray, tn, tup, rfl, rfl, ?_, by simpa using r1⟩) r2⟩
  rw [List.size_toArray]
  exact Nat.le_trans (of_decide_eq_true small) (by decide)
end
end Ev
end

section
set_option maxRecDepth 10000
set_option autoImplicit false
/-! EvS: plain helpers for laws: results by what they meet, loops by invariants, the length of what repr shows. -/
namespace Ev
open PySem PySem.Spec PyProof.Rows L2

/-! ### results -/
def R.wp {α : Type} (r : R α) (Q : α → Store → Prop) : Prop := match r with
  | .ok a st => Q a st
  | _ => False
theorem wp_ok {α : Type} {a : α} {st : Store} {Q : α → Store → Prop} : (R.ok a st).wp Q = Q a st := rfl
theorem wp_bind {α β : Type} {r : R α} {f : α → Store → R β} {Q : β → Store → Prop} : (r.bind f).wp Q = r.wp (fun a st => (f a st).wp Q) := by
  cases r <;> rfl
theorem wp_some {α : Type} {o : Option α} {a : α} {st : Store} {Q : α → Store → Prop} (h : o = some a) : (ofO o st).wp Q = Q a st := by
  subst h; rfl
theorem R.wp.imp {α : Type} {r : R α} {Q Q' : α → Store → Prop} (h : r.wp Q) (g : ∀ a st, Q a st → Q' a st) : r.wp Q' := by
  cases r with
  | ok a st => exact g a st h
  | exc => exact h
  | stuck => exact h
theorem R.wp.get {α : Type} {r : R α} {Q : α → Store → Prop} (h : r.wp Q) : ∃ a st, r = .ok a st ∧ Q a st := by
  cases r with
  | ok a st => exact ⟨a, st, rfl, h⟩
  | exc => exact h.elim
  | stuck => exact h.elim
structure Out where
  nx : Env → Store → Prop := fun _ _ => False
  rt : U → Store → Prop := fun _ _ => False
  bk : Env → Store → Prop := fun _ _ => False
  ct : Env → Store → Prop := fun _ _ => False
def RS.wp (r : RS) (D : Out) : Prop := match r with
  | .nx ε st => D.nx ε st
  | .ret u st => D.rt u st
  | .brk ε st => D.bk ε st
  | .cnt ε st => D.ct ε st
  | _ => False
theorem wpS_nx {ε : Env} {st : Store} {D : Out} : (RS.nx ε st).wp D = D.nx ε st := rfl
theorem wpS_ret {u : U} {st : Store} {D : Out} : (RS.ret u st).wp D = D.rt u st := rfl
theorem wpS_brk {ε : Env} {st : Store} {D : Out} : (RS.brk ε st).wp D = D.bk ε st := rfl
theorem wpS_cnt {ε : Env} {st : Store} {D : Out} : (RS.cnt ε st).wp D = D.ct ε st := rfl
theorem wpS_bind {α : Type} {r : R α} {ε : Env} {f : α → Store → RS} {D : Out} : (r.bindS ε f).wp D = r.wp (fun a st => (f a st).wp D) := by
  cases r <;> rfl
theorem RS.wp.imp {r : RS} {D D' : Out} (h : r.wp D) (h1 : ∀ ε st, D.nx ε st → D'.nx ε st) (h2 : ∀ u st, D.rt u st → D'.rt u st) (h3 : ∀ ε st, D.bk ε st → D'.bk ε st) (h4 : ∀ ε st, D.ct ε st → D'.ct ε st) : r.wp D' := by
  cases r with
  | nx => exact h1 _ _ h
  | ret => exact h2 _ _ h
  | brk => exact h3 _ _ h
  | cnt => exact h4 _ _ h
  | exc => exact h
  | stuck => exact h
section
variable {G : Gm} {W : Nat} {cp : Nat → List D → R D} {cm : Nat → List U → Store → R U}
theorem wps_nil {ε : Env} {st : Store} {D : Out} : (exSs G W cp cm .nil ε st).wp D = D.nx ε st := rfl
theorem wps_cons {s : S} {ss : Ss} {ε : Env} {st : Store} {D : Out} : (exSs G W cp cm (.cons s ss) ε st).wp D = (exS G W cp cm s ε st).wp { D with nx := fun ε1 st1 => (exSs G W cp cm ss ε1 st1).wp D } := by
  have e : exSs G W cp cm (.cons s ss) ε st = match exS G W cp cm s ε st with
    | .nx ε1 st1 => exSs G W cp cm ss ε1 st1
    | r => r := by first | (rw [exSs]; rfl) | rw [exSs]
  rw [e]
  cases exS G W cp cm s ε st <;> rfl
end
theorem fin_wp {r : RS} {Q : U → Store → Prop} : (fin r).wp Q = r.wp { nx := fun _ st => Q (.d .none) st, rt := Q } := by
  cases r <;> rfl
theorem cut_wp {k : Nat} {r : R U} {Q : U → Store → Prop} (h : r.wp fun u st => st.length = k ∧ Q u st) : (cutStore k r).wp Q := by
  cases r with
  | ok u st =>
    obtain ⟨h1, h2⟩ := h
    unfold cutStore
    simp only [h1, if_true]
    exact h2
  | exc => exact h.elim
  | stuck => exact h.elim
/-- the store grew: what comes back is data, and the old things know nothing of the new -/
theorem cut_wp_low {k : Nat} {r : R U} {Q : U → Store → Prop} (h : r.wp fun u st => ∃ x, u = .d x ∧ (st.take k).all (lowC k) = true ∧ Q u (st.take k)) : (cutStore k r).wp Q := by
  cases r with
  | ok u st =>
    obtain ⟨x, rfl, h2, h3⟩ := h
    unfold cutStore
    simp only [lowU, h2, Bool.and_self, if_true]
    by_cases hk : st.length = k
    · rw [if_pos hk]
      rw [List.take_of_length_le (Nat.le_of_eq hk)] at h3
      exact h3
    · rw [if_neg hk]
      exact h3
  | exc => exact h.elim
  | stuck => exact h.elim
/-- a def by its body -/
theorem call_wp {G : Gm} {W k f : Nat} {F : Fn} {us : List U} {st : Store} {Q : U → Store → Prop} (e : G.fns[f]? = some F) (hl : (fill F us).length = F.ps.length)
    (h : (exSs G W (fun g ds => lowR (callRaw G W k g (ds.map .d) [])) (fun g vs st1 => cutStore st1.length (callRaw G W k g vs st1)) F.body (startE F (fill F us)) st).wp { nx := fun _ st => Q (.d .none) st, rt := Q }) : (callRaw G W (k + 1) f us st).wp Q := by
  unfold callRaw
  rw [e]
  simp only
  rw [if_pos hl, fin_wp]
  exact h

section
variable {G : Gm} {W k f : Nat} {F : Fn} {us : List U} {st : Store} {Q : U → Store → Prop}
/-- a pure def, called -/
theorem pure_wp (e : G.fns[f]? = some F) (hp : F.pure = true) {ds : List D} (hd : toDs us = some ds) (h : (callRaw G W k f us []).wp fun u _ => ∃ x, u = .d x ∧ Q (.d x) st) : (callU G (cpK G W k) (cmK G W k) f us st).wp Q := by
  unfold callU
  rw [e]
  simp only [hp, if_true, hd, cpK]
  rw [← toDs_some hd]
  obtain ⟨u, st1, e1, x, rfl, q⟩ := h.get
  rw [e1]
  exact q
theorem pure_eq (e : G.fns[f]? = some F) (hp : F.pure = true) {ds : List D} {x : D} (hd : toDs us = some ds) (h : ∀ Q : U → Store → Prop, Q (.d x) [] → (callRaw G W k f us []).wp Q) : (callU G (cpK G W k) (cmK G W k) f us st).wp Q = Q (.d x) st := by
  unfold callU
  rw [e]
  simp only [hp, if_true, hd, cpK]
  rw [← toDs_some hd]
  obtain ⟨u, st1, e1, e2, e3⟩ := (h (fun u s => u = .d x ∧ s = []) ⟨rfl, rfl⟩).get
  rw [e1, e2]
  rfl
/-- any other -/
theorem mut_wp (e : G.fns[f]? = some F) (hp : F.pure = false) (h : (callRaw G W k f us st).wp fun u st' => st'.length = st.length ∧ Q u st') : (callU G (cpK G W k) (cmK G W k) f us st).wp Q := by
  unfold callU
  rw [e]
  simp only [hp, Bool.false_eq_true, if_false]
  exact cut_wp h
theorem mut_wp_low (e : G.fns[f]? = some F) (hp : F.pure = false) (h : (callRaw G W k f us st).wp fun u st' => ∃ x, u = .d x ∧ (st'.take st.length).all (lowC st.length) = true ∧ Q u (st'.take st.length)) : (callU G (cpK G W k) (cmK G W k) f us st).wp Q := by
  unfold callU
  rw [e]
  simp only [hp, Bool.false_eq_true, if_false]
  exact cut_wp_low h
/-- one that gives something new of the store -/
theorem mut_wp_new (e : G.fns[f]? = some F) (hp : F.pure = false) (h : (callRaw G W k f us st).wp fun u st' => (∃ n, u = .m n ∧ st.length ≤ n) ∧ Q u st') : (callU G (cpK G W k) (cmK G W k) f us st).wp Q := by
  unfold callU
  rw [e]
  simp only [hp, Bool.false_eq_true, if_false]
  obtain ⟨u, st1, e1, ⟨n, rfl, hn⟩, q⟩ := h.get
  show (cutStore st.length (callRaw G W k f us st)).wp Q
  rw [e1]
  unfold cutStore
  simp only [lowU, show decide (n < st.length) = false from decide_eq_false (by omega), Bool.false_and, Bool.false_eq_true, if_false]
  split <;> exact q
theorem call_by (e : G.fns[f]? = some F) (hl : (fill F us).length = F.ps.length) (h : (exSs G W (cpK G W k) (cmK G W k) F.body (startE F (fill F us)) st).wp { nx := fun _ st => Q (.d .none) st, rt := Q }) : (callRaw G W (k + 1) f us st).wp Q := call_wp e hl h
end

/-! ### loops -/
theorem for_wp {set : U → Env → Option Env} {body : Env → Store → RS} {D : Out} (I : Env → Store → Prop) : ∀ {items : List U}, (∀ u ∈ items, ∀ ε st, I ε st → ∃ ε1, set u ε = some ε1 ∧ (body ε1 st).wp { D with nx := I, ct := I, bk := D.nx }) → (∀ ε st, I ε st → D.nx ε st) → ∀ {ε : Env} {st : Store}, I ε st → (forLoop set body items ε st).wp D
  | [], _, fin, ε, st, h => fin ε st h
  | u :: us, step, fin, ε, st, h => by
    obtain ⟨ε1, e1, b⟩ := step u (List.mem_cons_self ..) ε st h
    unfold forLoop
    rw [e1]
    simp only
    cases r : body ε1 st with
    | nx ε2 st2 => rw [r] at b; exact for_wp I (fun v hv => step v (List.mem_cons_of_mem _ hv)) fin b
    | cnt ε2 st2 => rw [r] at b; exact for_wp I (fun v hv => step v (List.mem_cons_of_mem _ hv)) fin b
    | brk ε2 st2 => rw [r] at b; exact b
    | ret => rw [r] at b; exact b
    | exc => rw [r] at b; exact b
    | stuck => rw [r] at b; exact b
theorem comp_wp {f : U → Store → R (Option U)} {Q : List U → Store → Prop} (I : List U → Store → Prop) : ∀ {items : List U} {acc : List U} {st : Store}, acc.length + items.length ≤ sizeMax → (∀ u ∈ items, ∀ acc st, I acc st → (f u st).wp fun o st1 => match o with
      | none => I acc st1
      | some x => I (acc ++ [x]) st1) → (∀ acc st, I acc st → Q acc st) → I acc st → (compLoop f items acc st).wp Q
  | [], acc, st, _, _, fin, h => fin acc st h
  | u :: us, acc, st, hl, step, fin, h => by
    rw [List.length_cons] at hl
    unfold compLoop
    rw [wp_bind]
    refine (step u (List.mem_cons_self ..) acc st h).imp fun o st1 z => ?_
    cases o with
    | none => exact comp_wp I (by omega) (fun v hv => step v (List.mem_cons_of_mem _ hv)) fin z
    | some x =>
      simp only
      rw [if_pos (by omega)]
      exact comp_wp I (by rw [List.length_append, List.length_singleton]; omega) (fun v hv => step v (List.mem_cons_of_mem _ hv)) fin z

/-! ### what repr shows -/
mutual
def lenD : D → Nat
  | .none => 4
  | .bool _ => 5
  | .int i => i.natAbs.log2 + 2
  | .str x => 10 * x.length + 2
  | .list xs => 2 + lenDs xs
  | .tuple xs => 3 + lenDs xs
  | .dict _ => 0
def lenDs : List D → Nat
  | [] => 0
  | x :: xs => lenD x + 2 + lenDs xs
end
mutual
def fineD : D → Bool
  | .none | .bool _ => true
  | .int i => decide (i.natAbs.log2 < 1920)
  | .str x => x.cps.toList.all fun c => decide (c < 16 ^ 8)
  | .list xs => fineDs xs
  | .tuple xs => fineDs xs
  | .dict _ => false
def fineDs : List D → Bool
  | [] => true
  | x :: xs => fineD x && fineDs xs
end
theorem from_len : ∀ (ts : List Str) (k : Nat) (acc : Str), (textFrom k acc ts).length ≤ acc.length + piled ts
  | [], k, acc => by unfold textFrom; omega
  | t :: ts, k, acc => by
    unfold textFrom
    have ih := from_len ts (k + 1) (acc ++ (if k > 0 then ", " else "" : String) ++ t)
    rw [strLen_append, strLen_append] at ih
    have e : (((if k > 0 then ", " else "" : String) : Str)).length ≤ 2 := by
      split <;> decide
    rw [piled_cons]
    omega
mutual
theorem shown_len : ∀ d : D, fineD d = true → (PyData.shown d).length ≤ lenD d
  | .none, _ => by unfold PyData.shown lenD; decide
  | .bool b, _ => by unfold PyData.shown lenD; cases b <;> decide
  | .int i, h => by
    unfold PyData.shown lenD
    unfold fineD at h
    have := int_text_length_le (a := i) (k := i.natAbs.log2 + 1) (by omega) (by omega)
    have e : ((toString i : String) : Str).length = (toString i).length := by
      exact PySem.ofString_length _
    rw [e]
    exact this
  | .str x, h => by
    unfold PyData.shown lenD
    unfold fineD at h
    exact StrLaws.reprText_len x fun c hc => by simpa using List.all_eq_true.mp h c hc
  | .list xs, h => by
    unfold PyData.shown lenD
    unfold fineD at h
    have := shown_lens xs h
    unfold listText
    rw [strLen_append]
    have h1 := from_len (PyData.shownAll xs) 0 "["
    have e1 : ((("[" : String) : Str)).length = 1 := rfl
    have e2 : ((("]" : String) : Str)).length = 1 := rfl
    rw [e1] at h1
    rw [e2]
    omega
  | .tuple xs, h => by
    unfold PyData.shown lenD
    unfold fineD at h
    have := shown_lens xs h
    unfold tupleText
    rw [strLen_append, strLen_append]
    have e1 : ((("(" : String) : Str)).length = 1 := rfl
    have e3 : ((((if (PyData.shownAll xs).length == 1 then ",)" else ")" : String) : Str))).length ≤ 2 := by split <;> decide
    by_cases hn : PyData.shownAll xs = []
    · rw [hn] at e3 ⊢
      have : (Str.join ", " ([] : List Str)).length = 0 := rfl
      rw [this, e1]
      omega
    · have := join_length_add _ hn
      rw [e1]
      omega
theorem shown_lens : ∀ ds : List D, fineDs ds = true → piled (PyData.shownAll ds) ≤ lenDs ds
  | [], _ => by unfold PyData.shownAll lenDs; exact Nat.le_refl _
  | d :: ds, h => by
    unfold fineDs at h
    rw [Bool.and_eq_true] at h
    unfold PyData.shownAll lenDs
    rw [piled_cons]
    have h1 := shown_len d h.1
    have h2 := shown_lens ds h.2
    omega
end
mutual
theorem fine_show : ∀ d : D, fineD d = true → PyData.showable d = true ∧ PyData.hasDict d = false
  | .none, _ => ⟨rfl, rfl⟩
  | .bool b, _ => ⟨rfl, rfl⟩
  | .int i, h => ⟨by unfold PyData.showable; unfold fineD at h; exact h, rfl⟩
  | .str x, h => ⟨rfl, rfl⟩
  | .list xs, h => by
    unfold fineD at h
    unfold PyData.showable PyData.hasDict
    exact fines_show xs h
  | .tuple xs, h => by
    unfold fineD at h
    unfold PyData.showable PyData.hasDict
    exact fines_show xs h
theorem fines_show : ∀ ds : List D, fineDs ds = true → PyData.showableAll ds = true ∧ PyData.hasDictAll ds = false
  | [], _ => ⟨rfl, rfl⟩
  | d :: ds, h => by
    unfold fineDs at h
    rw [Bool.and_eq_true] at h
    obtain ⟨a1, a2⟩ := fine_show d h.1
    obtain ⟨b1, b2⟩ := fines_show ds h.2
    unfold PyData.showableAll PyData.hasDictAll
    exact ⟨by rw [a1, b1]; rfl, by rw [a2, b2]; rfl⟩
end
theorem repr_ok {d : D} (h1 : fineD d = true) (h2 : PyData.depth d ≤ 64) (h3 : lenD d + 64 ≤ sizeMax) : reprOk d = true := by
  obtain ⟨a, b⟩ := fine_show d h1
  have := shown_len d h1
  unfold reprOk
  rw [a, b, decide_eq_true h2, decide_eq_true (by omega)]
  rfl
theorem eqv_str (s : Str) : PyData.eqv (.str s) (.str s) = true := by
  unfold PyData.eqv
  simp

/-! ### a well: three numbers in a list of the store -/
def Well (c : Cell) : Prop := ∃ a b n : Int, c = .lst [.d (.int a), .d (.int b), .d (.int n)] ∧ 0 ≤ a
theorem ix_m {st : Store} {n : Nat} {us : List U} {i : Int} (h : st[n]? = some (.lst us)) : ixU (.m n) (.d (.int i)) st = L2.atI us i := by
  simp only [ixU, h]
theorem get_set {st : Store} {n : Nat} {c c0 : Cell} (h : st[n]? = some c0) : (st.set n c)[n]? = some c := List.getElem?_set_self (List.getElem?_eq_some_iff.mp h).1
theorem get_set_ne {st : Store} {n m : Nat} {c : Cell} (h : n ≠ m) : (st.set n c)[m]? = st[m]? := List.getElem?_set_ne h
section
variable {α : Type} {a b c : α}
theorem at3_0 : L2.atI [a, b, c] 0 = some a := rfl
theorem at3_1 : L2.atI [a, b, c] 1 = some b := rfl
theorem at3_2 : L2.atI [a, b, c] 2 = some c := rfl
end
section
variable {st : Store} {n : Nat} {a b c v : U} {Q : Unit → Store → Prop} (h : st[n]? = some (.lst [a, b, c]))
include h
theorem sub3_0 : (setSub (.m n) (.d (.int 0)) v st).wp Q = Q () (st.set n (.lst [v, b, c])) := by
  simp only [setSub, h]
  rfl
theorem sub3_1 : (setSub (.m n) (.d (.int 1)) v st).wp Q = Q () (st.set n (.lst [a, v, c])) := by
  simp only [setSub, h]
  rfl
theorem sub3_2 : (setSub (.m n) (.d (.int 2)) v st).wp Q = Q () (st.set n (.lst [a, b, v])) := by
  simp only [setSub, h]
  rfl
end
theorem set_set {st : Store} {n : Nat} {c d : Cell} : (st.set n c).set n d = st.set n d := List.set_set ..
theorem cmul_l {i j : Int} (h : (decide (-(2 ^ 64) < i) && decide (i < 2 ^ 64)) = true) : cmulOk i j = true := by
  unfold cmulOk; rw [h]; rfl
theorem cmul_r {i j : Int} (h1 : -(2 ^ 64) < j) (h2 : j < 2 ^ 64) : cmulOk i j = true := by
  unfold cmulOk; rw [decide_eq_true h1, decide_eq_true h2]; simp
theorem fmod_pos {i j : Int} (h : 0 < j) : i.fmod j = i % j := Int.fmod_eq_emod_of_nonneg i (by omega)
theorem fdiv_pos {i j : Int} (h : 0 < j) : i.fdiv j = i / j := Int.fdiv_eq_ediv_of_nonneg i (by omega)
theorem divmod_wp {i j : Int} {st : Store} {Q : U → Store → Prop} : (bfD .divmod [.d (.int i), .d (.int j)] st).wp Q ↔ (0 < j ∧ j < 1073741824) ∧ Q (.d (.tuple [.int (i / j), .int (i % j)])) st := by
  show (if 0 < j ∧ j < 1073741824 then R.ok _ st else .stuck).wp Q ↔ _
  by_cases h : 0 < j ∧ j < 1073741824
  · rw [if_pos h]; exact ⟨fun q => ⟨h, q⟩, fun q => q.2⟩
  · rw [if_neg h]; exact ⟨fun q => q.elim, fun q => absurd q.1 h⟩
section
variable {i j : Int} {st : Store} {Q : U → Store → Prop} {xs : List D} {x : D}
theorem bf_int : (bfD .int [.d (.int i)] st).wp Q = Q (.d (.int i)) st := rfl
theorem bf_intB {b : Bool} : (bfD .int [.d (.bool b)] st).wp Q = Q (.d (.int (if b then 1 else 0))) st := rfl
theorem bf_abs : (bfD .abs [.d (.int i)] st).wp Q = Q (.d (.int (if i < 0 then -i else i))) st := rfl
theorem bf_lenL : (bfD .len [.d (.list xs)] st).wp Q = Q (.d (.int xs.length)) st := rfl
theorem bf_lenT : (bfD .len [.d (.tuple xs)] st).wp Q = Q (.d (.int xs.length)) st := rfl
theorem bf_max : (bfD .max2 [.d (.int i), .d (.int j)] st).wp Q = Q (.d (.int (if j > i then j else i))) st := rfl
theorem bf_min : (bfD .min2 [.d (.int i), .d (.int j)] st).wp Q = Q (.d (.int (if j < i then j else i))) st := rfl
theorem bf_repr : (bfD .repr [.d x] st).wp Q ↔ reprOk x = true ∧ Q (.d (.str (PyData.shown x))) st := by
  show (if reprOk x then R.ok _ st else .stuck).wp Q ↔ _
  by_cases h : reprOk x = true
  · rw [if_pos h]; exact ⟨fun q => ⟨h, q⟩, fun q => q.2⟩
  · rw [if_neg h]; exact ⟨fun q => q.elim, fun q => absurd q.1 h⟩
theorem bf_all {bs : List Bool} (h : toBools xs = some bs) : (bfD .all [.d (.list xs)] st).wp Q = Q (.d (.bool (bs.all id))) st := by
  show (match toBools xs with
    | some bs => R.ok (U.d (.bool (bs.all id))) st
    | none => .stuck).wp Q = _
  rw [h]
  rfl
end
theorem toB_true : ∀ n : Nat, toBools (List.replicate n (.bool true)) = some (List.replicate n true)
  | 0 => rfl
  | n + 1 => by
    rw [List.replicate_succ, List.replicate_succ]
    unfold toBools
    rw [toB_true n]
    rfl
theorem ix_list {xs : List D} {i : Int} {st : Store} : ixU (.d (.list xs)) (.d (.int i)) st = (L2.atI xs i).map .d := rfl
theorem ix_tuple {xs : List D} {i : Int} {st : Store} : ixU (.d (.tuple xs)) (.d (.int i)) st = (L2.atI xs i).map .d := rfl
theorem at_in {α : Type} {xs : List α} {i : Int} (h1 : 0 ≤ i) (h2 : i < xs.length) : ∃ x, x ∈ xs ∧ L2.atI xs i = some x := by
  have h : i.toNat < xs.length := by omega
  refine ⟨xs[i.toNat], List.getElem_mem h, ?_⟩
  have := L2.atI_nat (xs := xs) (j := i.toNat) (List.getElem?_eq_getElem h)
  rwa [Int.toNat_of_nonneg h1] at this
end Ev
end

section
set_option maxRecDepth 10000
set_option autoImplicit false
/-! EvT: the evaluator's steps, as rules of what is met. -/
namespace Ev
open PySem

/-! ### steps upon values -/
def optQ {α : Type} (o : Option α) (Q : α → Prop) : Prop := match o with
  | some a => Q a
  | none => False
theorem opt_ite {α : Type} {o : Option α} {p : Prop} [Decidable p] {a : α} {Q : α → Prop} (e : o = if p then some a else none) : optQ o Q ↔ p ∧ Q a := by
  subst e
  by_cases h : p
  · rw [if_pos h]; exact ⟨fun z => ⟨h, z⟩, fun z => z.2⟩
  · rw [if_neg h]; exact ⟨fun z => z.elim, fun z => absurd z.1 h⟩
theorem opt_ite_map {α β : Type} {o : Option β} {p : Prop} [Decidable p] {a : α} {g : α → β} {Q : β → Prop} (e : o = (if p then some a else none).map g) : optQ o Q ↔ p ∧ Q (g a) := by
  subst e
  by_cases h : p
  · rw [if_pos h]; exact ⟨fun z => ⟨h, z⟩, fun z => z.2⟩
  · rw [if_neg h]; exact ⟨fun z => z.elim, fun z => absurd z.1 h⟩
def binQ (op : Operator) (x y : U) (Q : U → Prop) : Prop := match x, y with
  | .d x, .d y => optQ (binD op x y) fun z => Q (.d z)
  | _, _ => False
def cmpQ (op : CmpOp) (x y : U) (Q : Bool → Prop) : Prop := match x, y with
  | .d x, .d y => optQ (cmpD op x y) Q
  | _, _ => False
def tstQ (u : U) (A B : Prop) : Prop := match u with
  | .d (.bool true) => A
  | .d (.bool false) => B
  | _ => False
def varQ (ε : Env) (i : Nat) (Q : U → Prop) : Prop := match ε[i]? with
  | some (some u) => Q u
  | _ => False
def negQ (u : U) (Q : U → Prop) : Prop := match u with
  | .d (.int i) => Q (.d (.int (-i)))
  | _ => False
def notQ (u : U) (Q : U → Prop) : Prop := match u with
  | .d (.bool b) => Q (.d (.bool (!b)))
  | _ => False
def tupQ (us : List U) (Q : U → Prop) : Prop := match toDs us with
  | some ds => ds.length ≤ sizeMax ∧ Q (.d (.tuple ds))
  | none => False
def tysQ (t : String) (u : U) (Q : Bool → Prop) : Prop := match u with
  | .d x => optQ (isTy t x) Q
  | _ => False
def augQ (op : Operator) (ε : Env) (i : Nat) (u : D → Prop) : Prop := match ε[i]? with
  | some (some (.d x)) => u x
  | _ => False
def augR (op : Operator) (x : D) (u : U) (Q : U → Prop) : Prop := match u with
  | .d y => optQ (augD op x y) fun z => Q (.d z)
  | _ => False
def untQ (n : Nat) (u : U) (Q : List U → Prop) : Prop := match u with
  | .s (.t3 a b xs) => n = 3 ∧ Q [.d a, .d b, .s (.x xs)]
  | .d (.tuple xs) => xs.length = n ∧ Q (xs.map .d)
  | _ => False
section
variable {A B : Prop} {Q : U → Prop} {Qb : Bool → Prop} {x : Option U} {ε : Env} {u : U} {i j : Int} {n : Nat} {s t : Str}
theorem tst_t : tstQ (.d (.bool true)) A B = A := rfl
theorem tst_f : tstQ (.d (.bool false)) A B = B := rfl
theorem tst_d {p : Prop} [Decidable p] : tstQ (.d (.bool (decide p))) A B ↔ (p → A) ∧ (¬p → B) := by
  by_cases h : p
  · rw [decide_eq_true h]; exact ⟨fun a => ⟨fun _ => a, fun z => absurd h z⟩, fun z => z.1 h⟩
  · rw [decide_eq_false h]; exact ⟨fun a => ⟨fun z => absurd z h, fun _ => a⟩, fun z => z.2 h⟩
theorem tst_n {p : Prop} [Decidable p] : tstQ (.d (.bool (!decide p))) A B ↔ (p → B) ∧ (¬p → A) := by
  by_cases h : p
  · rw [decide_eq_true h]; exact ⟨fun a => ⟨fun _ => a, fun z => absurd h z⟩, fun z => z.1 h⟩
  · rw [decide_eq_false h]; exact ⟨fun a => ⟨fun z => absurd z h, fun _ => a⟩, fun z => z.2 h⟩
theorem tst_b {b : Bool} : tstQ (.d (.bool b)) A B ↔ (b = true → A) ∧ (b = false → B) := by
  cases b
  · exact ⟨fun h => ⟨fun z => (nomatch z), fun _ => h⟩, fun z => z.2 rfl⟩
  · exact ⟨fun h => ⟨fun _ => h, fun z => (nomatch z)⟩, fun z => z.1 rfl⟩
theorem var_0 : varQ (some u :: ε) 0 Q = Q u := rfl
theorem var_s : varQ (x :: ε) (n + 1) Q = varQ ε n Q := rfl
theorem neg_i : negQ (.d (.int i)) Q = Q (.d (.int (-i))) := rfl
theorem not_b {b : Bool} : notQ (.d (.bool b)) Q = Q (.d (.bool (!b))) := rfl
theorem bin_add : binQ .Add (.d (.int i)) (.d (.int j)) Q = Q (.d (.int (i + j))) := rfl
theorem bin_sub : binQ .Sub (.d (.int i)) (.d (.int j)) Q = Q (.d (.int (i - j))) := rfl
theorem bin_mul : binQ .Mult (.d (.int i)) (.d (.int j)) Q ↔ cmulOk i j = true ∧ Q (.d (.int (i * j))) := opt_ite (Q := fun z => Q (.d z)) rfl
theorem bin_fdiv : binQ .FloorDiv (.d (.int i)) (.d (.int j)) Q ↔ (j ≠ 0 ∧ j.natAbs < 1073741824) ∧ Q (.d (.int (i.fdiv j))) := opt_ite (Q := fun z => Q (.d z)) rfl
theorem bin_mod : binQ .Mod (.d (.int i)) (.d (.int j)) Q ↔ j ≠ 0 ∧ Q (.d (.int (i.fmod j))) := opt_ite (Q := fun z => Q (.d z)) rfl
theorem bin_pow : binQ .Pow (.d (.int i)) (.d (.int j)) Q ↔ (0 ≤ j ∧ j ≤ 1000000 ∧ i.natAbs < 2 ^ 64) ∧ Q (.d (.int (i ^ j.toNat))) := opt_ite (Q := fun z => Q (.d z)) rfl
theorem bin_str : binQ .Add (.d (.str s)) (.d (.str t)) Q ↔ s.length + t.length ≤ sizeMax ∧ Q (.d (.str (s ++ t))) := opt_ite (Q := fun z => Q (.d z)) rfl
theorem bin_lst {a b : List D} : binQ .Add (.d (.list a)) (.d (.list b)) Q ↔ a.length + b.length ≤ sizeMax ∧ Q (.d (.list (a ++ b))) := opt_ite (Q := fun z => Q (.d z)) rfl
theorem bin_tup {a b : List D} : binQ .Add (.d (.tuple a)) (.d (.tuple b)) Q ↔ a.length + b.length ≤ sizeMax ∧ Q (.d (.tuple (a ++ b))) := opt_ite (Q := fun z => Q (.d z)) rfl
theorem cmp_lt : cmpQ .Lt (.d (.int i)) (.d (.int j)) Qb = Qb (decide (i < j)) := rfl
theorem cmp_le : cmpQ .LtE (.d (.int i)) (.d (.int j)) Qb = Qb (decide (i ≤ j)) := rfl
theorem cmp_gt : cmpQ .Gt (.d (.int i)) (.d (.int j)) Qb = Qb (decide (j < i)) := rfl
theorem cmp_ge : cmpQ .GtE (.d (.int i)) (.d (.int j)) Qb = Qb (decide (j ≤ i)) := rfl
theorem beq_dec {α : Type} [BEq α] [LawfulBEq α] [DecidableEq α] {a b : α} : (a == b) = decide (a = b) := by
  by_cases h : a = b
  · subst h; simp
  · rw [decide_eq_false h]; simpa using h
theorem cmp_eq {a b : D} : cmpQ .Eq (.d a) (.d b) Qb ↔ eqOk a b = true ∧ Qb (PyData.eqv a b) := opt_ite rfl
theorem cmp_ne {a b : D} : cmpQ .NotEq (.d a) (.d b) Qb ↔ eqOk a b = true ∧ Qb (!PyData.eqv a b) := opt_ite_map (g := not) rfl
theorem cmp_eqI : cmpQ .Eq (.d (.int i)) (.d (.int j)) Qb = Qb (decide (i = j)) := by
  rw [← beq_dec]; rfl
theorem cmp_neI : cmpQ .NotEq (.d (.int i)) (.d (.int j)) Qb = Qb (!decide (i = j)) := by
  rw [← beq_dec]; rfl
theorem cmp_eqS : cmpQ .Eq (.d (.str s)) (.d (.str t)) Qb = Qb (decide (s = t)) := by
  rw [← beq_dec]; rfl
theorem cmp_neS : cmpQ .NotEq (.d (.str s)) (.d (.str t)) Qb = Qb (!decide (s = t)) := by
  rw [← beq_dec]; rfl
theorem cmp_is {a : D} : cmpQ .Is (.d a) (.d .none) Qb = Qb (isNoneD a) := by
  cases a <;> rfl
theorem cmp_isn {a : D} : cmpQ .IsNot (.d a) (.d .none) Qb = Qb (!isNoneD a) := by
  cases a <;> rfl
theorem opt_if {α : Type} {p : Prop} [Decidable p] {a : α} {Q : α → Prop} : optQ (if p then some a else none) Q ↔ p ∧ Q a := opt_ite rfl
theorem in_tup (a : D) (ys : List D) : cmpD .In a (.tuple ys) = if flatD a && ys.all flatD then some (memD a ys) else none := by cases a <;> rfl
theorem in_lst (a : D) (ys : List D) : cmpD .In a (.list ys) = if flatD a && ys.all flatD then some (memD a ys) else none := by cases a <;> rfl
theorem nin_tup (a : D) (ys : List D) : cmpD .NotIn a (.tuple ys) = (if flatD a && ys.all flatD then some (memD a ys) else none).map not := by cases a <;> rfl
theorem nin_lst (a : D) (ys : List D) : cmpD .NotIn a (.list ys) = (if flatD a && ys.all flatD then some (memD a ys) else none).map not := by cases a <;> rfl
theorem cmp_inT {a : D} {ys : List D} : cmpQ .In (.d a) (.d (.tuple ys)) Qb ↔ (flatD a && ys.all flatD) = true ∧ Qb (memD a ys) := opt_ite (in_tup a ys)
theorem cmp_inL {a : D} {ys : List D} : cmpQ .In (.d a) (.d (.list ys)) Qb ↔ (flatD a && ys.all flatD) = true ∧ Qb (memD a ys) := opt_ite (in_lst a ys)
theorem cmp_ninT {a : D} {ys : List D} : cmpQ .NotIn (.d a) (.d (.tuple ys)) Qb ↔ (flatD a && ys.all flatD) = true ∧ Qb (!memD a ys) := opt_ite_map (nin_tup a ys)
theorem cmp_ninL {a : D} {ys : List D} : cmpQ .NotIn (.d a) (.d (.list ys)) Qb ↔ (flatD a && ys.all flatD) = true ∧ Qb (!memD a ys) := opt_ite_map (nin_lst a ys)
theorem opt_some {α : Type} {a : α} {Q : α → Prop} : optQ (some a) Q = Q a := rfl
theorem opt_map {α β : Type} {o : Option α} {g : α → β} {Q : β → Prop} : optQ (o.map g) Q = optQ o fun a => Q (g a) := by
  cases o <;> rfl
theorem ty_d {x : D} {t : String} : tysQ t (.d x) Qb = optQ (isTy t x) Qb := rfl
theorem unt_t {xs : List D} {Q : List U → Prop} : untQ n (.d (.tuple xs)) Q = (xs.length = n ∧ Q (xs.map .d)) := rfl
theorem aug_0 {op : Operator} {x : D} {u : D → Prop} : augQ op (some (.d x) :: ε) 0 u = u x := rfl
theorem aug_s {op : Operator} {u : D → Prop} : augQ op (x :: ε) (n + 1) u = augQ op ε n u := rfl
theorem augr_add : augR .Add (.int i) (.d (.int j)) Q = Q (.d (.int (i + j))) := rfl
theorem augr_sub : augR .Sub (.int i) (.d (.int j)) Q = Q (.d (.int (i - j))) := rfl
end

section
variable {G : Gm} {W : Nat} {cp : Nat → List D → R D} {cm : Nat → List U → Store → R U} {ε : Env} {st : Store} {Q : U → Store → Prop} {Qs : List U → Store → Prop} {a b c e o : E} {es : Es}
theorem r_int {i : Int} : (evE G cp cm (.con (.int i)) ε st).wp Q = Q (.d (.int i)) st := by rw [evE]; rfl
theorem r_str {s : Str} : (evE G cp cm (.con (.str s)) ε st).wp Q = Q (.d (.str s)) st := by rw [evE]; rfl
theorem r_bool {s : Bool} : (evE G cp cm (.con (.bool s)) ε st).wp Q = Q (.d (.bool s)) st := by rw [evE]; rfl
theorem r_none : (evE G cp cm (.con .none) ε st).wp Q = Q (.d .none) st := by rw [evE]; rfl
theorem r_var {i : Nat} : (evE G cp cm (.var i) ε st).wp Q = varQ ε i fun u => Q u st := by
  rw [evE]
  unfold varQ
  cases ε[i]? with
  | none => rfl
  | some w => cases w <;> rfl
theorem r_glob {g : Nat} {p : Str × D} (h : G.consts[g]? = some p) : (evE G cp cm (.glob g) ε st).wp Q = Q (.d p.2) st := by rw [evE, h]; rfl
theorem r_bin {op : Operator} : (evE G cp cm (.bin op a b) ε st).wp Q = (evE G cp cm a ε st).wp fun x st1 => (evE G cp cm b ε st1).wp fun y st2 => binQ op x y fun z => Q z st2 := by
  rw [evE, wp_bind]
  congr 1; funext x st1
  rw [wp_bind]
  congr 1; funext y st2
  cases x <;> cases y <;> try rfl
  rename_i x y
  show (ofO ((binD op x y).map U.d) st2).wp Q = optQ (binD op x y) fun z => Q (.d z) st2
  cases binD op x y <;> rfl
theorem r_neg : (evE G cp cm (.neg a) ε st).wp Q = (evE G cp cm a ε st).wp fun x st1 => negQ x fun z => Q z st1 := by
  rw [evE, wp_bind]
  congr 1; funext x st1
  rcases x with (_ | _ | _ | _ | _ | _ | _) | _ <;> rfl
theorem r_not : (evE G cp cm (.not_ a) ε st).wp Q = (evE G cp cm a ε st).wp fun x st1 => notQ x fun z => Q z st1 := by
  rw [evE, wp_bind]
  congr 1; funext x st1
  rcases x with (_ | _ | _ | _ | _ | _ | _) | _ <;> rfl
theorem r_cmp {op : CmpOp} : (evE G cp cm (.cmp op a b) ε st).wp Q = (evE G cp cm a ε st).wp fun x st1 => (evE G cp cm b ε st1).wp fun y st2 => cmpQ op x y fun z => Q (.d (.bool z)) st2 := by
  rw [evE, wp_bind]
  congr 1; funext x st1
  rw [wp_bind]
  congr 1; funext y st2
  cases x <;> cases y <;> try rfl
  rename_i x y
  show (b2 (cmpD op x y) st2).wp Q = optQ (cmpD op x y) fun z => Q (.d (.bool z)) st2
  cases cmpD op x y <;> rfl
theorem r_chain {op op2 : CmpOp} : (evE G cp cm (.chain op op2 a b c) ε st).wp Q = (evE G cp cm a ε st).wp fun x st1 => (evE G cp cm b ε st1).wp fun y st2 => cmpQ op x y fun z => tstQ (.d (.bool z)) ((evE G cp cm c ε st2).wp fun w st3 => cmpQ op2 y w fun z => Q (.d (.bool z)) st3) (Q (.d (.bool false)) st2) := by
  rw [evE, wp_bind]
  congr 1; funext x st1
  rw [wp_bind]
  congr 1; funext y st2
  cases x <;> cases y <;> try rfl
  rename_i x y
  show R.wp (match cmpD op x y with
      | some true => (evE G cp cm c ε st2).bind fun z st3 => match z with
        | .d z => b2 (cmpD op2 y z) st3
        | _ => .stuck
      | some false => .ok (.d (.bool false)) st2
      | none => .stuck) Q = optQ (cmpD op x y) fun z => tstQ (.d (.bool z)) ((evE G cp cm c ε st2).wp fun w st3 => cmpQ op2 (.d y) w fun z => Q (.d (.bool z)) st3) (Q (.d (.bool false)) st2)
  cases cmpD op x y with
  | none => rfl
  | some z =>
    cases z with
    | false => rfl
    | true =>
      show ((evE G cp cm c ε st2).bind _).wp Q = (evE G cp cm c ε st2).wp _
      rw [wp_bind]
      congr 1; funext w st3
      cases w with
      | m => rfl
      | f => rfl
      | s => rfl
      | d w =>
        show (b2 (cmpD op2 y w) st3).wp Q = optQ (cmpD op2 y w) fun z => Q (.d (.bool z)) st3
        cases cmpD op2 y w <;> rfl
theorem b_split {x : U} {r1 r2 : R U} : (match x with | .d (.bool true) => r1 | .d (.bool false) => r2 | _ => R.stuck).wp Q = tstQ x (r1.wp Q) (r2.wp Q) := by
  rcases x with (_ | b | _ | _ | _ | _ | _) | _ <;> try rfl
  cases b <;> rfl
theorem r_and : (evE G cp cm (.and_ a b) ε st).wp Q = (evE G cp cm a ε st).wp fun x st1 => tstQ x ((evE G cp cm b ε st1).wp Q) (Q (.d (.bool false)) st1) := by
  rw [evE, wp_bind]
  congr 1; funext x st1
  exact b_split
theorem r_or : (evE G cp cm (.or_ a b) ε st).wp Q = (evE G cp cm a ε st).wp fun x st1 => tstQ x (Q (.d (.bool true)) st1) ((evE G cp cm b ε st1).wp Q) := by
  rw [evE, wp_bind]
  congr 1; funext x st1
  exact b_split
theorem r_ite : (evE G cp cm (.ite c a b) ε st).wp Q = (evE G cp cm c ε st).wp fun x st1 => tstQ x ((evE G cp cm a ε st1).wp Q) ((evE G cp cm b ε st1).wp Q) := by
  rw [evE, wp_bind]
  congr 1; funext x st1
  exact b_split
theorem r_tup : (evE G cp cm (.tup es) ε st).wp Q = (evEs G cp cm es ε st).wp fun us st1 => tupQ us fun u => Q u st1 := by
  rw [evE, wp_bind]
  congr 1; funext us st1
  unfold tupQ
  cases toDs us with
  | none => rfl
  | some ds =>
    simp only
    by_cases h : ds.length ≤ sizeMax
    · rw [if_pos h]; exact propext ⟨fun q => ⟨h, q⟩, fun q => q.2⟩
    · rw [if_neg h]; exact propext ⟨fun q => q.elim, fun q => absurd q.1 h⟩
theorem tup_d {ds : List D} {Q : U → Prop} : tupQ (ds.map .d) Q = (ds.length ≤ sizeMax ∧ Q (.d (.tuple ds))) := by
  unfold tupQ; rw [toDs_map]
theorem r_lst {mu : Bool} : (evE G cp cm (.lst mu es) ε st).wp Q = (evEs G cp cm es ε st).wp fun us st1 => us.length ≤ sizeMax ∧ (allocL mu us st1).wp Q := by
  rw [evE, wp_bind]
  congr 1; funext us st1
  by_cases h : us.length ≤ sizeMax
  · rw [if_pos h]; exact propext ⟨fun q => ⟨h, q⟩, fun q => q.2⟩
  · rw [if_neg h]; exact propext ⟨fun q => q.elim, fun q => absurd q.1 h⟩
theorem r_alloc {us : List U} : (allocL true us st).wp Q = Q (.m st.length) (st ++ [.lst us]) := rfl
theorem r_alloc0 {us : List U} : (allocL false us st).wp Q = optQ (toDs us) fun ds => Q (.d (.list ds)) st := by
  unfold allocL
  cases toDs us <;> rfl
theorem r_ix : (evE G cp cm (.ix a b) ε st).wp Q = (evE G cp cm a ε st).wp fun x st1 => (evE G cp cm b ε st1).wp fun y st2 => optQ (ixU x y st2) fun z => Q z st2 := by
  rw [evE, wp_bind]
  congr 1; funext x st1
  rw [wp_bind]
  congr 1; funext y st2
  cases ixU x y st2 <;> rfl
theorem r_call {f : Nat} : (evE G cp cm (.call f es) ε st).wp Q = (evEs G cp cm es ε st).wp fun us st1 => (callU G cp cm f us st1).wp Q := by
  rw [evE, wp_bind]
theorem r_callK {f : Nat} {ks js : List Nat} : (evE G cp cm (.callK f ks js es) ε st).wp Q = (evEs G cp cm es ε st).wp fun us st1 => optQ (pick us js) fun vs => (callU G cp cm f vs st1).wp Q := by
  rw [evE, wp_bind]
  congr 1; funext us st1
  cases pick us js <;> rfl
theorem r_bcall {f : Bf} : (evE G cp cm (.bcall f es) ε st).wp Q = (evEs G cp cm es ε st).wp fun us st1 => (bfD f us st1).wp Q := by
  rw [evE, wp_bind]
theorem r_isty {t : Ty} : (evE G cp cm (.isty t e) ε st).wp Q = (evE G cp cm e ε st).wp fun u st1 => tysQ t.name u fun b => Q (.d (.bool b)) st1 := by
  rw [evE, wp_bind]
  congr 1; funext u st1
  cases u with
  | m => rfl
  | f => rfl
  | s => rfl
  | d x =>
    show (b2 (isTy t.name x) st1).wp Q = optQ (isTy t.name x) fun b => Q (.d (.bool b)) st1
    cases isTy t.name x <;> rfl
theorem r_meth0 {m : M0} : (evE G cp cm (.meth0 m o) ε st).wp Q = (evE G cp cm o ε st).wp fun x st1 => (m0D m x st1).wp Q := by rw [evE, wp_bind]
theorem r_meth1 {m : M1} : (evE G cp cm (.meth1 m o a) ε st).wp Q = (evE G cp cm o ε st).wp fun x st1 => r1Ok m x st1 = true ∧ (evE G cp cm a ε st1).wp fun u st2 => (m1D m x u st2).wp Q := by
  rw [evE, wp_bind]
  congr 1; funext x st1
  by_cases h : r1Ok m x st1 = true
  · rw [if_pos h, wp_bind]; exact propext ⟨fun q => ⟨h, q⟩, fun q => q.2⟩
  · rw [if_neg h]; exact propext ⟨fun q => q.elim, fun q => absurd q.1 h⟩
theorem r_lam {i : Nat} : (evE G cp cm (.lam i e) ε st).wp Q = Q (.f (.lam i)) st := by rw [evE]; rfl
theorem r_fnv {f : Nat} {x : Str} : (evE G cp cm (.fnv f x) ε st).wp Q = Q (.f (.def_ f x)) st := by rw [evE]; rfl
def funQ (ε : Env) (i : Nat) (Q : Fv → Prop) : Prop := match ε[i]? with
  | some (some (.f h)) => Q h
  | _ => False
theorem r_callV {i : Nat} : (evE G cp cm (.callV i es) ε st).wp Q = funQ ε i fun h => okF G h = true ∧ (evEs G cp cm es ε st).wp fun us st1 => (callF G cp cm h us st1).wp Q := by
  rw [evE]
  unfold funQ
  rcases ε[i]? with _ | (_ | (_ | _ | h | _)) <;> try rfl
  simp only
  by_cases hk : okF G h = true
  · rw [if_pos hk, wp_bind]; exact propext ⟨fun q => ⟨hk, q⟩, fun q => q.2⟩
  · rw [if_neg hk]; exact propext ⟨fun q => q.elim, fun q => absurd q.1 hk⟩
theorem r_dm {m : DM} : (evE G cp cm (.dm m o a) ε st).wp Q = (evE G cp cm o ε st).wp fun x st1 => dmOk m x = true ∧ (evE G cp cm a ε st1).wp fun u st2 => optQ (dmU m x u) fun z => Q z st2 := by
  rw [evE, wp_bind]
  congr 1; funext x st1
  by_cases h : dmOk m x = true
  · rw [if_pos h, wp_bind]
    refine propext ⟨fun q => ⟨h, ?_⟩, fun q => ?_⟩
    · refine q.imp fun u st2 z => ?_
      cases hz : dmU m x u with
      | none => rw [hz] at z; exact z.elim
      | some y => rw [hz] at z; exact z
    · refine q.2.imp fun u st2 z => ?_
      cases hz : dmU m x u with
      | none => rw [hz] at z; exact z.elim
      | some y => rw [hz] at z; exact z
  · rw [if_neg h]; exact propext ⟨fun q => q.elim, fun q => absurd q.1 h⟩
theorem r_isn {neg : Bool} : (evE G cp cm (.isn neg e) ε st).wp Q = (evE G cp cm e ε st).wp fun x st1 => Q (.d (.bool (neg != noneU x))) st1 := by
  rw [evE, wp_bind]; rfl
theorem r_catM : (evE G cp cm (.catM a b) ε st).wp Q = (evE G cp cm a ε st).wp fun x st1 => (evE G cp cm b ε st1).wp fun y st2 => (catU x y st2).wp Q := by
  rw [evE, wp_bind]
  congr 1; funext x st1
  rw [wp_bind]
theorem wp_ofO {o : Option U} : (ofO o st).wp Q = optQ o fun z => Q z st := by cases o <;> rfl
theorem r_tupX : (evE G cp cm (.tupX e) ε st).wp Q = (evE G cp cm e ε st).wp fun x st1 => optQ (tupXU x) fun z => Q z st1 := by
  rw [evE, wp_bind]
  congr 1; funext x st1
  exact wp_ofO
theorem r_trip : (evE G cp cm (.trip a b c) ε st).wp Q = (evE G cp cm a ε st).wp fun x st1 => (evE G cp cm b ε st1).wp fun y st2 => (evE G cp cm c ε st2).wp fun z st3 => optQ (tripU x y z) fun w => Q w st3 := by
  rw [evE, wp_bind]
  congr 1; funext x st1
  rw [wp_bind]
  congr 1; funext y st2
  rw [wp_bind]
  congr 1; funext z st3
  exact wp_ofO
theorem r_weak : (evE G cp cm (.weak e) ε st).wp Q = (evE G cp cm e ε st).wp fun x st1 => Q (weakU x) st1 := by
  rw [evE, wp_bind]; rfl
theorem r_tix : (evE G cp cm (.tix o a) ε st).wp Q = (evE G cp cm o ε st).wp fun x st1 => isX x = true ∧ (evE G cp cm a ε st1).wp fun u st2 => optQ (tixU x u) fun z => Q z st2 := by
  rw [evE, wp_bind]
  congr 1; funext x st1
  by_cases h : isX x = true
  · rw [if_pos h, wp_bind]
    have e : ∀ u st2, (ofO (tixU x u) st2).wp Q = optQ (tixU x u) fun z => Q z st2 := fun u st2 => wp_ofO
    simp only [e]
    exact propext ⟨fun q => ⟨h, q⟩, fun q => q.2⟩
  · rw [if_neg h]; exact propext ⟨fun q => q.elim, fun q => absurd q.1 h⟩
theorem r_dict {ks : List Str} : (evE G cp cm (.dict ks es) ε st).wp Q = (evEs G cp cm es ε st).wp fun us st1 => optQ (dictU ks us) fun z => Q z st1 := by
  rw [evE, wp_bind]
  congr 1; funext us st1
  cases dictU ks us <;> rfl
theorem r_slice {lo hi : Es} : (evE G cp cm (.slice a lo hi) ε st).wp Q = (evE G cp cm a ε st).wp fun x st1 => ((evEs G cp cm lo ε st1).bind partI).wp fun l st2 => ((evEs G cp cm hi ε st2).bind partI).wp fun h st3 => optQ (slU x l h st3) fun z => Q z st3 := by
  rw [evE, wp_bind]
  congr 1; funext x st1
  rw [wp_bind]
  congr 1; funext l st2
  rw [wp_bind]
  congr 1; funext h st3
  cases slU x l h st3 <;> rfl
theorem r_nil : (evEs G cp cm .nil ε st).wp Qs = Qs [] st := by rw [evEs]; rfl
theorem r_cons : (evEs G cp cm (.cons e es) ε st).wp Qs = (evE G cp cm e ε st).wp fun u st1 => (evEs G cp cm es ε st1).wp fun us st2 => Qs (u :: us) st2 := by
  rw [evEs, wp_bind]
  congr 1; funext u st1
  rw [wp_bind]
  rfl
/-! ### statements -/
variable {D : Out} {s : S} {p q : Ss} {t : Tg}
theorem s_pass : (exS G W cp cm .pass ε st).wp D = D.nx ε st := by rw [exS]; rfl
theorem s_ret : (exS G W cp cm (.ret e) ε st).wp D = (evE G cp cm e ε st).wp D.rt := by
  rw [exS, wpS_bind]; rfl
theorem s_retN : (exS G W cp cm .retN ε st).wp D = D.rt (.d .none) st := by rw [exS]; rfl
theorem s_asg {i : Nat} : (exS G W cp cm (.asg (.name i) e) ε st).wp D = (evE G cp cm e ε st).wp fun u st1 => D.nx (setE i u ε) st1 := by
  rw [exS, wpS_bind]; rfl
theorem s_sub {u : U} : (asgTg G cp cm (.sub o a) u ε st).wp D = (evE G cp cm o ε st).wp fun ov st1 => (evE G cp cm a ε st1).wp fun iv st2 => (setSub ov iv u st2).wp fun _ st3 => D.nx ε st3 := by
  unfold asgTg
  rw [wpS_bind]
  congr 1; funext ov st1
  rw [wpS_bind]
  congr 1; funext iv st2
  rw [wpS_bind]
  rfl
theorem s_asgS : (exS G W cp cm (.asg (.sub o a) e) ε st).wp D = (evE G cp cm e ε st).wp fun u st1 => (asgTg G cp cm (.sub o a) u ε st1).wp D := by
  rw [exS, wpS_bind]
theorem s_tup {ts : List Tg} : (exS G W cp cm (.tup ts e) ε st).wp D = (evE G cp cm e ε st).wp fun u st1 => untQ ts.length u fun us => (asgTgs G cp cm ts us ε st1).wp D := by
  rw [exS, wpS_bind]
  congr 1; funext u st1
  unfold untQ
  rcases u with (_ | _ | _ | _ | _ | xs | _) | _ | _ | (xs | ⟨a, b, xs⟩) <;> try rfl
  · show (if xs.length = ts.length then asgTgs G cp cm ts (xs.map .d) ε st1 else .stuck).wp D = _
    by_cases h : xs.length = ts.length
    · rw [if_pos h]; exact propext ⟨fun q => ⟨h, q⟩, fun q => q.2⟩
    · rw [if_neg h]; exact propext ⟨fun q => q.elim, fun q => absurd q.1 h⟩
  · show (if ts.length = 3 then asgTgs G cp cm ts [.d a, .d b, .s (.x xs)] ε st1 else .stuck).wp D = _
    by_cases h : ts.length = 3
    · rw [if_pos h]; exact propext ⟨fun q => ⟨h, q⟩, fun q => q.2⟩
    · rw [if_neg h]; exact propext ⟨fun q => q.elim, fun q => absurd q.1 h⟩
theorem s_tgs0 : (asgTgs G cp cm [] [] ε st).wp D = D.nx ε st := rfl
theorem s_tgs {ts : List Tg} {u : U} {us : List U} : (asgTgs G cp cm (t :: ts) (u :: us) ε st).wp D = (asgTg G cp cm t u ε st).wp { D with nx := fun ε1 st1 => (asgTgs G cp cm ts us ε1 st1).wp D } := by
  have e : asgTgs G cp cm (t :: ts) (u :: us) ε st = match asgTg G cp cm t u ε st with
    | .nx ε1 st1 => asgTgs G cp cm ts us ε1 st1
    | r => r := by first | (rw [asgTgs]; rfl) | rw [asgTgs]
  rw [e]
  cases asgTg G cp cm t u ε st <;> rfl
theorem s_tgN {i : Nat} {u : U} : (asgTg G cp cm (.name i) u ε st).wp D = D.nx (setE i u ε) st := rfl
theorem s_par {is : List Nat} : (exS G W cp cm (.par is es) ε st).wp D = (evEs G cp cm es ε st).wp fun us st1 => optQ (setEs is us ε) fun ε1 => D.nx ε1 st1 := by
  rw [exS, wpS_bind]
  congr 1; funext us st1
  cases setEs is us ε <;> rfl
theorem s_par3 {is : List Nat} : (exS G W cp cm (.par3 is es) ε st).wp D = (evEs G cp cm es ε st).wp fun us st1 => optQ (setEs is us ε) fun ε1 => D.nx ε1 st1 := by
  rw [exS, wpS_bind]
  congr 1; funext us st1
  cases setEs is us ε <;> rfl
theorem s_ex : (exS G W cp cm (.ex e) ε st).wp D = (evE G cp cm e ε st).wp fun _ st1 => D.nx ε st1 := by
  rw [exS, wpS_bind]; rfl
theorem s_aug {i : Nat} {op : Operator} : (exS G W cp cm (.aug i op e) ε st).wp D = augQ op ε i fun x => (evE G cp cm e ε st).wp fun u st1 => augR op x u fun z => D.nx (setE i z ε) st1 := by
  rw [exS]
  unfold augQ
  cases h : ε[i]? with
  | none => rfl
  | some w => cases w with
    | none => rfl
    | some u => cases u with
      | m => rfl
      | f => rfl
      | s => rfl
      | d x =>
        simp only
        rw [wpS_bind]
        congr 1; funext u st1
        cases u with
        | m => rfl
        | f => rfl
        | s => rfl
        | d y =>
          show (match augD op x y with
            | some z => RS.nx (setE i (.d z) ε) st1
            | none => .stuck).wp D = optQ (augD op x y) fun z => D.nx (setE i (.d z) ε) st1
          cases augD op x y <;> rfl
theorem s_if : (exS G W cp cm (.ifs e p q) ε st).wp D = (evE G cp cm e ε st).wp fun u st1 => tstQ u ((exSs G W cp cm p ε st1).wp D) ((exSs G W cp cm q ε st1).wp D) := by
  rw [exS, wpS_bind]
  congr 1; funext u st1
  rcases u with (_ | b | _ | _ | _ | _ | _) | _ <;> try rfl
  cases b <;> rfl
theorem s_for {t : Tn} {ik : Ik} : (exS G W cp cm (.for_ t ik es p) ε st).wp D = (evEs G cp cm es ε st).wp fun us st1 => optQ (walkU ik us st1) fun items => (forLoop (setTn t) (fun ε1 st2 => exSs G W cp cm p ε1 st2) items ε st1).wp D := by
  rw [exS, wpS_bind, wp_bind]
  congr 1; funext us st1
  cases walkU ik us st1 <;> rfl
theorem s_brk : (exS G W cp cm .brk ε st).wp D = D.bk ε st := by rw [exS]; rfl
theorem s_cnt : (exS G W cp cm .cnt ε st).wp D = D.ct ε st := by rw [exS]; rfl
end
theorem set_0 {u : U} {x : Option U} {ε : Env} : setE 0 u (x :: ε) = some u :: ε := rfl
theorem set_s {n : Nat} {u : U} {x : Option U} {ε : Env} : setE (n + 1) u (x :: ε) = x :: setE n u ε := rfl
theorem cmp_eqB {a b : Bool} {Qb : Bool → Prop} : cmpQ .Eq (.d (.bool a)) (.d (.bool b)) Qb = Qb (a == b) := rfl
/-! ### kinds -/
def intB : D → Bool
  | .int _ => true
  | .bool _ => true
  | _ => false
def boolB : D → Bool
  | .bool _ => true
  | _ => false
def strB : D → Bool
  | .str _ => true
  | _ => false
def tupB : D → Bool
  | .tuple _ => true
  | _ => false
def lstB : D → Bool
  | .list _ => true
  | _ => false
theorem ty_int {Q : Bool → Prop} : ∀ x : D, optQ (isTy Ty.int.name x) Q = Q (intB x)
  | .none => by rw [show isTy Ty.int.name .none = some false from (by decide : L2.kitB "NoneType" "int" = some false)]; rfl
  | .bool b => by rw [show isTy Ty.int.name (.bool b) = some true from (by decide : L2.kitB "bool" "int" = some true)]; rfl
  | .int b => by rw [show isTy Ty.int.name (.int b) = some true from (by decide : L2.kitB "int" "int" = some true)]; rfl
  | .str b => by rw [show isTy Ty.int.name (.str b) = some false from (by decide : L2.kitB "str" "int" = some false)]; rfl
  | .list b => by rw [show isTy Ty.int.name (.list b) = some false from (by decide : L2.kitB "list" "int" = some false)]; rfl
  | .tuple b => by rw [show isTy Ty.int.name (.tuple b) = some false from (by decide : L2.kitB "tuple" "int" = some false)]; rfl
  | .dict b => by rw [show isTy Ty.int.name (.dict b) = some false from (by decide : L2.kitB "dict" "int" = some false)]; rfl
theorem ty_bool {Q : Bool → Prop} : ∀ x : D, optQ (isTy Ty.bool.name x) Q = Q (boolB x)
  | .none => by rw [show isTy Ty.bool.name .none = some false from (by decide : L2.kitB "NoneType" "bool" = some false)]; rfl
  | .bool b => by rw [show isTy Ty.bool.name (.bool b) = some true from (by decide : L2.kitB "bool" "bool" = some true)]; rfl
  | .int b => by rw [show isTy Ty.bool.name (.int b) = some false from (by decide : L2.kitB "int" "bool" = some false)]; rfl
  | .str b => by rw [show isTy Ty.bool.name (.str b) = some false from (by decide : L2.kitB "str" "bool" = some false)]; rfl
  | .list b => by rw [show isTy Ty.bool.name (.list b) = some false from (by decide : L2.kitB "list" "bool" = some false)]; rfl
  | .tuple b => by rw [show isTy Ty.bool.name (.tuple b) = some false from (by decide : L2.kitB "tuple" "bool" = some false)]; rfl
  | .dict b => by rw [show isTy Ty.bool.name (.dict b) = some false from (by decide : L2.kitB "dict" "bool" = some false)]; rfl
theorem ty_str {Q : Bool → Prop} : ∀ x : D, optQ (isTy Ty.str.name x) Q = Q (strB x)
  | .none => by rw [show isTy Ty.str.name .none = some false from (by decide : L2.kitB "NoneType" "str" = some false)]; rfl
  | .bool b => by rw [show isTy Ty.str.name (.bool b) = some false from (by decide : L2.kitB "bool" "str" = some false)]; rfl
  | .int b => by rw [show isTy Ty.str.name (.int b) = some false from (by decide : L2.kitB "int" "str" = some false)]; rfl
  | .str b => by rw [show isTy Ty.str.name (.str b) = some true from (by decide : L2.kitB "str" "str" = some true)]; rfl
  | .list b => by rw [show isTy Ty.str.name (.list b) = some false from (by decide : L2.kitB "list" "str" = some false)]; rfl
  | .tuple b => by rw [show isTy Ty.str.name (.tuple b) = some false from (by decide : L2.kitB "tuple" "str" = some false)]; rfl
  | .dict b => by rw [show isTy Ty.str.name (.dict b) = some false from (by decide : L2.kitB "dict" "str" = some false)]; rfl
theorem ty_tup {Q : Bool → Prop} : ∀ x : D, optQ (isTy Ty.tuple.name x) Q = Q (tupB x)
  | .none => by rw [show isTy Ty.tuple.name .none = some false from (by decide : L2.kitB "NoneType" "tuple" = some false)]; rfl
  | .bool b => by rw [show isTy Ty.tuple.name (.bool b) = some false from (by decide : L2.kitB "bool" "tuple" = some false)]; rfl
  | .int b => by rw [show isTy Ty.tuple.name (.int b) = some false from (by decide : L2.kitB "int" "tuple" = some false)]; rfl
  | .str b => by rw [show isTy Ty.tuple.name (.str b) = some false from (by decide : L2.kitB "str" "tuple" = some false)]; rfl
  | .list b => by rw [show isTy Ty.tuple.name (.list b) = some false from (by decide : L2.kitB "list" "tuple" = some false)]; rfl
  | .tuple b => by rw [show isTy Ty.tuple.name (.tuple b) = some true from (by decide : L2.kitB "tuple" "tuple" = some true)]; rfl
  | .dict b => by rw [show isTy Ty.tuple.name (.dict b) = some false from (by decide : L2.kitB "dict" "tuple" = some false)]; rfl
theorem chr_inj {c d : Char} (h : c.toNat = d.toNat) : c = d := Char.ext (UInt32.toNat_inj.mp h)
theorem chrs_inj : ∀ {l m : List Char}, l.map Char.toNat = m.map Char.toNat → l = m
  | [], [], _ => rfl
  | [], _ :: _, h => by cases h
  | _ :: _, [], h => by cases h
  | c :: l, d :: m, h => by
    rw [List.map_cons, List.map_cons] at h
    injection h with h1 h2
    rw [chr_inj h1, chrs_inj h2]
theorem str_eq {s t : String} : (Str.ofString s = Str.ofString t) = (s = t) := by
  refine propext ⟨fun h => ?_, fun h => by rw [h]⟩
  rw [Str.ofString_eq_toList, Str.ofString_eq_toList] at h
  injection h with h
  have h2 : s.toList.map Char.toNat = t.toList.map Char.toNat := by
    have := congrArg Array.toList h
    simpa using this
  exact String.toList_injective (chrs_inj h2) 
/-- among texts -/
theorem mem_nil {x : D} : memD x [] = false := rfl
theorem mem_str {s t : Str} {ys : List D} : memD (.str s) (.str t :: ys) = (decide (s = t) || memD (.str s) ys) := by
  show (PyData.eqv (.str t) (.str s) || _) = _
  have : PyData.eqv (.str t) (.str s) = decide (s = t) := by
    show (t == s) = _
    rw [beq_dec]
    by_cases h : s = t
    · subst h; rfl
    · rw [decide_eq_false h, decide_eq_false fun z => h z.symm]
  rw [this]
  rfl
theorem flat_str {s : Str} : flatD (.str s) = true := rfl
theorem flat_int {s : Int} : flatD (.int s) = true := rfl
section
variable {st : Store} {Q : Option Int → Store → Prop} {xs : List D}
theorem part_0 : (partI [] st).wp Q = Q none st := rfl
theorem part_1 {i : Int} : (partI [.d (.int i)] st).wp Q = Q (some i) st := rfl
theorem sl_list {lo hi : Option Int} : slU (.d (.list xs)) lo hi st = some (.d (.list (sl xs lo hi))) := rfl
theorem sl_tuple {lo hi : Option Int} : slU (.d (.tuple xs)) lo hi st = some (.d (.tuple (sl xs lo hi))) := rfl
theorem wk_list : walkU .val [.d (.list xs)] st = some (xs.map .d) := rfl
theorem wk_tuple : walkU .val [.d (.tuple xs)] st = some (xs.map .d) := rfl
end
theorem sl_map {α β : Type} {f : α → β} {xs : List α} {lo hi : Option Int} : sl (xs.map f) lo hi = (sl xs lo hi).map f := by
  unfold sl
  rw [List.length_map, List.map_take, List.map_drop]
theorem mem_ints {u : U} {ns : List Int} (h : u ∈ (ns.map PyData.int).map U.d) : ∃ i : Int, u = .d (.int i) := by
  rw [List.map_map, List.mem_map] at h
  obtain ⟨i, _, e⟩ := h
  exact ⟨i, e.symm⟩
theorem range_mem : ∀ {n : Nat} {lo : Int} {u : U}, u ∈ rangeU lo n → ∃ i : Int, u = .d (.int i) ∧ lo ≤ i ∧ i < lo + n
  | 0, _, _, h => nomatch h
  | n + 1, lo, u, h => by
    unfold rangeU at h
    rcases List.mem_cons.mp h with rfl | h
    · exact ⟨lo, rfl, by omega, by omega⟩
    · obtain ⟨i, e, h1, h2⟩ := range_mem h
      exact ⟨i, e, by omega, by omega⟩
theorem range_len : ∀ {n : Nat} {lo : Int}, (rangeU lo n).length = n
  | 0, _ => rfl
  | n + 1, lo => by
    unfold rangeU
    rw [List.length_cons, range_len]
theorem walk_r1 {j : Int} {st : Store} {Q : List U → Prop} : optQ (walkU .r1 [.d (.int j)] st) Q ↔ (-(2 ^ 62) ≤ j ∧ j < 2 ^ 62) ∧ Q (rangeU 0 j.toNat) := opt_ite rfl
theorem walk_r2 {i j : Int} {st : Store} {Q : List U → Prop} : optQ (walkU .r2 [.d (.int i), .d (.int j)] st) Q ↔ (-(2 ^ 62) ≤ i ∧ i < 2 ^ 62 ∧ -(2 ^ 62) ≤ j ∧ j < 2 ^ 62) ∧ Q (rangeU i (j - i).toNat) := opt_ite rfl
section
variable {G : Gm} {W : Nat} {cp : Nat → List D → R D} {cm : Nat → List U → Store → R U} {ε : Env} {st : Store} {Q : U → Store → Prop}
theorem r_comp {mu : Bool} {elt : E} {tg : Tn} {ik : Ik} {its ifs : Es} {own : List Nat} : (evE G cp cm (.comp mu elt tg ik its ifs own) ε st).wp Q = (evEs G cp cm its ε st).wp fun us st1 => optQ (walkU ik us st1) fun items => (compLoop (fun u st2 => match setTn tg u (wipeE ε own) with
        | none => .stuck
        | some ε1 => (evEs G cp cm ifs ε1 st2).nox.bind fun bs st3 => match bs with
          | [] => (evE G cp cm elt ε1 st3).nox.bind fun x st4 => .ok (some x) st4
          | [.d (.bool true)] => (evE G cp cm elt ε1 st3).nox.bind fun x st4 => .ok (some x) st4
          | [.d (.bool false)] => .ok none st3
          | _ => .stuck) items [] st1).wp fun acc st5 => (allocL mu acc st5).wp Q := by
  rw [evE]
  rw [wp_bind, wp_bind]
  congr 1; funext us st1
  cases walkU ik us st1 with
  | none => rfl
  | some items => exact wp_bind
theorem nox_wp {α : Type} {r : R α} {Q : α → Store → Prop} : r.nox.wp Q = r.wp Q := by
  cases r <;> rfl
/-- one turn of a comprehension -/
def compQ (G : Gm) (cp : Nat → List D → R D) (cm : Nat → List U → Store → R U) (elt : E) (ifs : Es) (ε1 : Env) (st : Store) (Q : Option U → Store → Prop) : Prop :=
  (evEs G cp cm ifs ε1 st).wp fun bs st3 => match bs with
    | [] => (evE G cp cm elt ε1 st3).wp fun x st4 => Q (some x) st4
    | [b] => tstQ b ((evE G cp cm elt ε1 st3).wp fun x st4 => Q (some x) st4) (Q none st3)
    | _ => False
theorem turn_wp {elt : E} {ifs : Es} {tg : Tn} {u : U} {ε1 : Env} {Q : Option U → Store → Prop} (h : setTn tg u ε = some ε1) : R.wp (match setTn tg u ε with
        | none => .stuck
        | some ε1 => (evEs G cp cm ifs ε1 st).nox.bind fun bs st3 => match bs with
          | [] => (evE G cp cm elt ε1 st3).nox.bind fun x st4 => .ok (some x) st4
          | [.d (.bool true)] => (evE G cp cm elt ε1 st3).nox.bind fun x st4 => .ok (some x) st4
          | [.d (.bool false)] => .ok none st3
          | _ => .stuck) Q = compQ G cp cm elt ifs ε1 st Q := by
  rw [h]
  show R.wp (R.bind _ _) _ = _
  rw [wp_bind, nox_wp]
  unfold compQ
  congr 1; funext bs st3
  rcases bs with _ | ⟨b, _ | ⟨c, bs⟩⟩
  · show R.wp (R.bind _ _) _ = _
    rw [wp_bind, nox_wp]; rfl
  · rcases b with (_ | b | _ | _ | _ | _ | _) | _ <;> try rfl
    cases b
    · rfl
    · show R.wp (R.bind _ _) _ = _
      rw [wp_bind, nox_wp]; rfl
  · rcases b with (_ | b | _ | _ | _ | _ | _) | _ <;> try rfl
    cases b <;> rfl
end
theorem cmp_isB {a b : Bool} {Qb : Bool → Prop} : cmpQ .Is (.d (.bool a)) (.d (.bool b)) Qb = Qb (decide (a = b)) := rfl
theorem cmp_isnB {a b : Bool} {Qb : Bool → Prop} : cmpQ .IsNot (.d (.bool a)) (.d (.bool b)) Qb = Qb (!decide (a = b)) := rfl
/-! ### loops that are followed turn by turn -/
theorem for_wp_n {set : U → Env → Option Env} {body : Env → Store → RS} {D : Out} (I : Nat → Env → Store → Prop) : ∀ {items : List U}, (∀ u ∈ items, ∀ n ε st, I (n + 1) ε st → ∃ ε1, set u ε = some ε1 ∧ (body ε1 st).wp { D with nx := I n, ct := I n, bk := D.nx }) → (∀ ε st, I 0 ε st → D.nx ε st) → ∀ {ε : Env} {st : Store}, I items.length ε st → (forLoop set body items ε st).wp D
  | [], _, fin, ε, st, h => fin ε st h
  | u :: us, step, fin, ε, st, h => by
    obtain ⟨ε1, e1, b⟩ := step u (List.mem_cons_self ..) us.length ε st h
    unfold forLoop
    rw [e1]
    simp only
    cases r : body ε1 st with
    | nx ε2 st2 => rw [r] at b; exact for_wp_n I (fun v hv => step v (List.mem_cons_of_mem _ hv)) fin b
    | cnt ε2 st2 => rw [r] at b; exact for_wp_n I (fun v hv => step v (List.mem_cons_of_mem _ hv)) fin b
    | brk ε2 st2 => rw [r] at b; exact b
    | ret => rw [r] at b; exact b
    | exc => rw [r] at b; exact b
    | stuck => rw [r] at b; exact b
/-- a comprehension whose turns leave the store alone -/
theorem comp_pure {f : U → Store → R (Option U)} {Q : List U → Store → Prop} {g : U → Option U} {st : Store} : ∀ {items acc : List U}, acc.length + items.length ≤ sizeMax → (∀ u ∈ items, ∀ Q : Option U → Store → Prop, Q (g u) st → (f u st).wp Q) → Q (acc ++ items.filterMap g) st → (compLoop f items acc st).wp Q
  | [], acc, _, _, q => by
    rw [List.filterMap_nil, List.append_nil] at q
    exact q
  | u :: us, acc, hl, step, q => by
    rw [List.length_cons] at hl
    unfold compLoop
    rw [wp_bind]
    refine step u (List.mem_cons_self ..) _ ?_
    cases hg : g u with
    | none =>
      rw [List.filterMap_cons_none hg] at q
      exact comp_pure (by omega) (fun v hv => step v (List.mem_cons_of_mem _ hv)) q
    | some x =>
      simp only
      rw [if_pos (by omega)]
      rw [List.filterMap_cons_some hg] at q
      refine comp_pure (by rw [List.length_append, List.length_singleton]; omega) (fun v hv => step v (List.mem_cons_of_mem _ hv)) ?_
      rw [List.append_assoc]
      exact q
theorem compA_pure {f : U → List U → Store → R (List U)} {Q : List U → Store → Prop} {g : U → List U} {st : Store} {B : Nat} : ∀ {items acc : List U}, acc.length + B * items.length ≤ sizeMax → (∀ u ∈ items, (g u).length ≤ B) → (∀ u ∈ items, ∀ (acc : List U) (Q : List U → Store → Prop), acc.length + B ≤ sizeMax → Q (acc ++ g u) st → (f u acc st).wp Q) → Q (acc ++ items.flatMap g) st → (compLoopA f items acc st).wp Q
  | [], acc, _, _, _, q => by
    rw [List.flatMap_nil, List.append_nil] at q
    exact q
  | u :: us, acc, hl, hb, step, q => by
    rw [List.length_cons, Nat.mul_succ] at hl
    unfold compLoopA
    rw [wp_bind]
    refine step u (List.mem_cons_self ..) acc _ (by omega) ?_
    rw [List.flatMap_cons, ← List.append_assoc] at q
    have := hb u (List.mem_cons_self ..)
    exact compA_pure (by rw [List.length_append]; omega) (fun v hv => hb v (List.mem_cons_of_mem _ hv)) (fun v hv => step v (List.mem_cons_of_mem _ hv)) q
section
variable {G : Gm} {W : Nat} {cp : Nat → List D → R D} {cm : Nat → List U → Store → R U} {ε : Env} {st : Store} {Q : U → Store → Prop} {es : Es}
theorem r_rep {n : Nat} : (evE G cp cm (.rep es n) ε st).wp Q = (evEs G cp cm es ε st).wp fun us st1 => optQ (repU n us) fun z => Q z st1 := by
  rw [evE, wp_bind]
  congr 1; funext us st1
  cases repU n us <;> rfl
theorem r_comp2 {mu : Bool} {elt : E} {tg : Tn} {ik : Ik} {its ifs : Es} {tg1 : Tn} {ik1 : Ik} {its1 ifs1 : Es} {own own1 : List Nat} : (evE G cp cm (.comp2 mu elt tg ik its ifs tg1 ik1 its1 ifs1 own own1) ε st).wp Q = (evEs G cp cm its ε st).wp fun us st1 => optQ (walkU ik us st1) fun items => (compLoopA (fun u acc st2 => match setTn tg u (wipeE ε own) with
        | none => .stuck
        | some ε1 => (evEs G cp cm ifs ε1 st2).nox.bind fun bs st3 => match tstB bs with
          | some true => ((evEs G cp cm its1 ε1 st3).bind fun us st4 => ofO (walkU ik1 us st4) st4).nox.bind fun items1 st5 => compLoop (fun u st2 => match setTn tg1 u (wipeE ε1 own1) with
            | none => .stuck
            | some ε2 => (evEs G cp cm ifs1 ε2 st2).nox.bind fun bs st3 => match bs with
              | [] => (evE G cp cm elt ε2 st3).nox.bind fun x st4 => .ok (some x) st4
              | [.d (.bool true)] => (evE G cp cm elt ε2 st3).nox.bind fun x st4 => .ok (some x) st4
              | [.d (.bool false)] => .ok none st3
              | _ => .stuck) items1 acc st5
          | some false => .ok acc st3
          | none => .stuck) items [] st1).wp fun acc st5 => (allocL mu acc st5).wp Q := by
  rw [evE]
  rw [wp_bind, wp_bind]
  congr 1; funext us st1
  cases walkU ik us st1 with
  | none => rfl
  | some items => exact wp_bind
end
section
variable {α : Type} {a b : α}
theorem at1_0 : L2.atI [a] 0 = some a := rfl
theorem at2_0 : L2.atI [a, b] 0 = some a := rfl
theorem at2_1 : L2.atI [a, b] 1 = some b := rfl
end
section
variable {G : Gm} {W : Nat} {cp : Nat → List D → R D} {cm : Nat → List U → Store → R U} {ε ε1 : Env} {st : Store}
/-- an outer turn of a comprehension of two fors -/
theorem turn2_wp {elt : E} {tg tg1 : Tn} {ifs its1 ifs1 : Es} {ik1 : Ik} {own1 : List Nat} {u : U} {acc : List U} {Q : List U → Store → Prop} (h : setTn tg u ε = some ε1) : R.wp (match setTn tg u ε with
        | none => .stuck
        | some ε1 => (evEs G cp cm ifs ε1 st).nox.bind fun bs st3 => match tstB bs with
          | some true => ((evEs G cp cm its1 ε1 st3).bind fun us st4 => ofO (walkU ik1 us st4) st4).nox.bind fun items1 st5 => compLoop (fun u st2 => match setTn tg1 u (wipeE ε1 own1) with
            | none => .stuck
            | some ε2 => (evEs G cp cm ifs1 ε2 st2).nox.bind fun bs st3 => match bs with
              | [] => (evE G cp cm elt ε2 st3).nox.bind fun x st4 => .ok (some x) st4
              | [.d (.bool true)] => (evE G cp cm elt ε2 st3).nox.bind fun x st4 => .ok (some x) st4
              | [.d (.bool false)] => .ok none st3
              | _ => .stuck) items1 acc st5
          | some false => .ok acc st3
          | none => .stuck) Q = (evEs G cp cm ifs ε1 st).wp fun bs st3 => optQ (tstB bs) fun b => tstQ (.d (.bool b)) ((evEs G cp cm its1 ε1 st3).wp fun us st4 => optQ (walkU ik1 us st4) fun items1 => (compLoop (fun u st2 => match setTn tg1 u (wipeE ε1 own1) with
            | none => .stuck
            | some ε2 => (evEs G cp cm ifs1 ε2 st2).nox.bind fun bs st3 => match bs with
              | [] => (evE G cp cm elt ε2 st3).nox.bind fun x st4 => .ok (some x) st4
              | [.d (.bool true)] => (evE G cp cm elt ε2 st3).nox.bind fun x st4 => .ok (some x) st4
              | [.d (.bool false)] => .ok none st3
              | _ => .stuck) items1 acc st4).wp Q) (Q acc st3) := by
  rw [h]
  show R.wp (R.bind _ _) _ = _
  rw [wp_bind, nox_wp]
  congr 1; funext bs st3
  cases tstB bs with
  | none => rfl
  | some b =>
    cases b with
    | false => rfl
    | true =>
      show R.wp (R.bind _ _) _ = R.wp _ _
      rw [wp_bind, nox_wp, wp_bind]
      congr 1; funext us st4
      cases walkU ik1 us st4 <;> rfl
end
end Ev
end

section
set_option maxRecDepth 100000
set_option autoImplicit false
namespace K34
open Ev PySem PySem.Spec PyProof.Rows L2

/-- a lambda -/
def el0 : E := (.call 29 (.cons (.var 0) (.cons (.con (.int 1)) (.cons (.con (.int 16)) .nil))))
def f44 : Fn := ⟨"<lambda>", ["each"], ["each"], true, .cons (.ret el0) .nil, [], [], false⟩
/-- is_whole -/
def b0 : Ss := (.cons (.ret (.and_ (.isty .int (.var 0)) (.not_ (.isty .bool (.var 0))))) .nil)
def f0 : Fn := ⟨"is_whole", ["value"], ["value"], true, b0, [], [], false⟩
/-- is_number -/
def b1 : Ss := (.cons (.ret (.and_ (.call 0 (.cons (.var 0) .nil)) (.and_ (.cmp .LtE (.var 1) (.var 0)) (.or_ (.cmp .Is (.var 2) (.con .none)) (.cmp .LtE (.var 0) (.var 2)))))) .nil)
def f1 : Fn := ⟨"is_number", ["value", "low", "high"], ["value", "low", "high"], true, b1, [.none], [], false⟩
/-- is_tuple_of -/
def b2 : Ss := (.cons (.ret (.and_ (.isty .tuple (.var 0)) (.cmp .Eq (.bcall .len (.cons (.var 0) .nil)) (.var 1)))) .nil)
def f2 : Fn := ⟨"is_tuple_of", ["value", "many"], ["value", "many"], true, b2, [], [], false⟩
/-- is_text_of -/
def b3 : Ss := (.cons (.ret (.and_ (.isty .str (.var 0)) (.and_ (.cmp .NotEq (.var 0) (.con (.str ""))) (.bcall .all (.cons (.comp false (.cmp .In (.var 2) (.var 1)) (.one 2) .val (.cons (.var 0) .nil) .nil [2]) .nil))))) .nil)
def f3 : Fn := ⟨"is_text_of", ["value", "signs"], ["value", "signs", "sign"], true, b3, [], [], false⟩
/-- is_plain_name -/
def b4 : Ss := (.cons (.ret (.and_ (.call 3 (.cons (.var 0) (.cons (.glob 0) .nil))) (.and_ (.cmp .LtE (.bcall .len (.cons (.var 0) .nil)) (.glob 1)) (.cmp .NotIn (.var 0) (.glob 2))))) .nil)
def f4 : Fn := ⟨"is_plain_name", ["value"], ["value"], true, b4, [], [], false⟩
/-- made_of -/
def b5 : Ss := (.cons (.ret (.comp false (.tup (.cons (.var 2) (.cons (.var 4) .nil))) (.nest 2 [3, 4]) .enum (.cons (.var 0) .nil) (.cons (.cmp .Eq (.var 3) (.var 1)) .nil) [2, 3, 4])) .nil)
def f5 : Fn := ⟨"made_of", ["rows", "word"], ["rows", "word", "code", "own", "letters"], true, b5, [], [], false⟩
/-- bound_of -/
def b6 : Ss := (.cons (.ifs (.cmp .Eq (.var 0) (.con (.str "n"))) (.cons (.ret (.tup (.cons (.glob 3) (.cons (.glob 4) .nil)))) .nil) .nil) (.cons (.ifs (.cmp .Eq (.var 0) (.con (.str "k"))) (.cons (.ret (.tup (.cons (.con (.int 1)) (.cons (.glob 5) .nil)))) .nil) .nil) (.cons (.asg (.name 3) (.dict ["p", "b", "a", "s", "l", "c"] (.cons (.glob 6) (.cons (.bin .Add (.glob 7) (.glob 8)) (.cons (.var 1) (.cons (.glob 9) (.cons (.var 2) (.cons (.glob 10) .nil)))))))) (.cons (.ret (.tup (.cons (.con (.int 0)) (.cons (.bin .Sub (.ix (.var 3) (.var 0)) (.con (.int 1))) .nil)))) .nil))))
def f6 : Fn := ⟨"bound_of", ["letter", "shares", "many"], ["letter", "shares", "many", "counts"], true, b6, [], [], false⟩
/-- is_part_of_row -/
def b7 : Ss := (.cons (.tup [(.name 4), (.name 5)] (.call 6 (.cons (.var 0) (.cons (.var 2) (.cons (.var 3) .nil))))) (.cons (.ret (.call 1 (.cons (.var 1) (.cons (.var 4) (.cons (.var 5) .nil))))) .nil))
def f7 : Fn := ⟨"is_part_of_row", ["letter", "value", "shares", "many"], ["letter", "value", "shares", "many", "low", "high"], true, b7, [], [], false⟩
/-- is_row -/
def b8 : Ss := (.cons (.ifs (.or_ (.not_ (.isty .tuple (.var 1))) (.or_ (.cmp .Eq (.var 1) (.tup .nil)) (.not_ (.isty .str (.ix (.var 1) (.con (.int 0))))))) (.cons (.ret (.con (.bool false))) .nil) .nil) (.cons (.for_ (.tup [4, 5]) .val (.cons (.call 5 (.cons (.var 0) (.cons (.ix (.var 1) (.con (.int 0))) .nil))) .nil) (.cons (.ifs (.cmp .NotEq (.bcall .len (.cons (.var 1) .nil)) (.bin .Add (.bcall .len (.cons (.var 5) .nil)) (.con (.int 1)))) (.cons (.ret (.con (.bool false))) .nil) .nil) (.cons (.ret (.bcall .all (.cons (.comp false (.call 7 (.cons (.var 6) (.cons (.var 7) (.cons (.var 2) (.cons (.var 3) .nil))))) (.tup [6, 7]) .zip (.cons (.var 5) (.cons (.slice (.var 1) (.cons (.con (.int 1)) .nil) .nil) .nil)) .nil [6, 7]) .nil))) .nil))) (.cons (.ret (.con (.bool false))) .nil)))
def f8 : Fn := ⟨"is_row", ["rows", "value", "shares", "many"], ["rows", "value", "shares", "many", "_", "letters", "letter", "each"], true, b8, [], [], false⟩
/-- boxes_in -/
def b9 : Ss := (.cons (.asg (.name 1) (.ix (.ix (.call 5 (.cons (.glob 11) (.cons (.ix (.var 0) (.con (.int 0))) .nil))) (.con (.int 0))) (.con (.int 1)))) (.cons (.ret (.comp false (.var 3) (.tup [2, 3]) .zip (.cons (.var 1) (.cons (.slice (.var 0) (.cons (.con (.int 1)) .nil) .nil) .nil)) (.cons (.cmp .Eq (.var 2) (.con (.str "b"))) .nil) [2, 3])) .nil))
def f9 : Fn := ⟨"boxes_in", ["row"], ["row", "letters", "letter", "part"], true, b9, [], [], false⟩
/-- box_set_in -/
def b10 : Ss := (.cons (.ifs (.cmp .In (.ix (.var 0) (.con (.int 0))) (.tup (.cons (.con (.str "store")) (.cons (.con (.str "keep")) (.cons (.con (.str "say")) (.cons (.con (.str "branch")) (.cons (.con (.str "round")) .nil))))))) (.cons (.ret (.lst false .nil)) .nil) .nil) (.cons (.ret (.slice (.call 9 (.cons (.var 0) .nil)) .nil (.cons (.con (.int 1)) .nil))) .nil))
def f10 : Fn := ⟨"box_set_in", ["row"], ["row"], true, b10, [], [], false⟩
/-- is_common -/
def b11 : Ss := (.cons (.ret (.cmp .GtE (.var 0) (.glob 7))) .nil)
def f11 : Fn := ⟨"is_common", ["box"], ["box"], true, b11, [], [], false⟩
/-- is_right_common -/
def b12 : Ss := (.cons (.for_ (.one 1) .val (.cons (.call 10 (.cons (.var 0) .nil)) .nil) (.cons (.ifs (.call 11 (.cons (.var 1) .nil)) (.cons (.ret (.and_ (.or_ (.cmp .In (.ix (.var 0) (.con (.int 0))) (.glob 12)) (.cmp .In (.ix (.var 0) (.con (.int 0))) (.glob 13))) (.bcall .all (.cons (.comp false (.call 11 (.cons (.var 2) .nil)) (.one 2) .val (.cons (.call 9 (.cons (.var 0) .nil)) .nil) .nil [2]) .nil)))) .nil) .nil) .nil)) (.cons (.ret (.con (.bool true))) .nil))
def f12 : Fn := ⟨"is_right_common", ["row"], ["row", "box", "each"], true, b12, [], [], false⟩
/-- is_group_row -/
def b13 : Ss := (.cons (.ret (.and_ (.call 8 (.cons (.glob 11) (.cons (.var 0) (.cons (.var 1) (.cons (.var 2) .nil))))) (.call 12 (.cons (.var 0) .nil)))) .nil)
def f13 : Fn := ⟨"is_group_row", ["value", "shares", "many"], ["value", "shares", "many"], true, b13, [], [], false⟩
/-- are_sizes -/
def b14 : Ss := (.cons (.ifs (.or_ (.not_ (.isty .tuple (.var 0))) (.cmp .Gt (.bcall .len (.cons (.var 0) .nil)) (.glob 14))) (.cons (.ret (.con (.bool false))) .nil) .nil) (.cons (.ret (.bcall .all (.cons (.comp false (.call 1 (.cons (.var 1) (.cons (.con (.int 1)) (.cons (.glob 15) .nil)))) (.one 1) .val (.cons (.var 0) .nil) .nil [1]) .nil))) .nil))
def f14 : Fn := ⟨"are_sizes", ["value"], ["value", "size"], true, b14, [], [], false⟩
/-- is_row_count -/
def b15 : Ss := (.cons (.ret (.and_ (.isty .tuple (.var 0)) (.chain .LtE .LtE (.con (.int 1)) (.bcall .len (.cons (.var 0) .nil)) (.glob 16)))) .nil)
def f15 : Fn := ⟨"is_row_count", ["value"], ["value"], true, b15, [], [], false⟩
/-- is_image_form -/
def b16 : Ss := (.cons (.ifs (.or_ (.not_ (.call 2 (.cons (.var 0) (.cons (.con (.int 3)) .nil)))) (.or_ (.not_ (.call 14 (.cons (.ix (.var 0) (.con (.int 0))) .nil))) (.not_ (.call 15 (.cons (.ix (.var 0) (.con (.int 2))) .nil))))) (.cons (.ret (.con (.bool false))) .nil) .nil) (.cons (.tup [(.name 1), (.name 2), (.name 3)] (.var 0)) (.cons (.ifs (.not_ (.call 1 (.cons (.var 2) (.cons (.con (.int 0)) (.cons (.bin .Sub (.bcall .len (.cons (.var 3) .nil)) (.con (.int 1))) .nil))))) (.cons (.ret (.con (.bool false))) .nil) .nil) (.cons (.ret (.bcall .all (.cons (.comp false (.call 13 (.cons (.var 4) (.cons (.bcall .len (.cons (.var 1) .nil)) (.cons (.bcall .len (.cons (.var 3) .nil)) .nil)))) (.one 4) .val (.cons (.var 3) .nil) .nil [4]) .nil))) .nil))))
def f16 : Fn := ⟨"is_image_form", ["value"], ["value", "sizes", "entry", "rows", "row"], true, b16, [], [], false⟩
/-- is_call_by_name -/
def b17 : Ss := (.cons (.ifs (.or_ (.not_ (.call 2 (.cons (.var 0) (.cons (.con (.int 2)) .nil)))) (.or_ (.not_ (.isty .str (.ix (.var 0) (.con (.int 0))))) (.cmp .NotEq (.ix (.var 0) (.con (.int 0))) (.glob 17)))) (.cons (.ret (.con (.bool false))) .nil) .nil) (.cons (.ret (.and_ (.isty .str (.ix (.var 0) (.con (.int 1)))) (.callV 1 (.cons (.ix (.var 0) (.con (.int 1))) .nil)))) .nil))
def f17 : Fn := ⟨"is_call_by_name", ["value", "is_name"], ["value", "is_name"], false, b17, [], [], false⟩
/-- has_right_end -/
def b18 : Ss := (.cons (.asg (.name 2) (.bcall .len (.cons (.comp false (.con (.int 1)) (.one 3) .val (.cons (.var 1) .nil) (.cons (.cmp .Eq (.ix (.var 3) (.con (.int 0))) (.glob 18)) .nil) [3]) .nil))) (.cons (.ifs (.cmp .Eq (.var 0) (.glob 19)) (.cons (.ret (.and_ (.cmp .Eq (.var 2) (.con (.int 0))) (.cmp .Eq (.ix (.ix (.var 1) (.neg (.con (.int 1)))) (.con (.int 0))) (.glob 20)))) .nil) .nil) (.cons (.ret (.and_ (.cmp .Eq (.var 2) (.con (.int 1))) (.cmp .Eq (.ix (.ix (.var 1) (.neg (.con (.int 1)))) (.con (.int 0))) (.glob 18)))) .nil)))
def f18 : Fn := ⟨"has_right_end", ["title", "rows"], ["title", "rows", "backs", "row"], true, b18, [], [], false⟩
/-- is_part_row -/
def b19 : Ss := (.cons (.ifs (.call 17 (.cons (.var 0) (.cons (.var 2) .nil))) (.cons (.ret (.con (.bool true))) .nil) .nil) (.cons (.ret (.and_ (.call 13 (.cons (.var 0) (.cons (.glob 14) (.cons (.var 1) .nil)))) (.cmp .NotEq (.ix (.var 0) (.con (.int 0))) (.glob 17)))) .nil))
def f19 : Fn := ⟨"is_part_row", ["row", "many", "is_name"], ["row", "many", "is_name"], false, b19, [], [], false⟩
/-- is_part_form -/
def b20 : Ss := (.cons (.ifs (.or_ (.not_ (.call 2 (.cons (.var 0) (.cons (.con (.int 2)) .nil)))) (.or_ (.not_ (.isty .str (.ix (.var 0) (.con (.int 0))))) (.not_ (.call 15 (.cons (.ix (.var 0) (.con (.int 1))) .nil))))) (.cons (.ret (.con (.bool false))) .nil) .nil) (.cons (.tup [(.name 2), (.name 3)] (.var 0)) (.cons (.ifs (.or_ (.and_ (.cmp .NotEq (.var 2) (.glob 19)) (.not_ (.callV 1 (.cons (.var 2) .nil)))) (.not_ (.bcall .all (.cons (.comp false (.call 19 (.cons (.var 4) (.cons (.bcall .len (.cons (.var 3) .nil)) (.cons (.var 1) .nil)))) (.one 4) .val (.cons (.var 3) .nil) .nil [4]) .nil)))) (.cons (.ret (.con (.bool false))) .nil) .nil) (.cons (.ret (.call 18 (.cons (.var 2) (.cons (.var 3) .nil)))) .nil))))
def f20 : Fn := ⟨"is_part_form", ["value", "is_name"], ["value", "is_name", "title", "rows", "row"], false, b20, [], [], false⟩
/-- is_image -/
def b21 : Ss := (.cons (.ret (.call 16 (.cons (.var 0) .nil))) .nil)
def f21 : Fn := ⟨"is_image", ["value"], ["value"], true, b21, [], [([0], [0])], false⟩
/-- is_part -/
def b22 : Ss := (.cons (.ret (.call 20 (.cons (.var 0) (.cons (.fnv 4 "is_plain_name") .nil)))) .nil)
def f22 : Fn := ⟨"is_part", ["value"], ["value"], true, b22, [], [([0], [0])], false⟩
/-- _law_well -/
def b23 : Ss := (.cons (.asg (.name 2) (.bin .Add (.con (.int 4051391)) (.bin .Mult (.con (.int 6217)) (.var 1)))) (.cons (.for_ (.one 3) .val (.cons (.slice (.var 0) .nil (.cons (.con (.int 9)) .nil)) .nil) (.cons (.asg (.name 2) (.bin .Mod (.bcall .int (.cons (.bin .Add (.bin .Add (.bin .Mult (.var 2) (.con (.int 46337))) (.bin .Mod (.bcall .int (.cons (.var 3) .nil)) (.con (.int 2147483549)))) (.con (.int 43))) .nil)) (.con (.int 2147483629)))) .nil)) (.cons (.asg (.name 4) (.ite (.cmp .Lt (.var 1) (.bcall .len (.cons (.var 0) .nil))) (.bcall .int (.cons (.ix (.var 0) (.var 1)) .nil)) (.con (.int 0)))) (.cons (.asg (.name 2) (.bin .Mod (.bcall .int (.cons (.bin .Add (.bin .Add (.bin .Mult (.var 2) (.con (.int 67))) (.bin .Mult (.bin .Mod (.bcall .int (.cons (.var 4) .nil)) (.con (.int 2147483549))) (.con (.int 15017)))) (.con (.int 23))) .nil)) (.con (.int 2147483629)))) (.cons (.ret (.lst true (.cons (.ite (.or_ (.cmp .Lt (.var 4) (.con (.int 0))) (.cmp .GtE (.var 4) (.bin .Pow (.con (.int 10)) (.con (.int 15))))) (.bcall .abs (.cons (.var 4) .nil)) (.con (.int 0))) (.cons (.var 2) (.cons (.con (.int 0)) .nil))))) .nil)))))
def f23 : Fn := ⟨"_law_well", ["script", "lap"], ["script", "lap", "stirred", "cell", "own"], false, b23, [], [], false⟩
/-- _law_draw -/
def b24 : Ss := (.cons (.ifs (.cmp .Gt (.ix (.var 0) (.con (.int 0))) (.con (.int 0))) (.cons (.tup [(.sub (.var 0) (.con (.int 0))), (.name 2)] (.bcall .divmod (.cons (.ix (.var 0) (.con (.int 0))) (.cons (.var 1) .nil)))) (.cons (.ret (.var 2)) .nil)) .nil) (.cons (.asg (.sub (.var 0) (.con (.int 2))) (.bin .Add (.ix (.var 0) (.con (.int 2))) (.con (.int 1)))) (.cons (.asg (.name 3) (.bin .Mod (.bcall .int (.cons (.bin .Add (.bin .Mult (.ix (.var 0) (.con (.int 1))) (.con (.int 39019))) (.bin .Mult (.con (.int 14009)) (.ix (.var 0) (.con (.int 2))))) .nil)) (.con (.int 2147483629)))) (.cons (.asg (.sub (.var 0) (.con (.int 1))) (.bin .Mod (.bcall .int (.cons (.bin .Add (.bin .Mult (.var 3) (.bin .Add (.bin .Mod (.bcall .int (.cons (.var 3) .nil)) (.con (.int 4999))) (.con (.int 21011)))) (.ix (.var 0) (.con (.int 2)))) .nil)) (.con (.int 2147483629)))) (.cons (.ret (.bin .Mod (.bcall .int (.cons (.bin .FloorDiv (.ix (.var 0) (.con (.int 1))) (.con (.int 1019))) .nil)) (.var 1))) .nil)))))
def f24 : Fn := ⟨"_law_draw", ["well", "limit"], ["well", "limit", "figure", "mixed"], false, b24, [], [], false⟩
/-- _law_of -/
def b25 : Ss := (.cons (.ret (.ix (.var 1) (.call 24 (.cons (.var 0) (.cons (.bcall .len (.cons (.var 1) .nil)) .nil))))) .nil)
def f25 : Fn := ⟨"_law_of", ["well", "some"], ["well", "some"], false, b25, [], [], false⟩
/-- _law_is -/
def b26 : Ss := (.cons (.ret (.cmp .Eq (.bcall .repr (.cons (.var 0) .nil)) (.bcall .repr (.cons (.var 1) .nil)))) .nil)
def f26 : Fn := ⟨"_law_is", ["told", "due"], ["told", "due"], true, b26, [], [], false⟩
/-- _law_words -/
def b27 : Ss := (.cons (.asg (.name 0) (.con (.str "all and crowd deed do else fence give if let me most next not or out say share stop while"))) (.cons (.ret (.dm .split (.var 0) (.con (.str " ")))) .nil))
def f27 : Fn := ⟨"_law_words", [], ["some"], true, b27, [], [], false⟩
/-- _law_is_name -/
def b28 : Ss := (.cons (.ifs (.or_ (.not_ (.isty .str (.var 0))) (.or_ (.not_ (.chain .LtE .LtE (.con (.int 1)) (.bcall .len (.cons (.var 0) .nil)) (.con (.int 8)))) (.cmp .In (.var 0) (.call 27 .nil)))) (.cons (.ret (.con (.bool false))) .nil) .nil) (.cons (.ret (.cmp .Eq (.comp false (.var 1) (.one 1) .val (.cons (.var 0) .nil) (.cons (.cmp .NotIn (.var 1) (.con (.str "abcdefghijklmnopqrstuvwxyz"))) .nil) [1]) (.lst false .nil))) .nil))
def f28 : Fn := ⟨"_law_is_name", ["value"], ["value", "sign"], true, b28, [], [], false⟩
/-- _law_is_count -/
def b29 : Ss := (.cons (.ret (.and_ (.isty .int (.var 0)) (.and_ (.not_ (.isty .bool (.var 0))) (.chain .LtE .LtE (.var 1) (.var 0) (.var 2))))) .nil)
def f29 : Fn := ⟨"_law_is_count", ["value", "low", "high"], ["value", "low", "high"], true, b29, [], [], false⟩
/-- _law_are_rows -/
def b30 : Ss := (.cons (.ret (.and_ (.isty .tuple (.var 0)) (.and_ (.chain .LtE .LtE (.var 1) (.bcall .len (.cons (.var 0) .nil)) (.var 2)) (.cmp .Eq (.comp false (.var 4) (.one 4) .val (.cons (.var 0) .nil) (.cons (.not_ (.callV 3 (.cons (.var 4) .nil))) .nil) [4]) (.lst false .nil))))) .nil)
def f30 : Fn := ⟨"_law_are_rows", ["value", "low", "high", "are_right"], ["value", "low", "high", "are_right", "e"], false, b30, [], [], false⟩
/-- _law_heads -/
def b31 : Ss := (.cons (.asg (.name 0) (.con (.str "point:p set:cn me:d all:c copy:cb neg:cb not:cb add:cbb sub:cbb mul:cbb div:cbb rem:cbb less:cbb same:cbb"))) (.cons (.asg (.name 0) (.bin .Add (.var 0) (.con (.str " and:cbb or:cbb load:dab store:abb keep:sb take:ds say:b jump:l branch:bll enter: round:bkll leave:")))) (.cons (.ret (.comp false (.dm .split (.var 1) (.con (.str ":"))) (.one 1) .val (.cons (.dm .split (.bin .Add (.var 0) (.con (.str " call:l back: fence: stop:"))) (.con (.str " "))) .nil) .nil [1])) .nil)))
def f31 : Fn := ⟨"_law_heads", [], ["some", "each"], true, b31, [], [], false⟩
/-- _law_is_row -/
def b32 : Ss := (.cons (.ifs (.or_ (.not_ (.isty .tuple (.var 0))) (.or_ (.cmp .Eq (.var 0) (.tup .nil)) (.not_ (.isty .str (.ix (.var 0) (.con (.int 0))))))) (.cons (.ret (.con (.bool false))) .nil) .nil) (.cons (.asg (.name 3) (.comp false (.var 10) (.tup [9, 10]) .val (.cons (.call 31 .nil) .nil) (.cons (.cmp .Eq (.var 9) (.ix (.var 0) (.con (.int 0)))) .nil) [9, 10])) (.cons (.ifs (.or_ (.cmp .Eq (.var 3) (.lst false .nil)) (.cmp .NotEq (.bcall .len (.cons (.var 0) .nil)) (.bin .Add (.bcall .len (.cons (.ix (.var 3) (.con (.int 0))) .nil)) (.con (.int 1))))) (.cons (.ret (.con (.bool false))) .nil) .nil) (.cons (.asg (.name 4) (.dict ["p", "d", "c", "b", "s", "a", "l", "k"] (.cons (.con (.int 59)) (.cons (.con (.int 5)) (.cons (.con (.int 8)) (.cons (.con (.int 8)) (.cons (.con (.int 59)) (.cons (.bin .Sub (.var 2) (.con (.int 1))) (.cons (.bin .Sub (.var 1) (.con (.int 1))) (.cons (.con (.int 9)) .nil)))))))))) (.cons (.for_ (.tup [5, 6]) .zip (.cons (.ix (.var 3) (.con (.int 0))) (.cons (.slice (.var 0) (.cons (.con (.int 1)) .nil) .nil) .nil)) (.cons (.asg (.name 7) (.ite (.cmp .Eq (.var 5) (.con (.str "n"))) (.neg (.con (.int 32768))) (.ite (.cmp .Eq (.var 5) (.con (.str "k"))) (.con (.int 1)) (.con (.int 0))))) (.cons (.ifs (.not_ (.call 29 (.cons (.var 6) (.cons (.var 7) (.cons (.ite (.cmp .Eq (.var 5) (.con (.str "n"))) (.con (.int 32767)) (.ix (.var 4) (.var 5))) .nil))))) (.cons (.ret (.con (.bool false))) .nil) .nil) .nil))) (.cons (.asg (.name 8) (.and_ (.cmp .In (.con (.str "c")) (.ix (.var 3) (.con (.int 0)))) (.cmp .Gt (.ix (.var 0) (.con (.int 1))) (.con (.int 5))))) (.cons (.ret (.or_ (.not_ (.var 8)) (.cmp .Eq (.comp false (.con (.int 1)) (.tup [5, 6]) .zip (.cons (.ix (.var 3) (.con (.int 0))) (.cons (.slice (.var 0) (.cons (.con (.int 1)) .nil) .nil) .nil)) (.cons (.and_ (.cmp .Eq (.var 5) (.con (.str "b"))) (.cmp .Lt (.var 6) (.con (.int 6)))) .nil) [5, 6]) (.lst false .nil)))) .nil)))))))
def f32 : Fn := ⟨"_law_is_row", ["value", "many", "shares"], ["value", "many", "shares", "letters", "tops", "letter", "part", "low", "is_common_v", "word", "made"], true, b32, [], [], false⟩
/-- _law_is_image -/
def b33 : Ss := (.cons (.ifs (.or_ (.not_ (.isty .tuple (.var 0))) (.or_ (.cmp .NotEq (.bcall .len (.cons (.var 0) .nil)) (.con (.int 3))) (.not_ (.isty .tuple (.ix (.var 0) (.con (.int 2))))))) (.cons (.ret (.con (.bool false))) .nil) .nil) (.cons (.ifs (.not_ (.call 30 (.cons (.ix (.var 0) (.con (.int 0))) (.cons (.con (.int 0)) (.cons (.con (.int 4)) (.cons (.lam 0 el0) .nil)))))) (.cons (.ret (.con (.bool false))) .nil) .nil) (.cons (.asg (.name 1) (.bcall .len (.cons (.ix (.var 0) (.con (.int 2))) .nil))) (.cons (.ifs (.or_ (.not_ (.chain .LtE .LtE (.con (.int 1)) (.var 1) (.con (.int 4000)))) (.not_ (.call 29 (.cons (.ix (.var 0) (.con (.int 1))) (.cons (.con (.int 0)) (.cons (.bin .Sub (.var 1) (.con (.int 1))) .nil)))))) (.cons (.ret (.con (.bool false))) .nil) .nil) (.cons (.ret (.cmp .Eq (.comp false (.var 2) (.one 2) .val (.cons (.ix (.var 0) (.con (.int 2))) .nil) (.cons (.not_ (.call 32 (.cons (.var 2) (.cons (.var 1) (.cons (.bcall .len (.cons (.ix (.var 0) (.con (.int 0))) .nil)) .nil))))) .nil) [2]) (.lst false .nil))) .nil)))))
def f33 : Fn := ⟨"_law_is_image", ["value"], ["value", "many", "each"], true, b33, [], [], true⟩
/-- _law_easy_row -/
def b34 : Ss := (.cons (.par3 [2, 3, 4] (.cons (.call 24 (.cons (.var 0) (.cons (.con (.int 6)) .nil))) (.cons (.call 24 (.cons (.var 0) (.cons (.con (.int 9)) .nil))) (.cons (.call 24 (.cons (.var 0) (.cons (.con (.int 9)) .nil))) .nil)))) (.cons (.asg (.name 5) (.call 24 (.cons (.var 0) (.cons (.con (.int 14)) .nil)))) (.cons (.ifs (.cmp .Lt (.var 5) (.con (.int 2))) (.cons (.ret (.tup (.cons (.con (.str "set")) (.cons (.call 24 (.cons (.var 0) (.cons (.con (.int 9)) .nil))) (.cons (.call 25 (.cons (.var 0) (.cons (.tup (.cons (.con (.int 0)) (.cons (.con (.int 1)) (.cons (.con (.int 2)) (.cons (.con (.int 5)) (.cons (.neg (.con (.int 1))) (.cons (.con (.int 32767)) (.cons (.neg (.con (.int 32768))) .nil)))))))) .nil))) .nil))))) .nil) .nil) (.cons (.ifs (.cmp .Eq (.var 5) (.con (.int 2))) (.cons (.ret (.tup (.cons (.con (.str "me")) (.cons (.var 2) .nil)))) .nil) .nil) (.cons (.ifs (.cmp .Eq (.var 5) (.con (.int 3))) (.cons (.ret (.tup (.cons (.con (.str "all")) (.cons (.call 24 (.cons (.var 0) (.cons (.con (.int 9)) .nil))) .nil)))) .nil) .nil) (.cons (.ifs (.cmp .Lt (.var 5) (.con (.int 6))) (.cons (.asg (.name 6) (.call 25 (.cons (.var 0) (.cons (.tup (.cons (.con (.int 6)) (.cons (.con (.int 7)) (.cons (.con (.int 8)) .nil)))) .nil)))) (.cons (.ret (.bin .Add (.tup (.cons (.call 25 (.cons (.var 0) (.cons (.tup (.cons (.con (.str "copy")) (.cons (.con (.str "neg")) (.cons (.con (.str "not")) .nil)))) .nil))) .nil)) (.call 25 (.cons (.var 0) (.cons (.tup (.cons (.tup (.cons (.var 2) (.cons (.var 3) .nil))) (.cons (.tup (.cons (.var 2) (.cons (.var 6) .nil))) (.cons (.tup (.cons (.var 6) (.cons (.con (.int 6)) .nil))) .nil)))) .nil))))) .nil)) .nil) (.cons (.ifs (.cmp .Lt (.var 5) (.con (.int 9))) (.cons (.asg (.name 7) (.call 25 (.cons (.var 0) (.cons (.tup (.cons (.con (.str "add")) (.cons (.con (.str "sub")) (.cons (.con (.str "mul")) (.cons (.con (.str "less")) (.cons (.con (.str "same")) (.cons (.con (.str "and")) (.cons (.con (.str "or")) (.cons (.con (.str "div")) (.cons (.con (.str "rem")) .nil)))))))))) .nil)))) (.cons (.ifs (.or_ (.cmp .In (.var 7) (.tup (.cons (.con (.str "div")) (.cons (.con (.str "rem")) .nil)))) (.cmp .Eq (.call 24 (.cons (.var 0) (.cons (.con (.int 2)) .nil))) (.con (.int 0)))) (.cons (.ret (.tup (.cons (.var 7) (.cons (.var 2) (.cons (.var 3) (.cons (.var 4) .nil)))))) .nil) .nil) (.cons (.ret (.tup (.cons (.var 7) (.cons (.bin .Add (.con (.int 6)) (.call 24 (.cons (.var 0) (.cons (.con (.int 3)) .nil)))) (.cons (.con (.int 6)) (.cons (.con (.int 7)) .nil)))))) .nil))) .nil) (.cons (.ifs (.and_ (.cmp .Eq (.var 5) (.con (.int 9))) (.cmp .NotEq (.var 1) (.tup .nil))) (.cons (.ret (.tup (.cons (.con (.str "load")) (.cons (.var 2) (.cons (.call 24 (.cons (.var 0) (.cons (.bcall .len (.cons (.var 1) .nil)) .nil))) (.cons (.var 3) .nil)))))) .nil) .nil) (.cons (.ifs (.and_ (.cmp .Eq (.var 5) (.con (.int 10))) (.cmp .NotEq (.var 1) (.tup .nil))) (.cons (.ret (.tup (.cons (.con (.str "store")) (.cons (.call 24 (.cons (.var 0) (.cons (.bcall .len (.cons (.var 1) .nil)) .nil))) (.cons (.var 3) (.cons (.var 4) .nil)))))) .nil) .nil) (.cons (.ifs (.cmp .Eq (.var 5) (.con (.int 11))) (.cons (.ret (.tup (.cons (.con (.str "keep")) (.cons (.call 25 (.cons (.var 0) (.cons (.tup (.cons (.con (.int 0)) (.cons (.con (.int 1)) (.cons (.con (.int 59)) .nil)))) .nil))) (.cons (.var 3) .nil))))) .nil) .nil) (.cons (.ret (.ite (.cmp .Eq (.var 5) (.con (.int 12))) (.tup (.cons (.con (.str "take")) (.cons (.var 2) (.cons (.call 25 (.cons (.var 0) (.cons (.tup (.cons (.con (.int 0)) (.cons (.con (.int 1)) (.cons (.con (.int 59)) .nil)))) .nil))) .nil)))) (.tup (.cons (.con (.str "say")) (.cons (.var 3) .nil))))) .nil)))))))))))
def f34 : Fn := ⟨"_law_easy_row", ["well", "sizes"], ["well", "sizes", "box", "two", "three", "way", "common", "op"], false, b34, [], [], false⟩
/-- _law_easy_rows -/
def b35 : Ss := (.cons (.asg (.name 3) (.lst true .nil)) (.cons (.for_ (.one 4) .r1 (.cons (.var 2) .nil) (.cons (.ex (.meth1 .append (.var 3) (.ite (.cmp .Eq (.call 24 (.cons (.var 0) (.cons (.con (.int 3)) .nil))) (.con (.int 0))) (.tup (.cons (.con (.str "point")) (.cons (.call 24 (.cons (.var 0) (.cons (.con (.int 30)) .nil))) .nil))) (.call 34 (.cons (.var 0) (.cons (.var 1) .nil)))))) .nil)) (.cons (.freeze 3) (.cons (.ret (.var 3)) .nil))))
def f35 : Fn := ⟨"_law_easy_rows", ["well", "sizes", "many"], ["well", "sizes", "many", "found", "k"], false, b35, [], [], false⟩
/-- _law_loop -/
def b36 : Ss := (.cons (.asg (.name 4) (.bin .Add (.lst false (.cons (.tup (.cons (.con (.str "point")) (.cons (.bin .Add (.con (.int 40)) (.var 3)) .nil))) (.cons (.tup (.cons (.con (.str "add")) (.cons (.con (.int 5)) (.cons (.con (.int 5)) (.cons (.con (.int 4)) .nil))))) .nil))) (.call 35 (.cons (.var 0) (.cons (.var 1) (.cons (.call 24 (.cons (.var 0) (.cons (.con (.int 3)) .nil))) .nil)))))) (.cons (.asg (.name 5) (.tup (.cons (.con (.str "point")) (.cons (.con (.str "say")) (.cons (.con (.str "store")) (.cons (.con (.str "keep")) .nil)))))) (.cons (.asg (.name 4) (.comp false (.var 10) (.one 10) .val (.cons (.var 4) .nil) (.cons (.or_ (.cmp .In (.ix (.var 10) (.con (.int 0))) (.var 5)) (.cmp .NotIn (.ix (.var 10) (.con (.int 1))) (.tup (.cons (.con (.int 4)) (.cons (.con (.int 5)) .nil))))) .nil) [10])) (.cons (.asg (.name 4) (.bin .Add (.lst false (.cons (.tup (.cons (.con (.str "point")) (.cons (.bin .Add (.con (.int 40)) (.var 3)) .nil))) (.cons (.tup (.cons (.con (.str "add")) (.cons (.con (.int 5)) (.cons (.con (.int 5)) (.cons (.con (.int 4)) .nil))))) .nil))) (.slice (.var 4) (.cons (.con (.int 1)) .nil) .nil))) (.cons (.asg (.name 6) (.lst false (.cons (.tup (.cons (.con (.str "point")) (.cons (.con (.int 20)) .nil))) (.cons (.tup (.cons (.con (.str "set")) (.cons (.con (.int 5)) (.cons (.con (.int 0)) .nil)))) (.cons (.tup (.cons (.con (.str "set")) (.cons (.con (.int 4)) (.cons (.con (.int 1)) .nil)))) (.cons (.tup (.cons (.con (.str "enter")) .nil)) .nil)))))) (.cons (.asg (.name 7) (.lst false (.cons (.tup (.cons (.con (.str "point")) (.cons (.bin .Add (.con (.int 50)) (.var 3)) .nil))) (.cons (.tup (.cons (.con (.str "set")) (.cons (.con (.int 3)) (.cons (.bin .Add (.con (.int 1)) (.call 24 (.cons (.var 0) (.cons (.con (.int 4)) .nil)))) .nil)))) (.cons (.tup (.cons (.con (.str "less")) (.cons (.con (.int 2)) (.cons (.con (.int 5)) (.cons (.con (.int 3)) .nil))))) .nil))))) (.cons (.par [8, 9] (.cons (.bin .Add (.var 2) (.bcall .len (.cons (.var 6) .nil))) (.cons (.bin .Add (.bin .Add (.bin .Add (.bin .Add (.var 2) (.bcall .len (.cons (.var 6) .nil))) (.bcall .len (.cons (.var 7) .nil))) (.con (.int 2))) (.bcall .len (.cons (.var 4) .nil))) .nil))) (.cons (.ret (.bin .Add (.bin .Add (.bin .Add (.bin .Add (.var 6) (.var 7)) (.lst false (.cons (.tup (.cons (.con (.str "round")) (.cons (.con (.int 2)) (.cons (.call 25 (.cons (.var 0) (.cons (.tup (.cons (.con (.int 2)) (.cons (.con (.int 9)) .nil))) .nil))) (.cons (.var 9) (.cons (.var 9) .nil)))))) .nil))) (.var 4)) (.lst false (.cons (.tup (.cons (.con (.str "jump")) (.cons (.var 8) .nil))) .nil)))) .nil))))))))
def f36 : Fn := ⟨"_law_loop", ["well", "sizes", "here", "lap"], ["well", "sizes", "here", "lap", "inner", "some", "ahead", "test", "begin", "behind", "row"], false, b36, [], [], false⟩
/-- _law_blocks -/
def b37 : Ss := (.cons (.asg (.name 4) (.lst false (.cons (.tup (.cons (.con (.str "point")) (.cons (.con (.int 0)) .nil))) .nil))) (.cons (.for_ (.one 5) .r1 (.cons (.bin .Add (.con (.int 1)) (.call 24 (.cons (.var 0) (.cons (.con (.int 4)) .nil)))) .nil) (.cons (.par [6, 7] (.cons (.call 24 (.cons (.var 0) (.cons (.con (.int 6)) .nil))) (.cons (.bin .Add (.var 2) (.bcall .len (.cons (.var 4) .nil))) .nil))) (.cons (.ifs (.cmp .Eq (.var 6) (.con (.int 0))) (.cons (.asg (.name 8) (.call 35 (.cons (.var 0) (.cons (.var 1) (.cons (.bin .Add (.con (.int 1)) (.call 24 (.cons (.var 0) (.cons (.con (.int 3)) .nil)))) .nil))))) (.cons (.asg (.name 9) (.call 35 (.cons (.var 0) (.cons (.var 1) (.cons (.call 24 (.cons (.var 0) (.cons (.con (.int 3)) .nil))) .nil))))) (.cons (.par [10, 11] (.cons (.bin .Add (.bin .Add (.var 7) (.bcall .len (.cons (.var 8) .nil))) (.con (.int 2))) (.cons (.bin .Add (.bin .Add (.bin .Add (.var 7) (.bcall .len (.cons (.var 8) .nil))) (.con (.int 2))) (.bcall .len (.cons (.var 9) .nil))) .nil))) (.cons (.asg (.name 4) (.bin .Add (.bin .Add (.bin .Add (.bin .Add (.var 4) (.lst false (.cons (.tup (.cons (.con (.str "branch")) (.cons (.call 24 (.cons (.var 0) (.cons (.con (.int 6)) .nil))) (.cons (.var 10) (.cons (.var 11) .nil))))) .nil))) (.var 8)) (.lst false (.cons (.tup (.cons (.con (.str "jump")) (.cons (.var 11) .nil))) .nil))) (.var 9))) .nil)))) (.cons (.ifs (.cmp .Eq (.var 6) (.con (.int 1))) (.cons (.asg (.name 4) (.bin .Add (.var 4) (.call 36 (.cons (.var 0) (.cons (.var 1) (.cons (.var 7) (.cons (.var 5) .nil))))))) .nil) (.cons (.ifs (.cmp .Eq (.var 6) (.con (.int 2))) (.cons (.asg (.name 4) (.bin .Add (.var 4) (.lst false (.cons (.tup (.cons (.con (.str "point")) (.cons (.bin .Add (.con (.int 30)) (.var 5)) .nil))) (.cons (.tup (.cons (.con (.str "fence")) .nil)) .nil))))) .nil) (.cons (.ifs (.and_ (.cmp .Eq (.var 6) (.con (.int 3))) (.isn true (.var 3))) (.cons (.ex (.meth1 .append (.var 3) (.bin .Add (.bcall .len (.cons (.var 4) .nil)) (.con (.int 1))))) (.cons (.asg (.name 4) (.bin .Add (.var 4) (.lst false (.cons (.tup (.cons (.con (.str "point")) (.cons (.bin .Add (.con (.int 35)) (.var 5)) .nil))) (.cons (.tup (.cons (.con (.str "call")) (.cons (.con (.int 0)) .nil))) .nil))))) .nil)) (.cons (.asg (.name 4) (.bin .Add (.var 4) (.call 35 (.cons (.var 0) (.cons (.var 1) (.cons (.bin .Add (.con (.int 1)) (.call 24 (.cons (.var 0) (.cons (.con (.int 5)) .nil)))) .nil)))))) .nil)) .nil)) .nil)) .nil)) .nil))) (.cons (.ret (.var 4)) .nil)))
def f37 : Fn := ⟨"_law_blocks", ["well", "sizes", "at", "calls"], ["well", "sizes", "at", "calls", "found", "lap", "way", "here", "one", "two", "other", "meet"], false, b37, [], [], false⟩
/-- _law_drawn_image -/
def b38 : Ss := (.cons (.asg (.name 1) (.bcall .tuple (.cons (.comp false (.call 25 (.cons (.var 0) (.cons (.tup (.cons (.con (.int 1)) (.cons (.con (.int 2)) (.cons (.con (.int 4)) (.cons (.con (.int 16)) .nil))))) .nil))) (.one 5) .r1 (.cons (.call 24 (.cons (.var 0) (.cons (.con (.int 3)) .nil))) .nil) .nil [5]) .nil))) (.cons (.asg (.name 2) (.lst true .nil)) (.cons (.asg (.name 3) (.catM (.call 37 (.cons (.var 0) (.cons (.var 1) (.cons (.con (.int 0)) (.cons (.var 2) .nil))))) (.lst false (.cons (.tup (.cons (.con (.str "stop")) .nil)) .nil)))) (.cons (.asg (.name 4) (.bin .Add (.call 37 (.cons (.var 0) (.cons (.var 1) (.cons (.bcall .len (.cons (.var 3) .nil)) (.cons (.con .none) .nil))))) (.lst false (.cons (.tup (.cons (.con (.str "back")) .nil)) .nil)))) (.cons (.freeze 2) (.cons (.for_ (.one 5) .val (.cons (.var 2) .nil) (.cons (.asg (.sub (.var 3) (.var 5)) (.tup (.cons (.con (.str "call")) (.cons (.bcall .len (.cons (.var 3) .nil)) .nil)))) .nil)) (.cons (.freeze 3) (.cons (.ret (.trip (.var 1) (.con (.int 0)) (.tupX (.bin .Add (.var 3) (.var 4))))) .nil))))))))
def f38 : Fn := ⟨"_law_drawn_image", ["well"], ["well", "sizes", "calls", "crowd", "deed", "k"], false, b38, [], [], false⟩
/-- _law_part_of -/
def b39 : Ss := (.cons (.asg (.name 3) (.comp false (.ite (.cmp .Eq (.ix (.var 4) (.con (.int 0))) (.con (.str "call"))) (.tup (.cons (.con (.str "call")) (.cons (.con (.str "f")) .nil))) (.var 4)) (.one 4) .val (.cons (.var 1) .nil) .nil [4])) (.cons (.ret (.tup (.cons (.var 2) (.cons (.bcall .tuple (.cons (.var 3) .nil)) .nil)))) .nil))
def f39 : Fn := ⟨"_law_part_of", ["well", "rows", "name"], ["well", "rows", "name", "found", "row"], false, b39, [], [], false⟩
/-- _law_is_part -/
def b40 : Ss := (.cons (.ifs (.or_ (.not_ (.isty .tuple (.var 0))) (.or_ (.cmp .NotEq (.bcall .len (.cons (.var 0) .nil)) (.con (.int 2))) (.or_ (.not_ (.isty .tuple (.ix (.var 0) (.con (.int 1))))) (.cmp .Eq (.ix (.var 0) (.con (.int 1))) (.tup .nil))))) (.cons (.ret (.con (.bool false))) .nil) .nil) (.cons (.ifs (.or_ (.and_ (.not_ (.call 28 (.cons (.ix (.var 0) (.con (.int 0))) .nil))) (.not_ (.and_ (.isty .str (.ix (.var 0) (.con (.int 0)))) (.cmp .Eq (.ix (.var 0) (.con (.int 0))) (.con (.str "crowd")))))) (.cmp .Gt (.bcall .len (.cons (.ix (.var 0) (.con (.int 1))) .nil)) (.con (.int 4000)))) (.cons (.ret (.con (.bool false))) .nil) .nil) (.cons (.par [1, 2] (.cons (.bcall .len (.cons (.ix (.var 0) (.con (.int 1))) .nil)) (.cons (.lst true .nil) .nil))) (.cons (.for_ (.one 3) .val (.cons (.ix (.var 0) (.con (.int 1))) .nil) (.cons (.asg (.name 4) (.and_ (.isty .tuple (.var 3)) (.and_ (.cmp .Eq (.bcall .len (.cons (.var 3) .nil)) (.con (.int 2))) (.and_ (.isty .str (.ix (.var 3) (.con (.int 0)))) (.cmp .Eq (.ix (.var 3) (.con (.int 0))) (.con (.str "call"))))))) (.cons (.ifs (.or_ (.and_ (.var 4) (.not_ (.call 28 (.cons (.ix (.var 3) (.con (.int 1))) .nil)))) (.and_ (.not_ (.var 4)) (.not_ (.call 32 (.cons (.var 3) (.cons (.var 1) (.cons (.con (.int 4)) .nil))))))) (.cons (.ret (.con (.bool false))) .nil) .nil) (.cons (.ex (.meth1 .append (.var 2) (.ix (.var 3) (.con (.int 0))))) .nil)))) (.cons (.freeze 2) (.cons (.ifs (.cmp .Eq (.ix (.var 0) (.con (.int 0))) (.con (.str "crowd"))) (.cons (.ret (.and_ (.cmp .Eq (.ix (.var 2) (.neg (.con (.int 1)))) (.con (.str "stop"))) (.cmp .NotIn (.con (.str "back")) (.var 2)))) .nil) .nil) (.cons (.ret (.and_ (.cmp .Eq (.ix (.var 2) (.neg (.con (.int 1)))) (.con (.str "back"))) (.cmp .Eq (.dm .count (.var 2) (.con (.str "back"))) (.con (.int 1))))) .nil)))))))
def f40 : Fn := ⟨"_law_is_part", ["value"], ["value", "many", "plain", "row", "is_call"], true, b40, [], [], false⟩
/-- _law_bent_row -/
def b41 : Ss := (.cons (.asg (.name 2) (.call 24 (.cons (.var 0) (.cons (.bin .Add (.bcall .len (.cons (.var 1) .nil)) (.con (.int 1))) .nil)))) (.cons (.asg (.name 2) (.ite (.and_ (.cmp .Eq (.var 2) (.con (.int 2))) (.cmp .Eq (.ix (.var 1) (.con (.int 0))) (.con (.str "round")))) (.con (.int 1)) (.var 2))) (.cons (.ifs (.cmp .Eq (.var 2) (.bcall .len (.cons (.var 1) .nil))) (.cons (.asg (.name 3) (.tup (.cons (.bin .Add (.var 1) (.tup (.cons (.con (.int 0)) .nil))) (.cons (.slice (.var 1) .nil (.cons (.neg (.con (.int 1))) .nil)) (.cons (.bcall (.list false) (.cons (.var 1) .nil)) (.cons (.con .none) (.cons (.tup .nil) (.cons (.ix (.var 1) (.con (.int 0))) (.cons (.bin .Add (.tup (.cons (.con (.str "halt")) .nil)) (.slice (.var 1) (.cons (.con (.int 1)) .nil) .nil)) (.cons (.bin .Add (.tup (.cons (.con (.int 5)) .nil)) (.slice (.var 1) (.cons (.con (.int 1)) .nil) .nil)) .nil)))))))))) (.cons (.ret (.call 25 (.cons (.var 0) (.cons (.var 3) .nil)))) .nil)) .nil) (.cons (.ret (.bin .Add (.bin .Add (.slice (.var 1) .nil (.cons (.var 2) .nil)) (.tup (.cons (.call 25 (.cons (.var 0) (.cons (.tup (.cons (.con .none) (.cons (.neg (.con (.int 1))) (.cons (.con (.bool true)) (.cons (.con (.str "0")) (.cons (.con (.int 9)) (.cons (.con (.int 60)) (.cons (.con (.int 40000)) (.cons (.con (.int 7)) (.cons (.ix (.var 1) (.var 2)) .nil)))))))))) .nil))) .nil))) (.slice (.var 1) (.cons (.bin .Add (.var 2) (.con (.int 1))) .nil) .nil))) .nil))))
def f41 : Fn := ⟨"_law_bent_row", ["well", "row"], ["well", "row", "k", "some"], false, b41, [], [], false⟩
/-- _law_right -/
def b42 : Ss := (.cons (.for_ (.one 1) .r1 (.cons (.con (.int 5)) .nil) (.cons (.tup [(.name 2), (.name 3), (.name 4)] (.call 38 (.cons (.var 0) .nil))) (.cons (.par [5, 6] (.cons (.tup (.cons (.var 2) (.cons (.var 3) (.cons (.weak (.var 4)) .nil)))) (.cons (.bin .Add (.tix (.var 4) (.tup (.cons (.con (.str "stop")) .nil))) (.con (.int 1))) .nil))) (.cons (.asg (.name 7) (.call 39 (.cons (.var 0) (.cons (.slice (.weak (.var 4)) .nil (.cons (.var 6) .nil)) (.cons (.con (.str "crowd")) .nil))))) (.cons (.asg (.name 8) (.lst false (.cons (.var 5) (.cons (.tup (.cons (.var 2) (.cons (.bcall .len (.cons (.weak (.var 4)) .nil)) (.cons (.weak (.var 4)) .nil)))) (.cons (.tup (.cons (.bcall (.list false) (.cons (.var 2) .nil)) (.cons (.var 3) (.cons (.weak (.var 4)) .nil)))) (.cons (.tup (.cons (.bin .Add (.var 2) (.tup (.cons (.con (.int 17)) .nil))) (.cons (.var 3) (.cons (.weak (.var 4)) .nil)))) (.cons (.var 7) .nil))))))) (.cons (.asg (.name 8) (.bin .Add (.var 8) (.lst false (.cons (.tup (.cons (.var 2) (.cons (.var 3) .nil))) (.cons (.tup (.cons (.var 2) (.cons (.neg (.con (.int 1))) (.cons (.weak (.var 4)) .nil)))) (.cons (.tup (.cons (.var 2) (.cons (.var 3) (.cons (.tup .nil) .nil)))) (.cons (.con .none) (.cons (.con (.int 5)) (.cons (.tup (.cons (.tup (.cons (.con (.str "a")) (.cons (.con (.int 4)) .nil))) .nil)) (.cons (.tup (.cons (.con (.str "crowd")) (.cons (.tup .nil) .nil))) .nil)))))))))) (.cons (.asg (.name 8) (.catM (.var 8) (.lst false (.cons (.tup (.cons (.con (.str "crowd")) (.cons (.slice (.ix (.var 7) (.con (.int 1))) .nil (.cons (.neg (.con (.int 1))) .nil)) .nil))) (.cons (.tup (.cons (.con (.str "f")) (.cons (.ix (.var 7) (.con (.int 1))) .nil))) (.cons (.tup (.cons (.con (.str "f")) (.cons (.bin .Add (.slice (.ix (.var 7) (.con (.int 1))) .nil (.cons (.neg (.con (.int 1))) .nil)) (.tup (.cons (.tup (.cons (.con (.str "back")) .nil)) .nil))) .nil))) .nil)))))) (.cons (.ex (.meth1 .append (.var 8) (.tup (.cons (.con (.str "let")) (.cons (.weak (.var 4)) .nil))))) (.cons (.for_ (.one 9) .r1 (.cons (.con (.int 8)) .nil) (.cons (.asg (.name 10) (.call 24 (.cons (.var 0) (.cons (.bcall .len (.cons (.weak (.var 4)) .nil)) .nil)))) (.cons (.asg (.name 11) (.call 41 (.cons (.var 0) (.cons (.ix (.weak (.var 4)) (.var 10)) .nil)))) (.cons (.ex (.meth1 .append (.var 8) (.tup (.cons (.var 2) (.cons (.var 3) (.cons (.bin .Add (.bin .Add (.slice (.weak (.var 4)) .nil (.cons (.var 10) .nil)) (.tup (.cons (.var 11) .nil))) (.slice (.weak (.var 4)) (.cons (.bin .Add (.var 10) (.con (.int 1))) .nil) .nil)) .nil)))))) (.cons (.ifs (.cmp .Lt (.var 10) (.var 6)) (.cons (.ex (.meth1 .append (.var 8) (.tup (.cons (.con (.str "crowd")) (.cons (.bin .Add (.bin .Add (.slice (.ix (.var 7) (.con (.int 1))) .nil (.cons (.var 10) .nil)) (.tup (.cons (.call 41 (.cons (.var 0) (.cons (.ix (.ix (.var 7) (.con (.int 1))) (.var 10)) .nil))) .nil))) (.slice (.ix (.var 7) (.con (.int 1))) (.cons (.bin .Add (.var 10) (.con (.int 1))) .nil) .nil)) .nil))))) .nil) .nil) .nil))))) (.cons (.freeze 8) (.cons (.for_ (.one 12) .val (.cons (.var 8) .nil) (.cons (.asg (.name 13) (.lst false (.cons (.call 33 (.cons (.var 12) .nil)) (.cons (.call 40 (.cons (.var 12) .nil)) .nil)))) (.cons (.asg (.name 14) (.lst false (.cons (.call 21 (.cons (.var 12) .nil)) (.cons (.call 22 (.cons (.var 12) .nil)) (.cons (.callK 21 [0] [0] (.cons (.var 12) .nil)) (.cons (.callK 22 [0] [0] (.cons (.var 12) .nil)) .nil)))))) (.cons (.ifs (.not_ (.call 26 (.cons (.var 14) (.cons (.bin .Add (.var 13) (.var 13)) .nil)))) (.cons (.ret (.con (.bool false))) .nil) .nil) .nil)))) .nil))))))))))) (.cons (.ret (.con (.bool true))) .nil))
def f42 : Fn := ⟨"_law_right", ["well"], ["well", "lap", "sizes", "entry", "rows", "image", "cut", "crowd", "values", "turn", "k", "row", "value", "due", "told"], false, b42, [], [], false⟩
/-- law -/
def b43 : Ss := (.cons (.ret (.bcall .all (.cons (.comp false (.call 42 (.cons (.call 23 (.cons (.var 0) (.cons (.var 1) .nil))) .nil)) (.one 1) .r1 (.cons (.bcall .max2 (.cons (.con (.int 1)) (.cons (.bcall .min2 (.cons (.bcall .len (.cons (.var 0) .nil)) (.cons (.con (.int 3)) .nil))) .nil))) .nil) .nil [1]) .nil))) .nil)
def f43 : Fn := ⟨"law", ["script"], ["script", "lap"], false, b43, [], [], false⟩
def G : Gm where
  fns := [f0, f1, f2, f3, f4, f5, f6, f7, f8, f9, f10, f11, f12, f13, f14, f15, f16, f17, f18, f19, f20, f21, f22, f23, f24, f25, f26, f27, f28, f29, f30, f31, f32, f33, f34, f35, f36, f37, f38, f39, f40, f41, f42, f43, f44]
  consts := [("LETTERS", .str "abcdefghijklmnopqrstuvwxyz"), ("MOST_LETTERS", .int 8), ("RESERVED", .tuple [.str "all", .str "and", .str "crowd", .str "deed", .str "do", .str "else", .str "fence", .str "give", .str "if", .str "let", .str "me", .str "most", .str "next", .str "not", .str "or", .str "out", .str "say", .str "share", .str "stop", .str "while"]), ("LEAST_WORD", .int (-32768)), ("MOST_WORD", .int 32767), ("MOST_ROUNDS", .int 9), ("MOST_POINTS", .int 60), ("BOXES", .int 6), ("COMMONS", .int 3), ("SLOTS", .int 60), ("SCRATCH", .int 40), ("GROUP_ROWS", .tuple [.tuple [.str "point", .str "p"], .tuple [.str "set", .str "bn"], .tuple [.str "me", .str "b"], .tuple [.str "all", .str "b"], .tuple [.str "copy", .str "bb"], .tuple [.str "neg", .str "bb"], .tuple [.str "not", .str "bb"], .tuple [.str "add", .str "bbb"], .tuple [.str "sub", .str "bbb"], .tuple [.str "mul", .str "bbb"], .tuple [.str "div", .str "bbb"], .tuple [.str "rem", .str "bbb"], .tuple [.str "less", .str "bbb"], .tuple [.str "same", .str "bbb"], .tuple [.str "and", .str "bbb"], .tuple [.str "or", .str "bbb"], .tuple [.str "load", .str "bab"], .tuple [.str "store", .str "abb"], .tuple [.str "keep", .str "sb"], .tuple [.str "take", .str "bs"], .tuple [.str "say", .str "b"], .tuple [.str "jump", .str "l"], .tuple [.str "branch", .str "bll"], .tuple [.str "enter", .str ""], .tuple [.str "round", .str "bkll"], .tuple [.str "leave", .str ""], .tuple [.str "call", .str "l"], .tuple [.str "back", .str ""], .tuple [.str "fence", .str ""], .tuple [.str "stop", .str ""]]), ("COMMON_WORDS", .tuple [.str "set", .str "all", .str "copy", .str "neg", .str "not"]), ("OPS", .tuple [.str "add", .str "sub", .str "mul", .str "div", .str "rem", .str "less", .str "same", .str "and", .str "or"]), ("MOST_SHARES", .int 4), ("MOST_SIZE", .int 16), ("MOST_ROWS", .int 4000), ("CALL", .str "call"), ("BACK", .str "back"), ("CROWD_PART", .str "crowd"), ("STOP", .str "stop")]
  bts := ["isinstance", "int", "bool", "tuple", "len", "str", "all", "enumerate", "zip", "abs", "divmod", "repr", "range", "list", "max", "min"]
  excs := []
  lams := [44]
def top (i : Nat) : Stmt := PySem.Challenge.pw_stepcrowds_k34_whole_images_and_parts_by.main.body.getD i (.Pass ⟨0, 0, 0, 0⟩)
abbrev t0 : Stmt := top 4
theorem s0 : FnScope f0.N f0.ps (defScope t0) := ⟨rfl, rfl, rfl, by decide +kernel, rfl, by decide +kernel, by decide +kernel⟩
theorem k0 : chkSs G ⟨f0.N, defScope t0, fun x => locB (defScope t0) x, f0.lm⟩ f0.body (defBody t0) = true := by decide +kernel
abbrev t1 : Stmt := top 5
theorem s1 : FnScope f1.N f1.ps (defScope t1) := ⟨rfl, rfl, rfl, by decide +kernel, rfl, by decide +kernel, by decide +kernel⟩
theorem k1 : chkSs G ⟨f1.N, defScope t1, fun x => locB (defScope t1) x, f1.lm⟩ f1.body (defBody t1) = true := by decide +kernel
abbrev t2 : Stmt := top 6
theorem s2 : FnScope f2.N f2.ps (defScope t2) := ⟨rfl, rfl, rfl, by decide +kernel, rfl, by decide +kernel, by decide +kernel⟩
theorem k2 : chkSs G ⟨f2.N, defScope t2, fun x => locB (defScope t2) x, f2.lm⟩ f2.body (defBody t2) = true := by decide +kernel
abbrev t3 : Stmt := top 7
theorem s3 : FnScope f3.N f3.ps (defScope t3) := ⟨rfl, rfl, rfl, by decide +kernel, rfl, by decide +kernel, by decide +kernel⟩
theorem k3 : chkSs G ⟨f3.N, defScope t3, fun x => locB (defScope t3) x, f3.lm⟩ f3.body (defBody t3) = true := by decide +kernel
abbrev t4 : Stmt := top 8
theorem s4 : FnScope f4.N f4.ps (defScope t4) := ⟨rfl, rfl, rfl, by decide +kernel, rfl, by decide +kernel, by decide +kernel⟩
theorem k4 : chkSs G ⟨f4.N, defScope t4, fun x => locB (defScope t4) x, f4.lm⟩ f4.body (defBody t4) = true := by decide +kernel
abbrev t5 : Stmt := top 28
theorem s5 : FnScope f5.N f5.ps (defScope t5) := ⟨rfl, rfl, rfl, by decide +kernel, rfl, by decide +kernel, by decide +kernel⟩
theorem k5 : chkSs G ⟨f5.N, defScope t5, fun x => locB (defScope t5) x, f5.lm⟩ f5.body (defBody t5) = true := by decide +kernel
abbrev t6 : Stmt := top 29
theorem s6 : FnScope f6.N f6.ps (defScope t6) := ⟨rfl, rfl, rfl, by decide +kernel, rfl, by decide +kernel, by decide +kernel⟩
theorem k6 : chkSs G ⟨f6.N, defScope t6, fun x => locB (defScope t6) x, f6.lm⟩ f6.body (defBody t6) = true := by decide +kernel
abbrev t7 : Stmt := top 30
theorem s7 : FnScope f7.N f7.ps (defScope t7) := ⟨rfl, rfl, rfl, by decide +kernel, rfl, by decide +kernel, by decide +kernel⟩
theorem k7 : chkSs G ⟨f7.N, defScope t7, fun x => locB (defScope t7) x, f7.lm⟩ f7.body (defBody t7) = true := by decide +kernel
abbrev t8 : Stmt := top 31
theorem s8 : FnScope f8.N f8.ps (defScope t8) := ⟨rfl, rfl, rfl, by decide +kernel, rfl, by decide +kernel, by decide +kernel⟩
theorem k8 : chkSs G ⟨f8.N, defScope t8, fun x => locB (defScope t8) x, f8.lm⟩ f8.body (defBody t8) = true := by decide +kernel
abbrev t9 : Stmt := top 32
theorem s9 : FnScope f9.N f9.ps (defScope t9) := ⟨rfl, rfl, rfl, by decide +kernel, rfl, by decide +kernel, by decide +kernel⟩
theorem k9 : chkSs G ⟨f9.N, defScope t9, fun x => locB (defScope t9) x, f9.lm⟩ f9.body (defBody t9) = true := by decide +kernel
abbrev t10 : Stmt := top 33
theorem s10 : FnScope f10.N f10.ps (defScope t10) := ⟨rfl, rfl, rfl, by decide +kernel, rfl, by decide +kernel, by decide +kernel⟩
theorem k10 : chkSs G ⟨f10.N, defScope t10, fun x => locB (defScope t10) x, f10.lm⟩ f10.body (defBody t10) = true := by decide +kernel
abbrev t11 : Stmt := top 34
theorem s11 : FnScope f11.N f11.ps (defScope t11) := ⟨rfl, rfl, rfl, by decide +kernel, rfl, by decide +kernel, by decide +kernel⟩
theorem k11 : chkSs G ⟨f11.N, defScope t11, fun x => locB (defScope t11) x, f11.lm⟩ f11.body (defBody t11) = true := by decide +kernel
abbrev t12 : Stmt := top 35
theorem s12 : FnScope f12.N f12.ps (defScope t12) := ⟨rfl, rfl, rfl, by decide +kernel, rfl, by decide +kernel, by decide +kernel⟩
theorem k12 : chkSs G ⟨f12.N, defScope t12, fun x => locB (defScope t12) x, f12.lm⟩ f12.body (defBody t12) = true := by decide +kernel
abbrev t13 : Stmt := top 36
theorem s13 : FnScope f13.N f13.ps (defScope t13) := ⟨rfl, rfl, rfl, by decide +kernel, rfl, by decide +kernel, by decide +kernel⟩
theorem k13 : chkSs G ⟨f13.N, defScope t13, fun x => locB (defScope t13) x, f13.lm⟩ f13.body (defBody t13) = true := by decide +kernel
abbrev t14 : Stmt := top 37
theorem s14 : FnScope f14.N f14.ps (defScope t14) := ⟨rfl, rfl, rfl, by decide +kernel, rfl, by decide +kernel, by decide +kernel⟩
theorem k14 : chkSs G ⟨f14.N, defScope t14, fun x => locB (defScope t14) x, f14.lm⟩ f14.body (defBody t14) = true := by decide +kernel
abbrev t15 : Stmt := top 38
theorem s15 : FnScope f15.N f15.ps (defScope t15) := ⟨rfl, rfl, rfl, by decide +kernel, rfl, by decide +kernel, by decide +kernel⟩
theorem k15 : chkSs G ⟨f15.N, defScope t15, fun x => locB (defScope t15) x, f15.lm⟩ f15.body (defBody t15) = true := by decide +kernel
abbrev t16 : Stmt := top 39
theorem s16 : FnScope f16.N f16.ps (defScope t16) := ⟨rfl, rfl, rfl, by decide +kernel, rfl, by decide +kernel, by decide +kernel⟩
theorem k16 : chkSs G ⟨f16.N, defScope t16, fun x => locB (defScope t16) x, f16.lm⟩ f16.body (defBody t16) = true := by decide +kernel
abbrev t17 : Stmt := top 40
theorem s17 : FnScope f17.N f17.ps (defScope t17) := ⟨rfl, rfl, rfl, by decide +kernel, rfl, by decide +kernel, by decide +kernel⟩
theorem k17 : chkSs G ⟨f17.N, defScope t17, fun x => locB (defScope t17) x, f17.lm⟩ f17.body (defBody t17) = true := by decide +kernel
abbrev t18 : Stmt := top 41
theorem s18 : FnScope f18.N f18.ps (defScope t18) := ⟨rfl, rfl, rfl, by decide +kernel, rfl, by decide +kernel, by decide +kernel⟩
theorem k18 : chkSs G ⟨f18.N, defScope t18, fun x => locB (defScope t18) x, f18.lm⟩ f18.body (defBody t18) = true := by decide +kernel
abbrev t19 : Stmt := top 42
theorem s19 : FnScope f19.N f19.ps (defScope t19) := ⟨rfl, rfl, rfl, by decide +kernel, rfl, by decide +kernel, by decide +kernel⟩
theorem k19 : chkSs G ⟨f19.N, defScope t19, fun x => locB (defScope t19) x, f19.lm⟩ f19.body (defBody t19) = true := by decide +kernel
abbrev t20 : Stmt := top 43
theorem s20 : FnScope f20.N f20.ps (defScope t20) := ⟨rfl, rfl, rfl, by decide +kernel, rfl, by decide +kernel, by decide +kernel⟩
theorem k20 : chkSs G ⟨f20.N, defScope t20, fun x => locB (defScope t20) x, f20.lm⟩ f20.body (defBody t20) = true := by decide +kernel
abbrev t21 : Stmt := top 45
theorem s21 : FnScope f21.N f21.ps (defScope t21) := ⟨rfl, rfl, rfl, by decide +kernel, rfl, by decide +kernel, by decide +kernel⟩
theorem k21 : chkSs G ⟨f21.N, defScope t21, fun x => locB (defScope t21) x, f21.lm⟩ f21.body (defBody t21) = true := by decide +kernel
abbrev t22 : Stmt := top 46
theorem s22 : FnScope f22.N f22.ps (defScope t22) := ⟨rfl, rfl, rfl, by decide +kernel, rfl, by decide +kernel, by decide +kernel⟩
theorem k22 : chkSs G ⟨f22.N, defScope t22, fun x => locB (defScope t22) x, f22.lm⟩ f22.body (defBody t22) = true := by decide +kernel
abbrev t23 : Stmt := top 48
theorem s23 : FnScope f23.N f23.ps (defScope t23) := ⟨rfl, rfl, rfl, by decide +kernel, rfl, by decide +kernel, by decide +kernel⟩
theorem k23 : chkSs G ⟨f23.N, defScope t23, fun x => locB (defScope t23) x, f23.lm⟩ f23.body (defBody t23) = true := by decide +kernel
abbrev t24 : Stmt := top 49
theorem s24 : FnScope f24.N f24.ps (defScope t24) := ⟨rfl, rfl, rfl, by decide +kernel, rfl, by decide +kernel, by decide +kernel⟩
theorem k24 : chkSs G ⟨f24.N, defScope t24, fun x => locB (defScope t24) x, f24.lm⟩ f24.body (defBody t24) = true := by decide +kernel
abbrev t25 : Stmt := top 50
theorem s25 : FnScope f25.N f25.ps (defScope t25) := ⟨rfl, rfl, rfl, by decide +kernel, rfl, by decide +kernel, by decide +kernel⟩
theorem k25 : chkSs G ⟨f25.N, defScope t25, fun x => locB (defScope t25) x, f25.lm⟩ f25.body (defBody t25) = true := by decide +kernel
abbrev t26 : Stmt := top 51
theorem s26 : FnScope f26.N f26.ps (defScope t26) := ⟨rfl, rfl, rfl, by decide +kernel, rfl, by decide +kernel, by decide +kernel⟩
theorem k26 : chkSs G ⟨f26.N, defScope t26, fun x => locB (defScope t26) x, f26.lm⟩ f26.body (defBody t26) = true := by decide +kernel
abbrev t27 : Stmt := top 52
theorem s27 : FnScope f27.N f27.ps (defScope t27) := ⟨rfl, rfl, rfl, by decide +kernel, rfl, by decide +kernel, by decide +kernel⟩
theorem k27 : chkSs G ⟨f27.N, defScope t27, fun x => locB (defScope t27) x, f27.lm⟩ f27.body (defBody t27) = true := by decide +kernel
abbrev t28 : Stmt := top 53
theorem s28 : FnScope f28.N f28.ps (defScope t28) := ⟨rfl, rfl, rfl, by decide +kernel, rfl, by decide +kernel, by decide +kernel⟩
theorem k28 : chkSs G ⟨f28.N, defScope t28, fun x => locB (defScope t28) x, f28.lm⟩ f28.body (defBody t28) = true := by decide +kernel
abbrev t29 : Stmt := top 54
theorem s29 : FnScope f29.N f29.ps (defScope t29) := ⟨rfl, rfl, rfl, by decide +kernel, rfl, by decide +kernel, by decide +kernel⟩
theorem k29 : chkSs G ⟨f29.N, defScope t29, fun x => locB (defScope t29) x, f29.lm⟩ f29.body (defBody t29) = true := by decide +kernel
abbrev t30 : Stmt := top 55
theorem s30 : FnScope f30.N f30.ps (defScope t30) := ⟨rfl, rfl, rfl, by decide +kernel, rfl, by decide +kernel, by decide +kernel⟩
theorem k30 : chkSs G ⟨f30.N, defScope t30, fun x => locB (defScope t30) x, f30.lm⟩ f30.body (defBody t30) = true := by decide +kernel
abbrev t31 : Stmt := top 56
theorem s31 : FnScope f31.N f31.ps (defScope t31) := ⟨rfl, rfl, rfl, by decide +kernel, rfl, by decide +kernel, by decide +kernel⟩
theorem k31 : chkSs G ⟨f31.N, defScope t31, fun x => locB (defScope t31) x, f31.lm⟩ f31.body (defBody t31) = true := by decide +kernel
abbrev t32 : Stmt := top 57
theorem s32 : FnScope f32.N f32.ps (defScope t32) := ⟨rfl, rfl, rfl, by decide +kernel, rfl, by decide +kernel, by decide +kernel⟩
theorem k32 : chkSs G ⟨f32.N, defScope t32, fun x => locB (defScope t32) x, f32.lm⟩ f32.body (defBody t32) = true := by decide +kernel
abbrev t33 : Stmt := top 58
theorem s33 : FnScope f33.N f33.ps (defScope t33) := ⟨rfl, rfl, rfl, by decide +kernel, rfl, by decide +kernel, by decide +kernel⟩
theorem k33 : chkSs G ⟨f33.N, defScope t33, fun x => locB (defScope t33) x, f33.lm⟩ f33.body (defBody t33) = true := by decide +kernel
abbrev t34 : Stmt := top 59
theorem s34 : FnScope f34.N f34.ps (defScope t34) := ⟨rfl, rfl, rfl, by decide +kernel, rfl, by decide +kernel, by decide +kernel⟩
theorem k34 : chkSs G ⟨f34.N, defScope t34, fun x => locB (defScope t34) x, f34.lm⟩ f34.body (defBody t34) = true := by decide +kernel
abbrev t35 : Stmt := top 60
theorem s35 : FnScope f35.N f35.ps (defScope t35) := ⟨rfl, rfl, rfl, by decide +kernel, rfl, by decide +kernel, by decide +kernel⟩
theorem k35 : chkSs G ⟨f35.N, defScope t35, fun x => locB (defScope t35) x, f35.lm⟩ f35.body (defBody t35) = true := by decide +kernel
abbrev t36 : Stmt := top 61
theorem s36 : FnScope f36.N f36.ps (defScope t36) := ⟨rfl, rfl, rfl, by decide +kernel, rfl, by decide +kernel, by decide +kernel⟩
theorem k36 : chkSs G ⟨f36.N, defScope t36, fun x => locB (defScope t36) x, f36.lm⟩ f36.body (defBody t36) = true := by decide +kernel
abbrev t37 : Stmt := top 62
theorem s37 : FnScope f37.N f37.ps (defScope t37) := ⟨rfl, rfl, rfl, by decide +kernel, rfl, by decide +kernel, by decide +kernel⟩
theorem k37 : chkSs G ⟨f37.N, defScope t37, fun x => locB (defScope t37) x, f37.lm⟩ f37.body (defBody t37) = true := by decide +kernel
abbrev t38 : Stmt := top 63
theorem s38 : FnScope f38.N f38.ps (defScope t38) := ⟨rfl, rfl, rfl, by decide +kernel, rfl, by decide +kernel, by decide +kernel⟩
theorem k38 : chkSs G ⟨f38.N, defScope t38, fun x => locB (defScope t38) x, f38.lm⟩ f38.body (defBody t38) = true := by decide +kernel
abbrev t39 : Stmt := top 64
theorem s39 : FnScope f39.N f39.ps (defScope t39) := ⟨rfl, rfl, rfl, by decide +kernel, rfl, by decide +kernel, by decide +kernel⟩
theorem k39 : chkSs G ⟨f39.N, defScope t39, fun x => locB (defScope t39) x, f39.lm⟩ f39.body (defBody t39) = true := by decide +kernel
abbrev t40 : Stmt := top 65
theorem s40 : FnScope f40.N f40.ps (defScope t40) := ⟨rfl, rfl, rfl, by decide +kernel, rfl, by decide +kernel, by decide +kernel⟩
theorem k40 : chkSs G ⟨f40.N, defScope t40, fun x => locB (defScope t40) x, f40.lm⟩ f40.body (defBody t40) = true := by decide +kernel
abbrev t41 : Stmt := top 66
theorem s41 : FnScope f41.N f41.ps (defScope t41) := ⟨rfl, rfl, rfl, by decide +kernel, rfl, by decide +kernel, by decide +kernel⟩
theorem k41 : chkSs G ⟨f41.N, defScope t41, fun x => locB (defScope t41) x, f41.lm⟩ f41.body (defBody t41) = true := by decide +kernel
abbrev t42 : Stmt := top 67
theorem s42 : FnScope f42.N f42.ps (defScope t42) := ⟨rfl, rfl, rfl, by decide +kernel, rfl, by decide +kernel, by decide +kernel⟩
theorem k42 : chkSs G ⟨f42.N, defScope t42, fun x => locB (defScope t42) x, f42.lm⟩ f42.body (defBody t42) = true := by decide +kernel
abbrev t43 : Stmt := top 68
theorem s43 : FnScope f43.N f43.ps (defScope t43) := ⟨rfl, rfl, rfl, by decide +kernel, rfl, by decide +kernel, by decide +kernel⟩
theorem k43 : chkSs G ⟨f43.N, defScope t43, fun x => locB (defScope t43) x, f43.lm⟩ f43.body (defBody t43) = true := by decide +kernel
end K34
end

section
set_option maxRecDepth 100000
set_option autoImplicit false
namespace K34
open Ev PySem
theorem c0 : G.consts[0]? = some (("LETTERS" : Str), PyData.str "abcdefghijklmnopqrstuvwxyz") := rfl
theorem c1 : G.consts[1]? = some (("MOST_LETTERS" : Str), PyData.int 8) := rfl
def wordsD : List D := [.str "all", .str "and", .str "crowd", .str "deed", .str "do", .str "else", .str "fence", .str "give", .str "if", .str "let", .str "me", .str "most", .str "next", .str "not", .str "or", .str "out", .str "say", .str "share", .str "stop", .str "while"]
theorem c2 : G.consts[2]? = some (("RESERVED" : Str), PyData.tuple wordsD) := rfl
theorem c3 : G.consts[3]? = some (("LEAST_WORD" : Str), PyData.int (-32768)) := rfl
theorem c4 : G.consts[4]? = some (("MOST_WORD" : Str), PyData.int 32767) := rfl
theorem c5 : G.consts[5]? = some (("MOST_ROUNDS" : Str), PyData.int 9) := rfl
theorem c6 : G.consts[6]? = some (("MOST_POINTS" : Str), PyData.int 60) := rfl
theorem c7 : G.consts[7]? = some (("BOXES" : Str), PyData.int 6) := rfl
theorem c8 : G.consts[8]? = some (("COMMONS" : Str), PyData.int 3) := rfl
theorem c9 : G.consts[9]? = some (("SLOTS" : Str), PyData.int 60) := rfl
theorem c10 : G.consts[10]? = some (("SCRATCH" : Str), PyData.int 40) := rfl
def pairD (p : String × String) : D := .tuple [.str p.1, .str p.2]
def tabP : List (String × String) := [("point", "p"), ("set", "bn"), ("me", "b"), ("all", "b"), ("copy", "bb"), ("neg", "bb"), ("not", "bb"), ("add", "bbb"), ("sub", "bbb"), ("mul", "bbb"), ("div", "bbb"), ("rem", "bbb"), ("less", "bbb"), ("same", "bbb"), ("and", "bbb"), ("or", "bbb"), ("load", "bab"), ("store", "abb"), ("keep", "sb"), ("take", "bs"), ("say", "b"), ("jump", "l"), ("branch", "bll"), ("enter", ""), ("round", "bkll"), ("leave", ""), ("call", "l"), ("back", ""), ("fence", ""), ("stop", "")]
def rowsP : List D := tabP.map pairD
theorem c11 : G.consts[11]? = some (("GROUP_ROWS" : Str), PyData.tuple rowsP) := rfl
def comD : List D := [.str "set", .str "all", .str "copy", .str "neg", .str "not"]
theorem c12 : G.consts[12]? = some (("COMMON_WORDS" : Str), PyData.tuple comD) := rfl
def opsD : List D := [.str "add", .str "sub", .str "mul", .str "div", .str "rem", .str "less", .str "same", .str "and", .str "or"]
theorem c13 : G.consts[13]? = some (("OPS" : Str), PyData.tuple opsD) := rfl
theorem c14 : G.consts[14]? = some (("MOST_SHARES" : Str), PyData.int 4) := rfl
theorem c15 : G.consts[15]? = some (("MOST_SIZE" : Str), PyData.int 16) := rfl
theorem c16 : G.consts[16]? = some (("MOST_ROWS" : Str), PyData.int 4000) := rfl
theorem c17 : G.consts[17]? = some (("CALL" : Str), PyData.str "call") := rfl
theorem c18 : G.consts[18]? = some (("BACK" : Str), PyData.str "back") := rfl
theorem c19 : G.consts[19]? = some (("CROWD_PART" : Str), PyData.str "crowd") := rfl
theorem c20 : G.consts[20]? = some (("STOP" : Str), PyData.str "stop") := rfl
section
variable {st : Store} {Q : U → Store → Prop} {Qb : Bool → Prop}
theorem len_str {s : Str} : (bfD .len [.d (.str s)] st).wp Q ↔ s.length ≤ sizeMax ∧ Q (.d (.int s.length)) st := by
  show (if s.length ≤ sizeMax then R.ok _ st else .stuck).wp Q ↔ _
  by_cases h : s.length ≤ sizeMax
  · rw [if_pos h]; exact ⟨fun q => ⟨h, q⟩, fun q => q.2⟩
  · rw [if_neg h]; exact ⟨fun q => q.elim, fun q => absurd q.1 h⟩
theorem bf_tupL {xs : List D} : (bfD .tuple [.d (.list xs)] st).wp Q = Q (.d (.tuple xs)) st := rfl
def inS (y x : Str) : Bool := !(Builtin.Str.occurrences y x 0 y.length 1).isEmpty
theorem cmp_inS {x y : Str} : cmpQ .In (.d (.str x)) (.d (.str y)) Qb = Qb (inS y x) := rfl
theorem cmp_ninS {x y : Str} : cmpQ .NotIn (.d (.str x)) (.d (.str y)) Qb = Qb (!inS y x) := rfl
theorem fun_0 {h : Fv} {ε : Ev.Env} {Q : Fv → Prop} : funQ (some (.f h) :: ε) 0 Q = Q h := rfl
theorem fun_s {x : Option U} {n : Nat} {ε : Ev.Env} {Q : Fv → Prop} : funQ (x :: ε) (n + 1) Q = funQ ε n Q := rfl
end
/-- the evaluator's steps -/
local macro_rules | `(tactic| get_elem_tactic_trivial) => `(tactic| simp only [wps_cons, wps_nil, wp_ok, r_int, r_str, r_bool, r_none, r_var, r_bin, r_neg, r_not, r_cmp, r_chain, r_and, r_or, r_ite, r_tup, r_lst, r_alloc, r_alloc0, r_ix, r_call, r_callK, r_bcall, r_isty, r_meth0, r_meth1, r_dict, r_slice, r_rep, r_nil, r_cons, r_lam, r_fnv, r_callV, r_dm, r_isn, r_catM, r_tupX, r_trip, r_weak, r_tix, s_pass, s_ret, s_retN, s_asg, s_asgS, s_sub, s_tup, s_tgs0, s_tgs, s_tgN, s_par, s_par3, s_ex, s_aug, s_if, s_for, s_brk, s_cnt,
  var_0, var_s, fun_0, fun_s, tst_t, tst_f, tst_d, tst_n, neg_i, not_b, bin_add, bin_sub, bin_mul, bin_fdiv, bin_mod, bin_pow, bin_str, bin_lst, bin_tup, cmp_lt, cmp_le, cmp_gt, cmp_ge, cmp_eqI, cmp_neI, cmp_eqS, cmp_neS, cmp_eqB, cmp_is, cmp_isn, cmp_isB, cmp_isnB, cmp_inT, cmp_inL, cmp_ninT, cmp_ninL, cmp_inS, cmp_ninS, ty_d, ty_int, ty_bool, ty_str, ty_tup, unt_t, aug_0, aug_s, augr_add, augr_sub, opt_some, opt_map, opt_if, set_0, set_s, tupQ, toDs, Option.map_some, Option.map_none,
  wp_bind, part_0, part_1, sl_list, sl_tuple, sl_map, wk_list, wk_tuple, walk_r1, walk_r2, at1_0, at2_0, at2_1, at3_0, at3_1, at3_2, ix_list, ix_tuple, bf_int, bf_intB, bf_abs, bf_lenL, bf_lenT, bf_max, bf_min, divmod_wp, bf_repr, len_str, bf_tupL,
  str_eq, String.reduceEq, mem_str, mem_nil, flat_str, flat_int, List.all_cons, List.all_nil, Bool.and_self, Bool.or_false, decide_true, decide_false, not_true, not_false_eq_true, true_and, and_true, true_implies, false_implies, implies_true, Bool.not_true, Bool.not_false, Bool.false_or, Bool.true_or, Bool.or_true, Bool.not_not, List.length_cons, List.length_nil, sizeMax, Nat.reduceAdd, Nat.reduceLeDiff, ne_eq, pick, List.getElem?_cons_zero, List.getElem?_cons_succ,
  r_glob c0, r_glob c1, r_glob c2, r_glob c3, r_glob c4, r_glob c5, r_glob c6, r_glob c7, r_glob c8, r_glob c9, r_glob c10, r_glob c11, r_glob c12, r_glob c13, r_glob c14, r_glob c15, r_glob c16, r_glob c17, r_glob c18, r_glob c19, r_glob c20])
variable {W k : Nat} {st : Store} {Q : U → Store → Prop}
theorem comp_on {α : Type} {F : U → Store → R (Option U)} {Q : List U → Store → Prop} {st : Store} {f : α → U} {g : α → Option U} : ∀ {xs : List α} {acc : List U}, acc.length + xs.length ≤ sizeMax → (∀ x ∈ xs, ∀ Q : Option U → Store → Prop, Q (g x) st → (F (f x) st).wp Q) → Q (acc ++ xs.filterMap g) st → (compLoop F (xs.map f) acc st).wp Q
  | [], acc, _, _, q => by
    rw [List.filterMap_nil, List.append_nil] at q
    exact q
  | x :: xs, acc, hl, step, q => by
    rw [List.length_cons] at hl
    rw [List.map_cons]
    unfold compLoop
    rw [wp_bind]
    refine step x (List.mem_cons_self ..) _ ?_
    cases hg : g x with
    | none =>
      rw [List.filterMap_cons_none hg] at q
      exact comp_on (by omega) (fun v hv => step v (List.mem_cons_of_mem _ hv)) q
    | some y =>
      simp only
      rw [if_pos (by omega)]
      rw [List.filterMap_cons_some hg] at q
      refine comp_on (by rw [List.length_append, List.length_singleton]; omega) (fun v hv => step v (List.mem_cons_of_mem _ hv)) ?_
      rw [List.append_assoc]
      exact q
theorem fm_some {α β : Type} {g : α → β} (xs : List α) : xs.filterMap (fun x => some (g x)) = xs.map g := by
  induction xs with
  | nil => rfl
  | cons x xs ih => simp [ih]
theorem toB_map {α : Type} {g : α → Bool} : ∀ xs : List α, toBools (xs.map fun x => .bool (g x)) = some (xs.map g)
  | [] => rfl
  | x :: xs => by
    rw [List.map_cons]
    unfold toBools
    rw [toB_map xs]; rfl
theorem all_id {α : Type} {g : α → Bool} : ∀ xs : List α, (xs.map g).all id = xs.all g
  | [] => rfl
  | x :: xs => by
    rw [List.map_cons, List.all_cons, List.all_cons, all_id xs]; rfl
theorem toDs_of {α : Type} {g : α → D} (xs : List α) : toDs (xs.map fun x => U.d (g x)) = some (xs.map g) := by
  have := toDs_map (xs.map g)
  rwa [List.map_map] at this
/-- all of a comprehension -/
theorem all_on {α : Type} {F : U → Store → R (Option U)} {f : α → U} (g : α → Bool) {xs : List α} (hl : xs.length ≤ sizeMax) (step : ∀ x ∈ xs, ∀ Q : Option U → Store → Prop, Q (some (.d (.bool (g x)))) st → (F (f x) st).wp Q) (q : Q (.d (.bool (xs.all g))) st) : (compLoop F (xs.map f) [] st).wp fun acc st5 => optQ (toDs acc) fun ds => (bfD .all [.d (.list ds)] st5).wp Q := by
  refine comp_on (g := fun x => some (.d (.bool (g x)))) (by rw [List.length_nil]; omega) step ?_
  rw [List.nil_append, fm_some, toDs_of, opt_some, bf_all (toB_map xs), all_id]
  exact q
/-- those that pass -/
theorem filter_on {α : Type} {F : U → Store → R (Option U)} {f : α → D} (g : α → Bool) {xs : List α} {Q : List U → Store → Prop} (hl : xs.length ≤ sizeMax) (step : ∀ x ∈ xs, ∀ Q : Option U → Store → Prop, Q (if g x then some (.d (f x)) else none) st → (F (.d (f x)) st).wp Q) (q : Q (((xs.filter g).map f).map .d) st) : (compLoop F (xs.map fun x => .d (f x)) [] st).wp Q := by
  refine comp_on (g := fun x => if g x then some (.d (f x)) else none) (by rw [List.length_nil]; omega) step ?_
  rw [List.nil_append]
  have e : ∀ xs : List α, xs.filterMap (fun x => if g x then some (U.d (f x)) else none) = ((xs.filter g).map f).map .d := by
    intro xs
    induction xs with
    | nil => rfl
    | cons x xs ih =>
      cases h : g x
      · rw [List.filterMap_cons_none (by rw [h]; rfl), List.filter_cons_of_neg (by rw [h]; decide), ih]
      · rw [List.filterMap_cons_some (b := U.d (f x)) (by rw [h]; rfl), List.filter_cons_of_pos h, ih]; rfl
  rw [e]
  exact q
theorem wk_str {s : Str} (h : s.length ≤ sizeMax) : walkU .val [.d (.str s)] st = some (s.cps.toList.map fun c => .d (.str ⟨#[c]⟩)) := by
  show (if s.length ≤ sizeMax then _ else _) = _
  exact if_pos h
/-! ### data that is asked -/
def okS (s : Str) : Prop := s.length ≤ 100 ∧ PyData.strOk s = true
def ok : Nat → D → Prop
  | _, .none => True
  | _, .bool _ => True
  | _, .int _ => True
  | _, .str s => okS s
  | n + 1, .list xs => ∀ x ∈ xs, ok n x
  | n + 1, .tuple xs => ∀ x ∈ xs, ok n x
  | _, _ => False
theorem ok_all {n : Nat} {P : ∀ d, ok n d → PyData.canLay0 d = true ∧ d.depth ≤ n + 1} : ∀ {xs : List D}, (∀ x ∈ xs, ok n x) → PyData.canLayAll0 xs = true ∧ PyData.depthAll xs ≤ n + 1
  | [], _ => ⟨rfl, by simp [PyData.depthAll]⟩
  | x :: xs, h => by
    obtain ⟨h1, h2⟩ := ok_all (P := P) (xs := xs) fun z hz => h z (List.mem_cons_of_mem _ hz)
    obtain ⟨a, b⟩ := P x (h x (List.mem_cons_self ..))
    refine ⟨?_, ?_⟩
    · show (PyData.canLay0 x && PyData.canLayAll0 xs) = true
      rw [a, h1]; rfl
    · simp only [PyData.depthAll]; omega
theorem ok_lay : ∀ (n : Nat) (d : D), ok n d → PyData.canLay0 d = true ∧ d.depth ≤ n + 1
  | _, .none, _ => ⟨rfl, by simp [PyData.depth]⟩
  | _, .bool _, _ => ⟨rfl, by simp [PyData.depth]⟩
  | _, .int _, _ => ⟨rfl, by simp [PyData.depth]⟩
  | n, .str s, h => ⟨by cases n <;> exact h.2, by simp [PyData.depth]⟩
  | n + 1, .list xs, h => by
    obtain ⟨a, b⟩ := ok_all (P := ok_lay n) h
    exact ⟨a, by simp only [PyData.depth]; omega⟩
  | n + 1, .tuple xs, h => by
    obtain ⟨a, b⟩ := ok_all (P := ok_lay n) h
    exact ⟨a, by simp only [PyData.depth]; omega⟩
  | 0, .list _, h => h.elim
  | 0, .tuple _, h => h.elim
  | 0, .dict _, h => h.elim
  | _ + 1, .dict _, h => h.elim
theorem ok_shaped {n : Nat} {d : D} (hn : n ≤ 60) (h : ok n d) : SeqAt.shaped d = true := by
  obtain ⟨a, b⟩ := ok_lay n d h
  unfold SeqAt.shaped
  rw [a, decide_eq_true (by omega)]; rfl
theorem eq_sh {a b : D} {Qb : Bool → Prop} (ha : SeqAt.shaped a = true) (hb : SeqAt.shaped b = true) (q : Qb (PyData.eqv a b)) : cmpQ .Eq (.d a) (.d b) Qb := by
  rw [cmp_eq]
  exact ⟨by unfold eqOk; rw [ha, hb, Bool.and_self, Bool.or_true], q⟩
theorem ne_sh {a b : D} {Qb : Bool → Prop} (ha : SeqAt.shaped a = true) (hb : SeqAt.shaped b = true) (q : Qb (!PyData.eqv a b)) : cmpQ .NotEq (.d a) (.d b) Qb := by
  rw [cmp_ne]
  exact ⟨by unfold eqOk; rw [ha, hb, Bool.and_self, Bool.or_true], q⟩
theorem eqv_nilL (ys : List D) : PyData.eqv (.list ys) (.list []) = ys.isEmpty := by
  cases ys
  · decide
  · simp [PyData.eqv, PyData.eqvAll]
theorem eqv_nilT (ys : List D) : PyData.eqv (.tuple ys) (.tuple []) = ys.isEmpty := by
  cases ys
  · decide
  · simp [PyData.eqv, PyData.eqvAll]
theorem ok_str {n : Nat} {s : Str} (h : ok n (.str s)) : okS s := by cases n <;> exact h
theorem isE_filter {α β : Type} {f : α → β} {g : α → Bool} (xs : List α) : ((xs.filter fun x => !g x).map f).isEmpty = xs.all g := by
  induction xs with
  | nil => rfl
  | cons x xs ih =>
    cases e : g x
    · rw [List.filter_cons_of_pos (by rw [e]; rfl), List.all_cons, e]; rfl
    · rw [List.filter_cons_of_neg (by rw [e]; decide), List.all_cons, e, ih]; rfl
/-! ### numbers -/
def wholeD : D → Bool
  | .int _ => true
  | _ => false
theorem r0 (x : D) (q : Q (.d (.bool (wholeD x))) st) : (callRaw G W (k + 1) 0 [.d x] st).wp Q := by
  refine call_by (F := f0) rfl rfl ?_
  show (exSs G W _ _ b0 [some (.d x)] st).wp _
  unfold b0
  get_elem_tactic_trivial
  cases x <;> exact q
theorem p0 (x : D) : (callU G (cpK G W (k + 1)) (cmK G W (k + 1)) 0 [.d x] st).wp Q = Q (.d (.bool (wholeD x))) st := pure_eq (F := f0) rfl rfl rfl fun Q q => r0 x q
def numS (l h : Int) : D → Bool
  | .int i => decide (l ≤ i) && decide (i ≤ h)
  | _ => false
theorem r1 (x : D) (l h : Int) (q : Q (.d (.bool (numS l h x))) st) : (callRaw G W (k + 2) 1 [.d x, .d (.int l), .d (.int h)] st).wp Q := by
  refine call_by (F := f1) rfl rfl ?_
  show (exSs G W _ _ b1 [some (.d x), some (.d (.int l)), some (.d (.int h))] st).wp _
  unfold b1
  get_elem_tactic_trivial
  rw [p0]
  cases x with
  | int i =>
    simp only [wholeD]
    get_elem_tactic_trivial
    simp only [isNoneD]
    get_elem_tactic_trivial
    unfold numS at q
    refine ⟨fun h1 => ?_, fun h1 => ?_⟩
    · simp only [decide_eq_true h1, Bool.true_and] at q; exact q
    · simp only [decide_eq_false h1, Bool.false_and] at q; exact q
  | _ => exact q
theorem p1 (x : D) (l h : Int) : (callU G (cpK G W (k + 2)) (cmK G W (k + 2)) 1 [.d x, .d (.int l), .d (.int h)] st).wp Q = Q (.d (.bool (numS l h x))) st := pure_eq (F := f1) rfl rfl rfl fun Q q => r1 x l h q
theorem r29 (x : D) (l h : Int) (q : Q (.d (.bool (numS l h x))) st) : (callRaw G W (k + 1) 29 [.d x, .d (.int l), .d (.int h)] st).wp Q := by
  refine call_by (F := f29) rfl rfl ?_
  show (exSs G W _ _ b29 [some (.d x), some (.d (.int l)), some (.d (.int h))] st).wp _
  unfold b29
  get_elem_tactic_trivial
  cases x with
  | int i =>
    simp only [intB, boolB]
    get_elem_tactic_trivial
    unfold numS at q
    refine ⟨fun h1 => ?_, fun h1 => ?_⟩
    · simp only [decide_eq_true h1, Bool.true_and] at q; exact q
    · simp only [decide_eq_false h1, Bool.false_and] at q; exact q
  | _ => exact q
theorem p29 (x : D) (l h : Int) : (callU G (cpK G W (k + 1)) (cmK G W (k + 1)) 29 [.d x, .d (.int l), .d (.int h)] st).wp Q = Q (.d (.bool (numS l h x))) st := pure_eq (F := f29) rfl rfl rfl fun Q q => r29 x l h q
def tupN (n : Int) : D → Bool
  | .tuple xs => decide ((xs.length : Int) = n)
  | _ => false
theorem r2 (x : D) (n : Int) (q : Q (.d (.bool (tupN n x))) st) : (callRaw G W (k + 1) 2 [.d x, .d (.int n)] st).wp Q := by
  refine call_by (F := f2) rfl rfl ?_
  show (exSs G W _ _ b2 [some (.d x), some (.d (.int n))] st).wp _
  unfold b2
  get_elem_tactic_trivial
  cases x with
  | tuple xs =>
    simp only [tupB]
    get_elem_tactic_trivial
    exact q
  | _ => exact q
theorem p2 (x : D) (n : Int) : (callU G (cpK G W (k + 1)) (cmK G W (k + 1)) 2 [.d x, .d (.int n)] st).wp Q = Q (.d (.bool (tupN n x))) st := pure_eq (F := f2) rfl rfl rfl fun Q q => r2 x n q
/-! ### names -/
def abc : Str := "abcdefghijklmnopqrstuvwxyz"
def textS : D → Bool
  | .str s => !decide (s = "") && s.cps.toList.all fun c => inS abc ⟨#[c]⟩
  | _ => false
theorem r3 {x : D} {n : Nat} (hx : ok n x) (q : Q (.d (.bool (textS x))) st) : (callRaw G W (k + 1) 3 [.d x, .d (.str "abcdefghijklmnopqrstuvwxyz")] st).wp Q := by
  refine call_by (F := f3) rfl rfl ?_
  show (exSs G W _ _ b3 [some (.d x), some (.d (.str "abcdefghijklmnopqrstuvwxyz")), none] st).wp _
  unfold b3
  get_elem_tactic_trivial
  cases x with
  | str s =>
    have hs := (ok_str hx).1
    simp only [strB]
    get_elem_tactic_trivial
    simp only [r_comp]
    get_elem_tactic_trivial
    rw [wk_str (by unfold sizeMax; omega)]
    get_elem_tactic_trivial
    simp only [textS] at q
    refine ⟨fun h => ?_, fun h => ?_⟩
    · rw [decide_eq_true h] at q; exact q
    · rw [decide_eq_false h, Bool.not_false, Bool.true_and] at q
      refine all_on (fun c => inS abc ⟨#[c]⟩) (by unfold sizeMax; have : s.cps.toList.length = s.length := Array.length_toList; omega) (fun c _ Q q => ?_) q
      rw [turn_wp rfl]
      unfold compQ
      simp only [wipeE, setE, List.set_cons_succ, List.set_cons_zero]
      get_elem_tactic_trivial
      exact q
  | _ => exact q
theorem p3 {x : D} {n : Nat} (hx : ok n x) : (callU G (cpK G W (k + 1)) (cmK G W (k + 1)) 3 [.d x, .d (.str "abcdefghijklmnopqrstuvwxyz")] st).wp Q = Q (.d (.bool (textS x))) st := pure_eq (F := f3) rfl rfl rfl fun Q q => r3 hx q
def nameS : D → Bool
  | .str s => (!decide (s = "") && s.cps.toList.all fun c => inS abc ⟨#[c]⟩) && (decide ((s.length : Int) ≤ 8) && !memD (.str s) wordsD)
  | _ => false
theorem flat_words : wordsD.all flatD = true := rfl
theorem r4 {x : D} {n : Nat} (hx : ok n x) (q : Q (.d (.bool (nameS x))) st) : (callRaw G W (k + 2) 4 [.d x] st).wp Q := by
  refine call_by (F := f4) rfl rfl ?_
  show (exSs G W _ _ b4 [some (.d x)] st).wp _
  unfold b4
  get_elem_tactic_trivial
  rw [p3 hx]
  cases x with
  | str s =>
    have hs := (ok_str hx).1
    simp only [nameS] at q
    simp only [textS]
    cases h : (!decide (s = "") && s.cps.toList.all fun c => inS abc ⟨#[c]⟩) with
    | false => rw [h] at q; exact q
    | true =>
      rw [h, Bool.true_and] at q
      get_elem_tactic_trivial
      refine ⟨by omega, fun h => ?_, fun h => ?_⟩
      · refine ⟨flat_words, ?_⟩
        rw [decide_eq_true h] at q; exact q
      · rw [decide_eq_false h] at q; exact q
  | _ => exact q
theorem p4 {x : D} {n : Nat} (hx : ok n x) : (callU G (cpK G W (k + 2)) (cmK G W (k + 2)) 4 [.d x] st).wp Q = Q (.d (.bool (nameS x))) st := pure_eq (F := f4) rfl rfl rfl fun Q q => r4 hx q
theorem words_split : (PySem.Txt.split ("all and crowd deed do else fence give if let me most next not or out say share stop while" : Str) (" " : Str)).map PyData.str = wordsD := by
  have : PySem.Txt.split ("all and crowd deed do else fence give if let me most next not or out say share stop while" : Str) (" " : Str) = ["all", "and", "crowd", "deed", "do", "else", "fence", "give", "if", "let", "me", "most", "next", "not", "or", "out", "say", "share", "stop", "while"].map Str.ofString := by decide +kernel
  rw [this]; rfl
theorem dm_split {a b : Str} {Q : U → Prop} : optQ (dmU .split (.d (.str a)) (.d (.str b))) Q ↔ ((b.length == 0) = false ∧ a.length + 2 ≤ sizeMax) ∧ Q (.d (.list ((PySem.Txt.split a b).map .str))) := by
  show optQ ((if _ then some _ else none).map U.d) Q ↔ _
  exact opt_ite_map rfl
theorem r27 (q : Q (.d (.list wordsD)) st) : (callRaw G W (k + 1) 27 [] st).wp Q := by
  refine call_by (F := f27) rfl rfl ?_
  show (exSs G W _ _ b27 [none] st).wp _
  unfold b27
  get_elem_tactic_trivial
  refine ⟨rfl, ?_⟩
  rw [dm_split, words_split]
  exact ⟨⟨by decide +kernel, by decide +kernel⟩, q⟩
theorem p27 : (callU G (cpK G W (k + 1)) (cmK G W (k + 1)) 27 [] st).wp Q = Q (.d (.list wordsD)) st := pure_eq (F := f27) rfl rfl rfl fun Q q => r27 q
theorem empty_len {s : Str} : s = "" ↔ s.length = 0 := by
  constructor
  · rintro rfl; rfl
  · intro h
    cases s with
    | mk a =>
      have : a = #[] := Array.eq_empty_of_size_eq_zero h
      subst this; rfl
theorem r28 {x : D} {n : Nat} (hx : ok n x) (q : Q (.d (.bool (nameS x))) st) : (callRaw G W (k + 2) 28 [.d x] st).wp Q := by
  refine call_by (F := f28) rfl rfl ?_
  show (exSs G W _ _ b28 [some (.d x), none] st).wp _
  unfold b28
  get_elem_tactic_trivial
  cases x with
  | str s =>
    have hs := (ok_str hx).1
    simp only [strB]
    get_elem_tactic_trivial
    rw [p27]
    get_elem_tactic_trivial
    refine ⟨by omega, fun h1 => ?_, fun h1 => ?_⟩
    · have h1 : ¬ s = "" := fun z => by rw [empty_len] at z; omega
      refine ⟨fun h2 => ?_, fun h2 => ?_⟩
      · refine ⟨flat_words, ?_⟩
        cases h3 : memD (.str s) wordsD with
        | true =>
          get_elem_tactic_trivial
          simp only [nameS] at q
          rw [h3, Bool.not_true, Bool.and_false, Bool.and_false] at q
          exact q
        | false =>
          get_elem_tactic_trivial
          simp only [nameS] at q
          rw [h3, decide_eq_false h1, decide_eq_true h2, Bool.not_false, Bool.true_and, Bool.and_true, Bool.and_true] at q
          simp only [r_comp]
          get_elem_tactic_trivial
          rw [wk_str (by unfold sizeMax; omega)]
          get_elem_tactic_trivial
          refine filter_on (f := fun c : Nat => PyData.str ⟨#[c]⟩) (fun c => !inS abc ⟨#[c]⟩) (by unfold sizeMax; have : s.cps.toList.length = s.length := Array.length_toList; omega) (fun c _ Q q => ?_) ?_
          · rw [turn_wp rfl]
            unfold compQ
            simp only [wipeE, setE, List.set_cons_succ, List.set_cons_zero]
            get_elem_tactic_trivial
            show tstQ (.d (.bool (!inS abc ⟨#[c]⟩))) _ _
            cases h : inS abc ⟨#[c]⟩
            · rw [h] at q; exact q
            · rw [h] at q; exact q
          · rw [toDs_map]
            get_elem_tactic_trivial
            refine eq_sh ?_ (by decide) ?_
            · refine ok_shaped (n := 1) (by decide) fun y hy => ?_
              obtain ⟨c, hc, rfl⟩ := List.mem_map.mp hy
              refine ⟨show 1 ≤ 100 by decide, ?_⟩
              have h5 := (ok_str ‹ok n (.str s)›).2
              unfold PyData.strOk at h5 ⊢
              rw [← Array.all_toList] at h5 ⊢
              have := List.all_eq_true.mp h5 c (List.mem_filter.mp hc).1
              show (decide (c < 1114112) && true) = true
              rw [this]; rfl
            · rw [eqv_nilL, isE_filter]; exact q
      · simp only [nameS] at q
        rw [decide_eq_false h2, Bool.false_and, Bool.and_false] at q
        exact q
    · have h1 : s = "" := by rw [empty_len]; omega
      simp only [nameS] at q
      rw [decide_eq_true h1] at q
      exact q
  | _ => exact q
theorem p28 {x : D} {n : Nat} (hx : ok n x) : (callU G (cpK G W (k + 2)) (cmK G W (k + 2)) 28 [.d x] st).wp Q = Q (.d (.bool (nameS x))) st := pure_eq (F := f28) rfl rfl rfl fun Q q => r28 hx q
end K34
end

section
set_option maxRecDepth 100000
set_option autoImplicit false
namespace K34
open Ev PySem
/-- the evaluator's steps -/
local macro_rules | `(tactic| get_elem_tactic_trivial) => `(tactic| simp only [wps_cons, wps_nil, wp_ok, r_int, r_str, r_bool, r_none, r_var, r_bin, r_neg, r_not, r_cmp, r_chain, r_and, r_or, r_ite, r_tup, r_lst, r_alloc, r_alloc0, r_ix, r_call, r_callK, r_bcall, r_isty, r_meth0, r_meth1, r_dict, r_slice, r_rep, r_nil, r_cons, r_lam, r_fnv, r_callV, r_dm, r_isn, r_catM, r_tupX, r_trip, r_weak, r_tix, s_pass, s_ret, s_retN, s_asg, s_asgS, s_sub, s_tup, s_tgs0, s_tgs, s_tgN, s_par, s_par3, s_ex, s_aug, s_if, s_for, s_brk, s_cnt,
  var_0, var_s, fun_0, fun_s, tst_t, tst_f, tst_d, tst_n, neg_i, not_b, bin_add, bin_sub, bin_mul, bin_fdiv, bin_mod, bin_pow, bin_str, bin_lst, bin_tup, cmp_lt, cmp_le, cmp_gt, cmp_ge, cmp_eqI, cmp_neI, cmp_eqS, cmp_neS, cmp_eqB, cmp_is, cmp_isn, cmp_isB, cmp_isnB, cmp_inT, cmp_inL, cmp_ninT, cmp_ninL, cmp_inS, cmp_ninS, ty_d, ty_int, ty_bool, ty_str, ty_tup, unt_t, aug_0, aug_s, augr_add, augr_sub, opt_some, opt_map, opt_if, set_0, set_s, tupQ, toDs, Option.map_some, Option.map_none,
  wp_bind, part_0, part_1, sl_list, sl_tuple, sl_map, wk_list, wk_tuple, walk_r1, walk_r2, at1_0, at2_0, at2_1, at3_0, at3_1, at3_2, ix_list, ix_tuple, bf_int, bf_intB, bf_abs, bf_lenL, bf_lenT, bf_max, bf_min, divmod_wp, bf_repr, len_str, bf_tupL,
  str_eq, String.reduceEq, mem_str, mem_nil, flat_str, flat_int, List.all_cons, List.all_nil, Bool.and_self, Bool.or_false, decide_true, decide_false, not_true, not_false_eq_true, true_and, and_true, true_implies, false_implies, implies_true, Bool.not_true, Bool.not_false, Bool.false_or, Bool.true_or, Bool.or_true, Bool.not_not, List.length_cons, List.length_nil, sizeMax, Nat.reduceAdd, Nat.reduceLeDiff, ne_eq, pick, List.getElem?_cons_zero, List.getElem?_cons_succ,
  r_glob c0, r_glob c1, r_glob c2, r_glob c3, r_glob c4, r_glob c5, r_glob c6, r_glob c7, r_glob c8, r_glob c9, r_glob c10, r_glob c11, r_glob c12, r_glob c13, r_glob c14, r_glob c15, r_glob c16, r_glob c17, r_glob c18, r_glob c19, r_glob c20])
variable {W k : Nat} {st : Store} {Q : U → Store → Prop}
/-! ### rows: the program -/
def lookS : List (String × String) → Str → Option String
  | [], _ => none
  | p :: t, w => if Str.ofString p.1 = w then some p.2 else lookS t w
def madeS : Nat → List (String × String) → Str → List D
  | _, [], _ => []
  | n, p :: t, w => if Str.ofString p.1 = w then .tuple [.int n, .str p.2] :: madeS (n + 1) t w else madeS (n + 1) t w
def enumP : Nat → List (String × String) → List (Nat × String × String)
  | _, [] => []
  | n, p :: t => (n, p) :: enumP (n + 1) t
theorem enum_map : ∀ (n : Nat) (t : List (String × String)), (enumD n (t.map pairD)).map U.d = (enumP n t).map fun p => U.d (.tuple [.int p.1, pairD p.2])
  | _, [] => rfl
  | n, p :: t => by
    rw [List.map_cons]
    unfold enumD enumP
    rw [List.map_cons, List.map_cons, enum_map (n + 1) t]
theorem made_map (w : Str) : ∀ (n : Nat) (t : List (String × String)), (enumP n t).filterMap (fun p => if Str.ofString p.2.1 = w then some (U.d (.tuple [.int p.1, .str p.2.2])) else none) = (madeS n t w).map .d
  | _, [] => rfl
  | n, p :: t => by
    unfold enumP madeS
    by_cases h : Str.ofString p.1 = w
    · rw [List.filterMap_cons_some (b := U.d (.tuple [.int n, .str p.2])) (by simp only [h, if_true]), if_pos h, List.map_cons, made_map w (n + 1) t]
    · rw [List.filterMap_cons_none (by simp only [h, if_false]), if_neg h, made_map w (n + 1) t]
theorem made_look (w : Str) : ∀ (n : Nat) (t : List (String × String)), (madeS n t w = [] ∧ lookS t w = none) ∨ ∃ i l r, madeS n t w = .tuple [.int i, .str (Str.ofString l)] :: r ∧ lookS t w = some l
  | _, [] => .inl ⟨rfl, rfl⟩
  | n, p :: t => by
    unfold madeS lookS
    by_cases h : Str.ofString p.1 = w
    · rw [if_pos h, if_pos h]; exact .inr ⟨_, _, _, rfl, rfl⟩
    · rw [if_neg h, if_neg h]; exact made_look w (n + 1) t
theorem enumP_len : ∀ (n : Nat) (t : List (String × String)), (enumP n t).length = t.length
  | _, [] => rfl
  | n, p :: t => by unfold enumP; rw [List.length_cons, List.length_cons, enumP_len]
theorem r5 (w : Str) (q : Q (.d (.list (madeS 0 tabP w))) st) : (callRaw G W (k + 1) 5 [.d (.tuple rowsP), .d (.str w)] st).wp Q := by
  refine call_by (F := f5) rfl rfl ?_
  show (exSs G W _ _ b5 [some (.d (.tuple rowsP)), some (.d (.str w)), none, none, none] st).wp _
  unfold b5
  get_elem_tactic_trivial
  simp only [r_comp]
  get_elem_tactic_trivial
  rw [show walkU .enum [.d (.tuple rowsP)] st = some ((enumD 0 (tabP.map pairD)).map .d) from rfl, opt_some, enum_map]
  refine comp_on (g := fun p => if Str.ofString p.2.1 = w then some (U.d (.tuple [.int p.1, .str p.2.2])) else none) (by rw [enumP_len]; decide) (fun p _ Q q => ?_) ?_
  · rw [turn_wp rfl]
    unfold compQ
    simp only [wipeE, setE, setEs, List.set_cons_succ, List.set_cons_zero, List.map_cons, List.map_nil]
    get_elem_tactic_trivial
    refine ⟨fun h => ?_, fun h => ?_⟩
    · simp only [h, if_true] at q; exact q
    · simp only [h, if_false] at q; exact q
  · rw [made_map, List.nil_append, toDs_map]
    get_elem_tactic_trivial
    exact q
theorem p5 (w : Str) : (callU G (cpK G W (k + 1)) (cmK G W (k + 1)) 5 [.d (.tuple rowsP), .d (.str w)] st).wp Q = Q (.d (.list (madeS 0 tabP w))) st := pure_eq (F := f5) rfl rfl rfl fun Q q => r5 w q
/-! letters -/
def loC (c : Nat) : Int := if c = 110 then -32768 else if c = 107 then 1 else 0
def hiC (sh mn : Int) (c : Nat) : Int := if c = 110 then 32767 else if c = 107 then 9 else if c = 112 then 59 else if c = 98 then 8 else if c = 97 then sh - 1 else if c = 115 then 59 else mn - 1
def alph : List Nat := [110, 107, 112, 98, 97, 115, 108]
theorem sg_n : (⟨#[110]⟩ : Str) = Str.ofString "n" := by rw [Str.ofString_eq_toList]; rfl
theorem sg_k : (⟨#[107]⟩ : Str) = Str.ofString "k" := by rw [Str.ofString_eq_toList]; rfl
theorem sg_p : (⟨#[112]⟩ : Str) = Str.ofString "p" := by rw [Str.ofString_eq_toList]; rfl
theorem sg_b : (⟨#[98]⟩ : Str) = Str.ofString "b" := by rw [Str.ofString_eq_toList]; rfl
theorem sg_a : (⟨#[97]⟩ : Str) = Str.ofString "a" := by rw [Str.ofString_eq_toList]; rfl
theorem sg_s : (⟨#[115]⟩ : Str) = Str.ofString "s" := by rw [Str.ofString_eq_toList]; rfl
theorem sg_l : (⟨#[108]⟩ : Str) = Str.ofString "l" := by rw [Str.ofString_eq_toList]; rfl
theorem sg_c : (⟨#[99]⟩ : Str) = Str.ofString "c" := by rw [Str.ofString_eq_toList]; rfl
theorem sg_d : (⟨#[100]⟩ : Str) = Str.ofString "d" := by rw [Str.ofString_eq_toList]; rfl
theorem sg_inj {c e : Nat} : ((⟨#[c]⟩ : Str) = ⟨#[e]⟩) = (c = e) := by
  refine propext ⟨fun h => ?_, fun h => by rw [h]⟩
  injection h with h
  injection h with h
  injection h
theorem ix_dict {kvs : List (D × D)} {s : Str} : ixU (.d (.dict kvs)) (.d (.str s)) st = (lookD kvs s).map .d := rfl
theorem r6 {c : Nat} (hc : c ∈ alph) (sh mn : Int) (q : Q (.d (.tuple [.int (loC c), .int (hiC sh mn c)])) st) : (callRaw G W (k + 1) 6 [.d (.str ⟨#[c]⟩), .d (.int sh), .d (.int mn)] st).wp Q := by
  refine call_by (F := f6) rfl rfl ?_
  show (exSs G W _ _ b6 [some (.d (.str ⟨#[c]⟩)), some (.d (.int sh)), some (.d (.int mn)), none] st).wp _
  unfold b6
  simp only [alph, List.mem_cons, List.not_mem_nil, or_false] at hc
  rcases hc with rfl | rfl | rfl | rfl | rfl | rfl | rfl <;> simp only [sg_n, sg_k, sg_p, sg_b, sg_a, sg_s, sg_l] <;> get_elem_tactic_trivial <;> try exact q
  all_goals
    rw [show ∀ a b c d e f : Int, dictU ["p", "b", "a", "s", "l", "c"] [.d (.int a), .d (.int b), .d (.int c), .d (.int d), .d (.int e), .d (.int f)] = some (.d (.dict [(.str "p", .int a), (.str "b", .int b), (.str "a", .int c), (.str "s", .int d), (.str "l", .int e), (.str "c", .int f)])) from fun _ _ _ _ _ _ => rfl]
    get_elem_tactic_trivial
    simp only [ix_dict, lookD, isKey, str_eq, String.reduceEq, decide_true, decide_false, if_true, Bool.false_eq_true, if_false]
    get_elem_tactic_trivial
    exact q
theorem p6 {c : Nat} (hc : c ∈ alph) (sh mn : Int) : (callU G (cpK G W (k + 1)) (cmK G W (k + 1)) 6 [.d (.str ⟨#[c]⟩), .d (.int sh), .d (.int mn)] st).wp Q = Q (.d (.tuple [.int (loC c), .int (hiC sh mn c)])) st := pure_eq (F := f6) rfl rfl rfl fun Q q => r6 hc sh mn q
def partS (sh mn : Int) (c : Nat) (x : D) : Bool := numS (loC c) (hiC sh mn c) x
theorem r7 {c : Nat} (hc : c ∈ alph) (x : D) (sh mn : Int) (q : Q (.d (.bool (partS sh mn c x))) st) : (callRaw G W (k + 3) 7 [.d (.str ⟨#[c]⟩), .d x, .d (.int sh), .d (.int mn)] st).wp Q := by
  refine call_by (F := f7) rfl rfl ?_
  show (exSs G W _ _ b7 [some (.d (.str ⟨#[c]⟩)), some (.d x), some (.d (.int sh)), some (.d (.int mn)), none, none] st).wp _
  unfold b7
  get_elem_tactic_trivial
  rw [p6 hc]
  get_elem_tactic_trivial
  rw [List.map_cons, List.map_cons, List.map_nil]
  get_elem_tactic_trivial
  rw [p1]
  exact q
theorem p7 {c : Nat} (hc : c ∈ alph) (x : D) (sh mn : Int) : (callU G (cpK G W (k + 3)) (cmK G W (k + 3)) 7 [.d (.str ⟨#[c]⟩), .d x, .d (.int sh), .d (.int mn)] st).wp Q = Q (.d (.bool (partS sh mn c x))) st := pure_eq (F := f7) rfl rfl rfl fun Q q => r7 hc x sh mn q
def chars (l : String) : List Nat := (Str.ofString l).cps.toList
theorem chars_len (l : String) : (Str.ofString l).length = (chars l).length := Array.length_toList.symm
theorem zip_map (s : List Nat) : ∀ ys : List D, (zipD (s.map fun c => .str ⟨#[c]⟩) ys).map U.d = (s.zip ys).map fun p => U.d (.tuple [.str ⟨#[p.1]⟩, p.2]) := by
  induction s with
  | nil => intro ys; cases ys <;> rfl
  | cons c s ih =>
    intro ys
    cases ys with
    | nil => rfl
    | cons y ys =>
      rw [List.map_cons, List.zip_cons_cons]
      unfold zipD
      rw [List.map_cons, List.map_cons, ih]
theorem wk_zip {l : String} {ys : List D} : walkU .zip [.d (.str (Str.ofString l)), .d (.tuple ys)] st = some (((chars l).zip ys).map fun p => U.d (.tuple [.str ⟨#[p.1]⟩, p.2])) := by
  rw [← zip_map]; rfl
theorem sl_one {x : D} {xs : List D} : sl (x :: xs) (some 1) none = xs := by
  unfold sl
  have e1 : HT.sIx (x :: xs).length 0 (some 1) = 1 := by
    simp [HT.sIx]
  have e2 : HT.sIx (x :: xs).length (x :: xs).length none = (x :: xs).length := rfl
  rw [e1, e2]
  simp
theorem look_mem {w : Str} {l : String} : ∀ {t : List (String × String)}, lookS t w = some l → ∃ p ∈ t, Str.ofString p.1 = w ∧ p.2 = l
  | [], h => nomatch h
  | p :: t, h => by
    unfold lookS at h
    by_cases e : Str.ofString p.1 = w
    · rw [if_pos e] at h
      exact ⟨p, List.mem_cons_self .., e, by injection h⟩
    · rw [if_neg e] at h
      obtain ⟨p, h1, h2⟩ := look_mem h
      exact ⟨p, List.mem_cons_of_mem _ h1, h2⟩
theorem tab_alph : ∀ p ∈ tabP, ∀ c ∈ chars p.2, c ∈ alph := by decide +kernel
theorem tab_short : ∀ p ∈ tabP, (chars p.2).length ≤ 4 := by decide +kernel
theorem zip_mem1 {α β : Type} {xs : List α} {ys : List β} {p : α × β} (h : p ∈ xs.zip ys) : p.1 ∈ xs := (List.of_mem_zip (a := p.1) (b := p.2) h).1
theorem for_ret {set : U → Ev.Env → Option Ev.Env} {body : Ev.Env → Store → RS} {D : Out} {u : U} {us : List U} {ε ε1 : Ev.Env} (h : set u ε = some ε1) (b : (body ε1 st).wp { rt := D.rt }) : (forLoop set body (u :: us) ε st).wp D := by
  unfold forLoop
  rw [h]
  simp only
  cases r : body ε1 st with
  | nx => rw [r] at b; exact b.elim
  | ret => rw [r] at b; exact b
  | brk => rw [r] at b; exact b.elim
  | cnt => rw [r] at b; exact b.elim
  | exc => rw [r] at b; exact b
  | stuck => rw [r] at b; exact b
theorem for_one {set : U → Ev.Env → Option Ev.Env} {body : Ev.Env → Store → RS} {D : Out} {u : U} {ε ε1 : Ev.Env} (h : set u ε = some ε1) (b : (body ε1 st).wp { nx := D.nx, ct := D.nx, bk := D.nx, rt := D.rt }) : (forLoop set body [u] ε st).wp D := by
  unfold forLoop
  rw [h]
  simp only
  cases r : body ε1 st with
  | nx => rw [r] at b; exact b
  | ret => rw [r] at b; exact b
  | brk => rw [r] at b; exact b
  | cnt => rw [r] at b; exact b
  | exc => rw [r] at b; exact b
  | stuck => rw [r] at b; exact b
def rowA (sh mn : Int) : D → Bool
  | .tuple (.str w :: xs) => match lookS tabP w with
    | some l => decide (xs.length = (chars l).length) && ((chars l).zip xs).all fun p => partS sh mn p.1 p.2
    | none => false
  | _ => false
theorem at_0 {α : Type} {x : α} {xs : List α} : L2.atI (x :: xs) 0 = some x := L2.atI_nat (xs := x :: xs) (j := 0) rfl
theorem at_1 {α : Type} {x y : α} {xs : List α} : L2.atI (x :: y :: xs) 1 = some y := L2.atI_nat (xs := x :: y :: xs) (j := 1) rfl
theorem at_2 {α : Type} {x y z : α} {xs : List α} : L2.atI (x :: y :: z :: xs) 2 = some z := L2.atI_nat (xs := x :: y :: z :: xs) (j := 2) rfl
theorem r8 {v : D} {n : Nat} (hn : n ≤ 60) (hv : ok n v) (sh mn : Int) (q : Q (.d (.bool (rowA sh mn v))) st) : (callRaw G W (k + 4) 8 [.d (.tuple rowsP), .d v, .d (.int sh), .d (.int mn)] st).wp Q := by
  refine call_by (F := f8) rfl rfl ?_
  show (exSs G W _ _ b8 [some (.d (.tuple rowsP)), some (.d v), some (.d (.int sh)), some (.d (.int mn)), none, none, none, none] st).wp _
  unfold b8
  get_elem_tactic_trivial
  cases v with
  | tuple ys =>
    simp only [tupB]
    get_elem_tactic_trivial
    refine eq_sh (ok_shaped hn hv) (by decide) ?_
    rw [eqv_nilT]
    cases ys with
    | nil => exact q
    | cons y xs =>
      show tstQ (.d (.bool false)) _ _
      get_elem_tactic_trivial
      simp only [at_0]
      get_elem_tactic_trivial
      cases y with
      | str w =>
        simp only [strB]
        get_elem_tactic_trivial
        rw [p5]
        get_elem_tactic_trivial
        simp only [rowA] at q
        rcases made_look w 0 tabP with ⟨e1, e2⟩ | ⟨i, l, r, e1, e2⟩
        · rw [e2] at q
          rw [e1]
          exact q
        · rw [e2] at q
          simp only at q
          rw [e1, List.map_cons]
          refine for_ret (ε1 := [some (.d (.tuple rowsP)), some (.d (.tuple (.str w :: xs))), some (.d (.int sh)), some (.d (.int mn)), some (.d (.int i)), some (.d (.str (Str.ofString l))), none, none]) rfl ?_
          get_elem_tactic_trivial
          obtain ⟨p, hp, h1, rfl⟩ := look_mem e2
          have hs := tab_short p hp
          rw [chars_len]
          refine ⟨by omega, fun h => ?_, fun h => ?_⟩
          · rw [decide_eq_true (show xs.length = (chars p.2).length by omega), Bool.true_and] at q
            simp only [r_comp]
            get_elem_tactic_trivial
            rw [sl_one, wk_zip]
            get_elem_tactic_trivial
            refine all_on (fun z => partS sh mn z.1 z.2) (by rw [List.length_zip]; unfold sizeMax; omega) (fun z hz Q q => ?_) q
            rw [turn_wp rfl]
            unfold compQ
            simp only [wipeE, setE, setEs, List.set_cons_succ, List.set_cons_zero, List.map_cons, List.map_nil]
            get_elem_tactic_trivial
            rw [p7 (tab_alph p hp z.1 (zip_mem1 hz))]
            exact q
          · rw [decide_eq_false (show ¬ xs.length = (chars p.2).length by omega), Bool.false_and] at q
            exact q
      | _ => exact q
  | _ => exact q
theorem p8 {v : D} {n : Nat} (hn : n ≤ 60) (hv : ok n v) (sh mn : Int) : (callU G (cpK G W (k + 4)) (cmK G W (k + 4)) 8 [.d (.tuple rowsP), .d v, .d (.int sh), .d (.int mn)] st).wp Q = Q (.d (.bool (rowA sh mn v))) st := pure_eq (F := f8) rfl rfl rfl fun Q q => r8 hn hv sh mn q
end K34
end

section
set_option maxRecDepth 100000
set_option autoImplicit false
namespace K34
open Ev PySem
/-- the evaluator's steps -/
local macro_rules | `(tactic| get_elem_tactic_trivial) => `(tactic| simp only [wps_cons, wps_nil, wp_ok, r_int, r_str, r_bool, r_none, r_var, r_bin, r_neg, r_not, r_cmp, r_chain, r_and, r_or, r_ite, r_tup, r_lst, r_alloc, r_alloc0, r_ix, r_call, r_callK, r_bcall, r_isty, r_meth0, r_meth1, r_dict, r_slice, r_rep, r_nil, r_cons, r_lam, r_fnv, r_callV, r_dm, r_isn, r_catM, r_tupX, r_trip, r_weak, r_tix, s_pass, s_ret, s_retN, s_asg, s_asgS, s_sub, s_tup, s_tgs0, s_tgs, s_tgN, s_par, s_par3, s_ex, s_aug, s_if, s_for, s_brk, s_cnt,
  var_0, var_s, fun_0, fun_s, tst_t, tst_f, tst_d, tst_n, neg_i, not_b, bin_add, bin_sub, bin_mul, bin_fdiv, bin_mod, bin_pow, bin_str, bin_lst, bin_tup, cmp_lt, cmp_le, cmp_gt, cmp_ge, cmp_eqI, cmp_neI, cmp_eqS, cmp_neS, cmp_eqB, cmp_is, cmp_isn, cmp_isB, cmp_isnB, cmp_inT, cmp_inL, cmp_ninT, cmp_ninL, cmp_inS, cmp_ninS, ty_d, ty_int, ty_bool, ty_str, ty_tup, unt_t, aug_0, aug_s, augr_add, augr_sub, opt_some, opt_map, opt_if, set_0, set_s, tupQ, toDs, Option.map_some, Option.map_none,
  wp_bind, part_0, part_1, sl_list, sl_tuple, sl_map, wk_list, wk_tuple, walk_r1, walk_r2, at1_0, at2_0, at2_1, at3_0, at3_1, at3_2, ix_list, ix_tuple, bf_int, bf_intB, bf_abs, bf_lenL, bf_lenT, bf_max, bf_min, divmod_wp, bf_repr, len_str, bf_tupL,
  str_eq, String.reduceEq, mem_str, mem_nil, flat_str, flat_int, List.all_cons, List.all_nil, Bool.and_self, Bool.or_false, decide_true, decide_false, not_true, not_false_eq_true, true_and, and_true, true_implies, false_implies, implies_true, Bool.not_true, Bool.not_false, Bool.false_or, Bool.true_or, Bool.or_true, Bool.not_not, List.length_cons, List.length_nil, sizeMax, Nat.reduceAdd, Nat.reduceLeDiff, ne_eq, pick, List.getElem?_cons_zero, List.getElem?_cons_succ,
  r_glob c0, r_glob c1, r_glob c2, r_glob c3, r_glob c4, r_glob c5, r_glob c6, r_glob c7, r_glob c8, r_glob c9, r_glob c10, r_glob c11, r_glob c12, r_glob c13, r_glob c14, r_glob c15, r_glob c16, r_glob c17, r_glob c18, r_glob c19, r_glob c20])
variable {W k : Nat} {st : Store} {Q : U → Store → Prop}
theorem fm_if {α : Type} {c : α → Bool} {h : α → D} (xs : List α) : xs.filterMap (fun x => if c x then some (U.d (h x)) else none) = ((xs.filter c).map h).map .d := by
  induction xs with
  | nil => rfl
  | cons x xs ih =>
    cases e : c x
    · rw [List.filterMap_cons_none (by rw [e]; rfl), List.filter_cons_of_neg (by rw [e]; decide), ih]
    · rw [List.filterMap_cons_some (b := U.d (h x)) (by rw [e]; rfl), List.filter_cons_of_pos e, ih]; rfl
/-- those that pass, each turned -/
theorem pick_on {α : Type} {F : U → Store → R (Option U)} {f : α → U} (c : α → Bool) (h : α → D) {xs : List α} {Q : List U → Store → Prop} (hl : xs.length ≤ sizeMax) (step : ∀ x ∈ xs, ∀ Q : Option U → Store → Prop, Q (if c x then some (.d (h x)) else none) st → (F (f x) st).wp Q) (q : Q (((xs.filter c).map h).map .d) st) : (compLoop F (xs.map f) [] st).wp Q := by
  refine comp_on (g := fun x => if c x then some (.d (h x)) else none) (by rw [List.length_nil]; omega) step ?_
  rw [List.nil_append, fm_if]
  exact q
def boxS (l : String) (xs : List D) : List D := (((chars l).zip xs).filter fun p => decide (p.1 = 98)).map (·.2)
theorem chars_le {w : Str} {l : String} (hl : lookS tabP w = some l) : (chars l).length ≤ 4 := by
  obtain ⟨p, hp, h1, rfl⟩ := look_mem hl
  exact tab_short p hp
theorem r9 {w : Str} {l : String} (hl : lookS tabP w = some l) (xs : List D) (q : Q (.d (.list (boxS l xs))) st) : (callRaw G W (k + 2) 9 [.d (.tuple (.str w :: xs))] st).wp Q := by
  refine call_by (F := f9) rfl rfl ?_
  show (exSs G W _ _ b9 [some (.d (.tuple (.str w :: xs))), none, none, none] st).wp _
  unfold b9
  get_elem_tactic_trivial
  simp only [at_0]
  get_elem_tactic_trivial
  rw [p5]
  rcases made_look w 0 tabP with ⟨e1, e2⟩ | ⟨i, l', r, e1, e2⟩
  · rw [hl] at e2; cases e2
  · rw [hl] at e2
    obtain rfl : l = l' := by injection e2
    rw [e1]
    get_elem_tactic_trivial
    simp only [at_0]
    get_elem_tactic_trivial
    have := chars_le hl
    simp only [r_comp]
    get_elem_tactic_trivial
    rw [sl_one, wk_zip]
    get_elem_tactic_trivial
    refine pick_on (fun p : Nat × D => decide (p.1 = 98)) (·.2) (by rw [List.length_zip]; unfold sizeMax; omega) (fun z hz Q q => ?_) ?_
    · rw [turn_wp rfl]
      unfold compQ
      simp only [wipeE, setE, setEs, List.set_cons_succ, List.set_cons_zero, List.map_cons, List.map_nil]
      get_elem_tactic_trivial
      simp only [← sg_b, sg_inj]
      refine ⟨fun h => ?_, fun h => ?_⟩
      · simp only [h, decide_true, if_true] at q; exact q
      · simp only [h, decide_false, Bool.false_eq_true, if_false] at q; exact q
    · rw [toDs_map]
      get_elem_tactic_trivial
      exact q
theorem p9 {w : Str} {l : String} (hl : lookS tabP w = some l) (xs : List D) : (callU G (cpK G W (k + 2)) (cmK G W (k + 2)) 9 [.d (.tuple (.str w :: xs))] st).wp Q = Q (.d (.list (boxS l xs))) st := pure_eq (F := f9) rfl rfl rfl fun Q q => r9 hl xs q
def nosetD : List D := [.str "store", .str "keep", .str "say", .str "branch", .str "round"]
theorem nosetE (w : Str) : (decide (w = "store") || (decide (w = "keep") || (decide (w = "say") || (decide (w = "branch") || decide (w = "round"))))) = memD (.str w) nosetD := by
  simp only [nosetD, mem_str, mem_nil, Bool.or_false]
def setS (w : Str) (l : String) (xs : List D) : List D := if memD (.str w) nosetD then [] else (boxS l xs).take 1
theorem sl_take1 {xs : List D} : sl xs none (some 1) = xs.take 1 := by
  unfold sl
  have e1 : HT.sIx xs.length 0 none = 0 := rfl
  have e2 : HT.sIx xs.length xs.length (some 1) = min 1 xs.length := by
    simp [HT.sIx]
  rw [e1, e2]
  cases xs <;> simp
theorem r10 {w : Str} {l : String} (hl : lookS tabP w = some l) (xs : List D) (q : Q (.d (.list (setS w l xs))) st) : (callRaw G W (k + 3) 10 [.d (.tuple (.str w :: xs))] st).wp Q := by
  refine call_by (F := f10) rfl rfl ?_
  show (exSs G W _ _ b10 [some (.d (.tuple (.str w :: xs)))] st).wp _
  unfold b10
  get_elem_tactic_trivial
  simp only [at_0]
  get_elem_tactic_trivial
  unfold setS at q
  rw [nosetE]
  cases h : memD (.str w) nosetD with
  | true =>
    rw [h] at q
    get_elem_tactic_trivial
    exact q
  | false =>
    rw [h] at q
    get_elem_tactic_trivial
    rw [p9 hl]
    get_elem_tactic_trivial
    rw [sl_take1]
    exact q
theorem p10 {w : Str} {l : String} (hl : lookS tabP w = some l) (xs : List D) : (callU G (cpK G W (k + 3)) (cmK G W (k + 3)) 10 [.d (.tuple (.str w :: xs))] st).wp Q = Q (.d (.list (setS w l xs))) st := pure_eq (F := f10) rfl rfl rfl fun Q q => r10 hl xs q
def comB : D → Bool
  | .int i => decide (6 ≤ i)
  | _ => false
theorem r11 (i : Int) (q : Q (.d (.bool (comB (.int i)))) st) : (callRaw G W (k + 1) 11 [.d (.int i)] st).wp Q := by
  refine call_by (F := f11) rfl rfl ?_
  show (exSs G W _ _ b11 [some (.d (.int i))] st).wp _
  unfold b11
  get_elem_tactic_trivial
  exact q
theorem p11 (i : Int) : (callU G (cpK G W (k + 1)) (cmK G W (k + 1)) 11 [.d (.int i)] st).wp Q = Q (.d (.bool (comB (.int i)))) st := pure_eq (F := f11) rfl rfl rfl fun Q q => r11 i q
def rightB (w : Str) (l : String) (xs : List D) : Bool := match setS w l xs with
  | b :: _ => !comB b || ((memD (.str w) comD || memD (.str w) opsD) && (boxS l xs).all comB)
  | [] => true
theorem num_int {l h : Int} {x : D} (e : numS l h x = true) : ∃ i, x = .int i ∧ l ≤ i ∧ i ≤ h := by
  cases x with
  | int i =>
    unfold numS at e
    rw [Bool.and_eq_true, decide_eq_true_eq, decide_eq_true_eq] at e
    exact ⟨i, rfl, e.1, e.2⟩
  | _ => cases e
theorem box_int {sh mn : Int} {l : String} {xs : List D} (h : (((chars l).zip xs).all fun p => partS sh mn p.1 p.2) = true) {b : D} (hb : b ∈ boxS l xs) : ∃ i, b = .int i := by
  unfold boxS at hb
  obtain ⟨p, hp, rfl⟩ := List.mem_map.mp hb
  obtain ⟨i, e, _⟩ := num_int (List.all_eq_true.mp h p (List.mem_filter.mp hp).1)
  exact ⟨i, e⟩
theorem box_len {l : String} {xs : List D} (h : (chars l).length ≤ 4) : (boxS l xs).length ≤ 4 := by
  unfold boxS
  rw [List.length_map]
  have h1 := List.length_filter_le (fun p : Nat × D => decide (p.1 = 98)) ((chars l).zip xs)
  rw [List.length_zip] at h1
  omega
theorem r12 {w : Str} {l : String} (hl : lookS tabP w = some l) {xs : List D} {sh mn : Int} (ha : (((chars l).zip xs).all fun p => partS sh mn p.1 p.2) = true) (q : Q (.d (.bool (rightB w l xs))) st) : (callRaw G W (k + 4) 12 [.d (.tuple (.str w :: xs))] st).wp Q := by
  refine call_by (F := f12) rfl rfl ?_
  show (exSs G W _ _ b12 [some (.d (.tuple (.str w :: xs))), none, none] st).wp _
  unfold b12
  get_elem_tactic_trivial
  rw [p10 hl]
  get_elem_tactic_trivial
  have hs : setS w l xs = [] ∨ ∃ b ∈ boxS l xs, setS w l xs = [b] := by
    unfold setS
    split
    · exact .inl rfl
    · cases e : boxS l xs with
      | nil => exact .inl rfl
      | cons b r => exact .inr ⟨b, List.mem_cons_self .., rfl⟩
  unfold rightB at q
  rcases hs with e | ⟨b, hb, e⟩
  · rw [e] at q ⊢
    exact q
  · obtain ⟨i, rfl⟩ := box_int ha hb
    rw [e] at q ⊢
    simp only at q
    refine for_one rfl ?_
    show (exSs G W _ _ _ [some (.d (.tuple (.str w :: xs))), some (.d (.int i)), none] st).wp _
    get_elem_tactic_trivial
    rw [p11]
    cases h : comB (.int i) with
    | false =>
      rw [h] at q
      get_elem_tactic_trivial
      exact q
    | true =>
      rw [h] at q
      get_elem_tactic_trivial
      simp only [at_0]
      get_elem_tactic_trivial
      refine ⟨rfl, ?_⟩
      rw [Bool.not_true, Bool.false_or] at q
      have last : (memD (.str w) comD || memD (.str w) opsD) = true → (evE G (cpK G W (k + 3)) (cmK G W (k + 3)) (.comp false (.call 11 (.cons (.var 2) .nil)) (.one 2) .val (.cons (.call 9 (.cons (.var 0) .nil)) .nil) .nil [2]) [some (.d (.tuple (.str w :: xs))), some (.d (.int i)), none] st).wp fun u st1 => (bfD .all [u] st1).wp Q := by
        intro hm
        rw [hm, Bool.true_and] at q
        simp only [r_comp]
        get_elem_tactic_trivial
        rw [p9 hl]
        get_elem_tactic_trivial
        have hb4 := box_len (xs := xs) (chars_le hl)
        refine all_on comB (by unfold sizeMax; omega) (fun z hz Q q => ?_) q
        obtain ⟨j, rfl⟩ := box_int ha hz
        rw [turn_wp rfl]
        unfold compQ
        simp only [wipeE, setE, setEs, List.set_cons_succ, List.set_cons_zero, List.map_cons, List.map_nil]
        get_elem_tactic_trivial
        rw [p11]
        exact q
      cases h1 : memD (.str w) comD with
      | true => 
        have last := last (by rw [h1]; rfl)
        exact last
      | false =>
        get_elem_tactic_trivial
        refine ⟨rfl, ?_⟩
        cases h2 : memD (.str w) opsD with
        | true => exact last (by rw [h1, h2]; rfl)
        | false => rw [h1, h2] at q; exact q
theorem p12 {w : Str} {l : String} (hl : lookS tabP w = some l) {xs : List D} {sh mn : Int} (ha : (((chars l).zip xs).all fun p => partS sh mn p.1 p.2) = true) : (callU G (cpK G W (k + 4)) (cmK G W (k + 4)) 12 [.d (.tuple (.str w :: xs))] st).wp Q = Q (.d (.bool (rightB w l xs))) st := pure_eq (F := f12) rfl rfl rfl fun Q q => r12 hl ha q
def rowS (sh mn : Int) : D → Bool
  | .tuple (.str w :: xs) => match lookS tabP w with
    | some l => (decide (xs.length = (chars l).length) && ((chars l).zip xs).all fun p => partS sh mn p.1 p.2) && rightB w l xs
    | none => false
  | _ => false
theorem row_no {sh mn : Int} {v : D} (h : rowA sh mn v = false) : rowS sh mn v = false := by
  unfold rowA at h
  unfold rowS
  split
  · simp only at h
    split
    · rename_i l e
      rw [e] at h
      simp only at h
      rw [h]; rfl
    · rfl
  · rfl
theorem r13 {v : D} {n : Nat} (hn : n ≤ 60) (hv : ok n v) (sh mn : Int) (q : Q (.d (.bool (rowS sh mn v))) st) : (callRaw G W (k + 5) 13 [.d v, .d (.int sh), .d (.int mn)] st).wp Q := by
  refine call_by (F := f13) rfl rfl ?_
  show (exSs G W _ _ b13 [some (.d v), some (.d (.int sh)), some (.d (.int mn))] st).wp _
  unfold b13
  get_elem_tactic_trivial
  rw [p8 hn hv]
  cases h : rowA sh mn v with
  | false =>
    rw [row_no h] at q
    exact q
  | true =>
    get_elem_tactic_trivial
    unfold rowA at h
    split at h
    · rename_i w xs
      split at h
      · rename_i l e
        have h2 := h
        rw [Bool.and_eq_true] at h2
        rw [p12 e h2.2]
        simp only [rowS, e] at q
        rw [h, Bool.true_and] at q
        exact q
      · cases h
    · cases h
theorem p13 {v : D} {n : Nat} (hn : n ≤ 60) (hv : ok n v) (sh mn : Int) : (callU G (cpK G W (k + 5)) (cmK G W (k + 5)) 13 [.d v, .d (.int sh), .d (.int mn)] st).wp Q = Q (.d (.bool (rowS sh mn v))) st := pure_eq (F := f13) rfl rfl rfl fun Q q => r13 hn hv sh mn q
end K34
end

section
set_option maxRecDepth 100000
set_option autoImplicit false
namespace K34
open Ev PySem
/-- the evaluator's steps -/
local macro_rules | `(tactic| get_elem_tactic_trivial) => `(tactic| simp only [wps_cons, wps_nil, wp_ok, r_int, r_str, r_bool, r_none, r_var, r_bin, r_neg, r_not, r_cmp, r_chain, r_and, r_or, r_ite, r_tup, r_lst, r_alloc, r_alloc0, r_ix, r_call, r_callK, r_bcall, r_isty, r_meth0, r_meth1, r_dict, r_slice, r_rep, r_nil, r_cons, r_lam, r_fnv, r_callV, r_dm, r_isn, r_catM, r_tupX, r_trip, r_weak, r_tix, s_pass, s_ret, s_retN, s_asg, s_asgS, s_sub, s_tup, s_tgs0, s_tgs, s_tgN, s_par, s_par3, s_ex, s_aug, s_if, s_for, s_brk, s_cnt,
  var_0, var_s, fun_0, fun_s, tst_t, tst_f, tst_d, tst_n, neg_i, not_b, bin_add, bin_sub, bin_mul, bin_fdiv, bin_mod, bin_pow, bin_str, bin_lst, bin_tup, cmp_lt, cmp_le, cmp_gt, cmp_ge, cmp_eqI, cmp_neI, cmp_eqS, cmp_neS, cmp_eqB, cmp_is, cmp_isn, cmp_isB, cmp_isnB, cmp_inT, cmp_inL, cmp_ninT, cmp_ninL, cmp_inS, cmp_ninS, ty_d, ty_int, ty_bool, ty_str, ty_tup, unt_t, aug_0, aug_s, augr_add, augr_sub, opt_some, opt_map, opt_if, set_0, set_s, tupQ, toDs, Option.map_some, Option.map_none,
  wp_bind, part_0, part_1, sl_list, sl_tuple, sl_map, wk_list, wk_tuple, walk_r1, walk_r2, at1_0, at2_0, at2_1, at3_0, at3_1, at3_2, ix_list, ix_tuple, bf_int, bf_intB, bf_abs, bf_lenL, bf_lenT, bf_max, bf_min, divmod_wp, bf_repr, len_str, bf_tupL,
  str_eq, String.reduceEq, mem_str, mem_nil, flat_str, flat_int, List.all_cons, List.all_nil, Bool.and_self, Bool.or_false, decide_true, decide_false, not_true, not_false_eq_true, true_and, and_true, true_implies, false_implies, implies_true, Bool.not_true, Bool.not_false, Bool.false_or, Bool.true_or, Bool.or_true, Bool.not_not, List.length_cons, List.length_nil, sizeMax, Nat.reduceAdd, Nat.reduceLeDiff, ne_eq, pick, List.getElem?_cons_zero, List.getElem?_cons_succ,
  r_glob c0, r_glob c1, r_glob c2, r_glob c3, r_glob c4, r_glob c5, r_glob c6, r_glob c7, r_glob c8, r_glob c9, r_glob c10, r_glob c11, r_glob c12, r_glob c13, r_glob c14, r_glob c15, r_glob c16, r_glob c17, r_glob c18, r_glob c19, r_glob c20])
variable {W k : Nat} {st : Store} {Q : U → Store → Prop}
/-! ### rows: the law -/
def tabL : List (String × String) := [("point", "p"), ("set", "cn"), ("me", "d"), ("all", "c"), ("copy", "cb"), ("neg", "cb"), ("not", "cb"), ("add", "cbb"), ("sub", "cbb"), ("mul", "cbb"), ("div", "cbb"), ("rem", "cbb"), ("less", "cbb"), ("same", "cbb"), ("and", "cbb"), ("or", "cbb"), ("load", "dab"), ("store", "abb"), ("keep", "sb"), ("take", "ds"), ("say", "b"), ("jump", "l"), ("branch", "bll"), ("enter", ""), ("round", "bkll"), ("leave", ""), ("call", "l"), ("back", ""), ("fence", ""), ("stop", "")]
def lstD (p : String × String) : D := .list [.str p.1, .str p.2]
def textL : Str := (("point:p set:cn me:d all:c copy:cb neg:cb not:cb add:cbb sub:cbb mul:cbb div:cbb rem:cbb less:cbb same:cbb" : Str) ++ (" and:cbb or:cbb load:dab store:abb keep:sb take:ds say:b jump:l branch:bll enter: round:bkll leave:" : Str)) ++ (" call:l back: fence: stop:" : Str)
theorem heads_split : (PySem.Txt.split textL (" " : Str)).map (fun e => PySem.Txt.split e (":" : Str)) = tabL.map fun p => [Str.ofString p.1, Str.ofString p.2] := by decide +kernel
theorem heads_short : ∀ e ∈ PySem.Txt.split textL (" " : Str), e.length ≤ 100 := by decide +kernel
theorem heads_many : (PySem.Txt.split textL (" " : Str)).length = 30 := by decide +kernel
theorem r31 (q : Q (.d (.list (tabL.map lstD))) st) : (callRaw G W (k + 1) 31 [] st).wp Q := by
  refine call_by (F := f31) rfl rfl ?_
  show (exSs G W _ _ b31 [none, none] st).wp _
  unfold b31
  get_elem_tactic_trivial
  refine ⟨by decide +kernel, ?_⟩
  simp only [r_comp]
  get_elem_tactic_trivial
  refine ⟨by decide +kernel, rfl, ?_⟩
  rw [dm_split]
  refine ⟨⟨by decide +kernel, by decide +kernel⟩, ?_⟩
  get_elem_tactic_trivial
  rw [List.map_map]
  refine comp_on (f := U.d ∘ PyData.str) (g := fun e => some (.d (.list ((PySem.Txt.split e (":" : Str)).map .str)))) (by show 0 + (PySem.Txt.split textL (" " : Str)).length ≤ _; rw [heads_many]; decide) (fun e he Q q => ?_) ?_
  · rw [show (U.d ∘ PyData.str) e = U.d (.str e) from rfl, turn_wp rfl]
    unfold compQ
    simp only [wipeE, setE, List.set_cons_succ, List.set_cons_zero]
    get_elem_tactic_trivial
    refine ⟨rfl, ?_⟩
    rw [dm_split]
    have := heads_short e he
    exact ⟨⟨by decide +kernel, by unfold sizeMax; omega⟩, q⟩
  · have e : (PySem.Txt.split textL (" " : Str)).map (fun e => PyData.list ((PySem.Txt.split e (":" : Str)).map .str)) = tabL.map lstD := by
      have := congrArg (List.map fun l => PyData.list (List.map PyData.str l)) heads_split
      rw [List.map_map, List.map_map] at this
      exact this
    rw [List.nil_append, fm_some, toDs_of]
    get_elem_tactic_trivial
    show Q (.d (.list ((PySem.Txt.split textL (" " : Str)).map (fun e => PyData.list ((PySem.Txt.split e (":" : Str)).map .str))))) st
    rw [e]
    exact q
theorem p31 : (callU G (cpK G W (k + 1)) (cmK G W (k + 1)) 31 [] st).wp Q = Q (.d (.list (tabL.map lstD))) st := pure_eq (F := f31) rfl rfl rfl fun Q q => r31 q
def madeL : List (String × String) → Str → List D
  | [], _ => []
  | p :: t, w => if Str.ofString p.1 = w then .str p.2 :: madeL t w else madeL t w
theorem madeL_map (w : Str) : ∀ (t : List (String × String)), t.filterMap (fun p => if Str.ofString p.1 = w then some (U.d (.str p.2)) else none) = (madeL t w).map .d
  | [] => rfl
  | p :: t => by
    unfold madeL
    by_cases h : Str.ofString p.1 = w
    · rw [List.filterMap_cons_some (b := U.d (.str p.2)) (by simp only [h, if_true]), if_pos h, List.map_cons, madeL_map w t]
    · rw [List.filterMap_cons_none (by simp only [h, if_false]), if_neg h, madeL_map w t]
theorem madeL_look (w : Str) : ∀ (t : List (String × String)), (madeL t w = [] ∧ lookS t w = none) ∨ ∃ l r, madeL t w = .str (Str.ofString l) :: r ∧ lookS t w = some l
  | [] => .inl ⟨rfl, rfl⟩
  | p :: t => by
    unfold madeL lookS
    by_cases h : Str.ofString p.1 = w
    · rw [if_pos h, if_pos h]; exact .inr ⟨_, _, rfl, rfl⟩
    · rw [if_neg h, if_neg h]; exact madeL_look w t
theorem madeL_ok {n : Nat} (w : Str) : ∀ (t : List (String × String)), (∀ p ∈ t, okS p.2) → ∀ x ∈ madeL t w, ok n x
  | [], _, _, h => nomatch h
  | p :: t, ht, x, h => by
    unfold madeL at h
    by_cases e : Str.ofString p.1 = w
    · rw [if_pos e] at h
      rcases List.mem_cons.mp h with rfl | h
      · have := ht p (List.mem_cons_self ..)
        cases n <;> exact this
      · exact madeL_ok w t (fun p hp => ht p (List.mem_cons_of_mem _ hp)) x h
    · rw [if_neg e] at h
      exact madeL_ok w t (fun p hp => ht p (List.mem_cons_of_mem _ hp)) x h
def lhiC (sh mn : Int) (c : Nat) : Int := if c = 110 then 32767 else if c = 112 then 59 else if c = 100 then 5 else if c = 99 then 8 else if c = 98 then 8 else if c = 115 then 59 else if c = 97 then sh - 1 else if c = 108 then mn - 1 else 9
def alphL : List Nat := [110, 107, 112, 98, 97, 115, 108, 99, 100]
theorem tabL_alph : ∀ p ∈ tabL, ∀ c ∈ chars p.2, c ∈ alphL := by decide +kernel
theorem tabL_short : ∀ p ∈ tabL, (chars p.2).length ≤ 4 := by decide +kernel
theorem tabL_c : ∀ p ∈ tabL, inS (Str.ofString p.2) "c" = true → (chars p.2).head? = some 99 := by decide +kernel
theorem tabL_ok : ∀ p ∈ tabL, okS p.2 := by
  have : ∀ p ∈ tabL, decide ((Str.ofString p.2).length ≤ 100) = true ∧ PyData.strOk p.2 = true := by decide +kernel
  exact fun p hp => ⟨of_decide_eq_true (this p hp).1, (this p hp).2⟩
def lpartS (sh mn : Int) (c : Nat) (x : D) : Bool := numS (loC c) (lhiC sh mn c) x
def gt5 : List D → Bool
  | .int i :: _ => decide (5 < i)
  | _ => false
def lt6 : D → Bool
  | .int i => decide (i < 6)
  | _ => false
def lrightB (l : String) (xs : List D) : Bool := !(inS l "c" && gt5 xs) || (((chars l).zip xs).filter fun p => decide (p.1 = 98) && lt6 p.2).isEmpty
def lrowS (sh mn : Int) : D → Bool
  | .tuple (.str w :: xs) => match lookS tabL w with
    | some l => (decide (xs.length = (chars l).length) && ((chars l).zip xs).all fun p => lpartS sh mn p.1 p.2) && lrightB l xs
    | none => false
  | _ => false
/-- a for that looks for what fails -/
theorem for_check {α : Type} {f : α → U} {set : U → Ev.Env → Option Ev.Env} {body : Ev.Env → Store → RS} {D : Out} (I : Ev.Env → Prop) (g : α → Bool) : ∀ {xs : List α}, (∀ x ∈ xs, g x = true → ∀ ε, I ε → ∃ ε1, set (f x) ε = some ε1 ∧ (body ε1 st).wp { D with nx := fun ε s => I ε ∧ s = st, ct := fun ε s => I ε ∧ s = st, bk := fun _ _ => False }) → (∀ x ∈ xs, g x = false → ∀ ε, I ε → ∃ ε1, set (f x) ε = some ε1 ∧ (body ε1 st).wp { rt := D.rt }) → (xs.all g = true → ∀ ε, I ε → D.nx ε st) → ∀ {ε : Ev.Env}, I ε → (forLoop set body (xs.map f) ε st).wp D
  | [], _, _, fin, ε, h => fin rfl ε h
  | x :: xs, s1, s2, fin, ε, h => by
    rw [List.map_cons]
    cases e : g x with
    | false =>
      obtain ⟨ε1, e1, b⟩ := s2 x (List.mem_cons_self ..) e ε h
      exact for_ret e1 b
    | true =>
      obtain ⟨ε1, e1, b⟩ := s1 x (List.mem_cons_self ..) e ε h
      unfold forLoop
      rw [e1]
      simp only
      have go : ∀ ε2, I ε2 → (forLoop set body (xs.map f) ε2 st).wp D := fun ε2 h2 => for_check I g (fun y hy => s1 y (List.mem_cons_of_mem _ hy)) (fun y hy => s2 y (List.mem_cons_of_mem _ hy)) (fun ha => fin (by rw [List.all_cons, e, ha]; rfl)) h2
      cases r : body ε1 st with
      | nx ε2 s => rw [r] at b; obtain ⟨b1, rfl⟩ := b; exact go _ b1
      | cnt ε2 s => rw [r] at b; obtain ⟨b1, rfl⟩ := b; exact go _ b1
      | brk ε2 s => rw [r] at b; exact b.elim
      | ret => rw [r] at b; exact b
      | exc => rw [r] at b; exact b
      | stuck => rw [r] at b; exact b
theorem tops_dict (a b c d e f g h : Int) : dictU ["p", "d", "c", "b", "s", "a", "l", "k"] [.d (.int a), .d (.int b), .d (.int c), .d (.int d), .d (.int e), .d (.int f), .d (.int g), .d (.int h)] = some (.d (.dict [(.str "p", .int a), (.str "d", .int b), (.str "c", .int c), (.str "b", .int d), (.str "s", .int e), (.str "a", .int f), (.str "l", .int g), (.str "k", .int h)])) := rfl
def topsD (sh mn : Int) : List (D × D) := [(.str "p", .int 59), (.str "d", .int 5), (.str "c", .int 8), (.str "b", .int 8), (.str "s", .int 59), (.str "a", .int (sh - 1)), (.str "l", .int (mn - 1)), (.str "k", .int 9)]
/-- the highest that the law lets a letter be -/
theorem top_wp {c : Nat} (hc : c ∈ alphL) {sh mn : Int} {x0 x1 x2 x3 : Option U} {r : List (Option U)} {cp : Nat → List D → R D} {cm : Nat → List U → Store → R U} (q : Q (.d (.int (lhiC sh mn c))) st) : (evE G cp cm (.ite (.cmp .Eq (.var 5) (.con (.str "n"))) (.con (.int 32767)) (.ix (.var 4) (.var 5))) (x0 :: x1 :: x2 :: x3 :: some (.d (.dict (topsD sh mn))) :: some (.d (.str ⟨#[c]⟩)) :: r) st).wp Q := by
  simp only [alphL, List.mem_cons, List.not_mem_nil, or_false] at hc
  rcases hc with rfl | rfl | rfl | rfl | rfl | rfl | rfl | rfl | rfl <;> simp only [sg_n, sg_k, sg_p, sg_b, sg_a, sg_s, sg_l, sg_c, sg_d] <;> get_elem_tactic_trivial <;> try exact q
  all_goals
    simp only [ix_dict, topsD, lookD, isKey, str_eq, String.reduceEq, decide_true, decide_false, if_true, Bool.false_eq_true, if_false]
    get_elem_tactic_trivial
    exact q
theorem low_wp {c : Nat} {x0 x1 x2 x3 x4 : Option U} {r : List (Option U)} {cp : Nat → List D → R D} {cm : Nat → List U → Store → R U} (q : Q (.d (.int (loC c))) st) : (evE G cp cm (.ite (.cmp .Eq (.var 5) (.con (.str "n"))) (.neg (.con (.int 32768))) (.ite (.cmp .Eq (.var 5) (.con (.str "k"))) (.con (.int 1)) (.con (.int 0)))) (x0 :: x1 :: x2 :: x3 :: x4 :: some (.d (.str ⟨#[c]⟩)) :: r) st).wp Q := by
  unfold loC at q
  simp only [← sg_n, ← sg_k]
  get_elem_tactic_trivial
  simp only [← sg_n, ← sg_k, sg_inj]
  refine ⟨fun h => ?_, fun h => ⟨fun h2 => ?_, fun h2 => ?_⟩⟩
  · rw [if_pos h] at q; exact q
  · rw [if_neg h, if_pos h2] at q; exact q
  · rw [if_neg h, if_neg h2] at q; exact q
end K34
end

section
set_option maxRecDepth 100000
set_option autoImplicit false
namespace K34
open Ev PySem
/-- the evaluator's steps -/
local macro_rules | `(tactic| get_elem_tactic_trivial) => `(tactic| simp only [wps_cons, wps_nil, wp_ok, r_int, r_str, r_bool, r_none, r_var, r_bin, r_neg, r_not, r_cmp, r_chain, r_and, r_or, r_ite, r_tup, r_lst, r_alloc, r_alloc0, r_ix, r_call, r_callK, r_bcall, r_isty, r_meth0, r_meth1, r_dict, r_slice, r_rep, r_nil, r_cons, r_lam, r_fnv, r_callV, r_dm, r_isn, r_catM, r_tupX, r_trip, r_weak, r_tix, s_pass, s_ret, s_retN, s_asg, s_asgS, s_sub, s_tup, s_tgs0, s_tgs, s_tgN, s_par, s_par3, s_ex, s_aug, s_if, s_for, s_brk, s_cnt,
  var_0, var_s, fun_0, fun_s, tst_t, tst_f, tst_d, tst_n, neg_i, not_b, bin_add, bin_sub, bin_mul, bin_fdiv, bin_mod, bin_pow, bin_str, bin_lst, bin_tup, cmp_lt, cmp_le, cmp_gt, cmp_ge, cmp_eqI, cmp_neI, cmp_eqS, cmp_neS, cmp_eqB, cmp_is, cmp_isn, cmp_isB, cmp_isnB, cmp_inT, cmp_inL, cmp_ninT, cmp_ninL, cmp_inS, cmp_ninS, ty_d, ty_int, ty_bool, ty_str, ty_tup, unt_t, aug_0, aug_s, augr_add, augr_sub, opt_some, opt_map, opt_if, set_0, set_s, tupQ, toDs, Option.map_some, Option.map_none,
  wp_bind, part_0, part_1, sl_list, sl_tuple, sl_map, wk_list, wk_tuple, walk_r1, walk_r2, at1_0, at2_0, at2_1, at3_0, at3_1, at3_2, ix_list, ix_tuple, bf_int, bf_intB, bf_abs, bf_lenL, bf_lenT, bf_max, bf_min, divmod_wp, bf_repr, len_str, bf_tupL,
  str_eq, String.reduceEq, mem_str, mem_nil, flat_str, flat_int, List.all_cons, List.all_nil, Bool.and_self, Bool.or_false, decide_true, decide_false, not_true, not_false_eq_true, true_and, and_true, true_implies, false_implies, implies_true, Bool.not_true, Bool.not_false, Bool.false_or, Bool.true_or, Bool.or_true, Bool.not_not, List.length_cons, List.length_nil, sizeMax, Nat.reduceAdd, Nat.reduceLeDiff, ne_eq, pick, List.getElem?_cons_zero, List.getElem?_cons_succ,
  r_glob c0, r_glob c1, r_glob c2, r_glob c3, r_glob c4, r_glob c5, r_glob c6, r_glob c7, r_glob c8, r_glob c9, r_glob c10, r_glob c11, r_glob c12, r_glob c13, r_glob c14, r_glob c15, r_glob c16, r_glob c17, r_glob c18, r_glob c19, r_glob c20])
variable {W k : Nat} {st : Store} {Q : U → Store → Prop}
theorem part_int {sh mn : Int} {c : Nat} {x : D} (h : lpartS sh mn c x = true) : ∃ i, x = .int i := by
  obtain ⟨i, e, _⟩ := num_int h
  exact ⟨i, e⟩
theorem r32 {v : D} {n : Nat} (hn : n ≤ 60) (hv : ok n v) (sh mn : Int) (q : Q (.d (.bool (lrowS sh mn v))) st) : (callRaw G W (k + 2) 32 [.d v, .d (.int mn), .d (.int sh)] st).wp Q := by
  refine call_by (F := f32) rfl rfl ?_
  show (exSs G W _ _ b32 [some (.d v), some (.d (.int mn)), some (.d (.int sh)), none, none, none, none, none, none, none, none] st).wp _
  unfold b32
  get_elem_tactic_trivial
  cases v with
  | tuple ys =>
    simp only [tupB]
    get_elem_tactic_trivial
    refine eq_sh (ok_shaped hn hv) (by decide) ?_
    rw [eqv_nilT]
    cases ys with
    | nil => exact q
    | cons y xs =>
      show tstQ (.d (.bool false)) _ _
      get_elem_tactic_trivial
      simp only [at_0]
      get_elem_tactic_trivial
      cases y with
      | str w =>
        simp only [strB]
        get_elem_tactic_trivial
        rw [r_comp]
        get_elem_tactic_trivial
        rw [p31]
        get_elem_tactic_trivial
        rw [List.map_map]
        refine comp_on (f := U.d ∘ lstD) (g := fun p => if Str.ofString p.1 = w then some (U.d (.str p.2)) else none) (by decide) (fun p _ Q q => ?_) ?_
        · rw [show (U.d ∘ lstD) p = U.d (.list [.str p.1, .str p.2]) from rfl, turn_wp rfl]
          unfold compQ
          simp only [wipeE, setE, setEs, List.set_cons_succ, List.set_cons_zero, List.map_cons, List.map_nil]
          get_elem_tactic_trivial
          simp only [at_0]
          get_elem_tactic_trivial
          refine ⟨fun h => ?_, fun h => ?_⟩
          · simp only [h, if_true] at q; exact q
          · simp only [h, if_false] at q; exact q
        · rw [madeL_map, List.nil_append, toDs_map]
          get_elem_tactic_trivial
          refine eq_sh (ok_shaped (n := 2) (by decide) (madeL_ok (n := 1) w tabL tabL_ok)) (by decide) ?_
          rw [eqv_nilL]
          simp only [lrowS] at q
          rcases madeL_look w tabL with ⟨e1, e2⟩ | ⟨l, r, e1, e2⟩
          · rw [e2] at q
            rw [e1]
            exact q
          · rw [e2] at q
            simp only at q
            rw [e1]
            show tstQ (.d (.bool false)) _ _
            get_elem_tactic_trivial
            simp only [at_0]
            get_elem_tactic_trivial
            obtain ⟨p, hp, h1, rfl⟩ := look_mem e2
            have hs := tabL_short p hp
            rw [chars_len]
            refine ⟨by omega, fun h => ?_, fun h => ?_⟩
            · have h : xs.length = (chars p.2).length := by omega
              rw [decide_eq_true h, Bool.true_and] at q
              rw [tops_dict]
              get_elem_tactic_trivial
              rw [sl_one, wk_zip]
              get_elem_tactic_trivial
              refine for_check (fun ε => ∃ x5 x6 x7, ε = [some (.d (.tuple (.str w :: xs))), some (.d (.int mn)), some (.d (.int sh)), some (.d (.list (.str (Str.ofString p.2) :: r))), some (.d (.dict (topsD sh mn))), x5, x6, x7, none, none, none]) (fun z : Nat × D => lpartS sh mn z.1 z.2) (fun z hz hg ε hI => ?_) (fun z hz hg ε hI => ?_) (fun hall ε hI => ?_) ⟨_, _, _, rfl⟩
              · obtain ⟨x5, x6, x7, rfl⟩ := hI
                refine ⟨_, rfl, ?_⟩
                show (exSs G W _ _ _ [some (.d (.tuple (.str w :: xs))), some (.d (.int mn)), some (.d (.int sh)), some (.d (.list (.str (Str.ofString p.2) :: r))), some (.d (.dict (topsD sh mn))), some (.d (.str ⟨#[z.1]⟩)), some (.d z.2), x7, none, none, none] st).wp _
                simp only [wps_cons, s_asg]
                refine low_wp ?_
                simp only [s_if, r_not, r_call, r_cons, r_var, var_0, var_s, set_0, set_s]
                refine top_wp (tabL_alph p hp z.1 (zip_mem1 hz)) ?_
                get_elem_tactic_trivial
                rw [p29]
                unfold lpartS at hg
                rw [hg]
                exact ⟨⟨_, _, _, rfl⟩, rfl⟩
              · obtain ⟨x5, x6, x7, rfl⟩ := hI
                refine ⟨_, rfl, ?_⟩
                show (exSs G W _ _ _ [some (.d (.tuple (.str w :: xs))), some (.d (.int mn)), some (.d (.int sh)), some (.d (.list (.str (Str.ofString p.2) :: r))), some (.d (.dict (topsD sh mn))), some (.d (.str ⟨#[z.1]⟩)), some (.d z.2), x7, none, none, none] st).wp _
                simp only [wps_cons, s_asg]
                refine low_wp ?_
                simp only [s_if, r_not, r_call, r_cons, r_var, var_0, var_s, set_0, set_s]
                refine top_wp (tabL_alph p hp z.1 (zip_mem1 hz)) ?_
                get_elem_tactic_trivial
                rw [p29]
                have hall : (((chars p.2).zip xs).all fun p => lpartS sh mn p.1 p.2) = false := List.all_eq_false.mpr ⟨z, hz, by rw [hg]; decide⟩
                rw [hall] at q
                unfold lpartS at hg
                rw [hg]
                exact q
              · obtain ⟨x5, x6, x7, rfl⟩ := hI
                rw [hall, Bool.true_and] at q
                get_elem_tactic_trivial
                simp only [at_0]
                get_elem_tactic_trivial
                unfold lrightB at q
                have last : (((((chars p.2).zip xs).filter fun p => decide (p.1 = 98) && lt6 p.2).isEmpty) = true → Q (.d (.bool true)) st) → (((((chars p.2).zip xs).filter fun p => decide (p.1 = 98) && lt6 p.2).isEmpty) = false → Q (.d (.bool false)) st) → (evE G (cpK G W (k + 1)) (cmK G W (k + 1)) (.comp false (.con (.int 1)) (.tup [5, 6]) .zip (.cons (.ix (.var 3) (.con (.int 0))) (.cons (.slice (.var 0) (.cons (.con (.int 1)) .nil) .nil) .nil)) (.cons (.and_ (.cmp .Eq (.var 5) (.con (.str "b"))) (.cmp .Lt (.var 6) (.con (.int 6)))) .nil) [5, 6]) [some (.d (.tuple (.str w :: xs))), some (.d (.int mn)), some (.d (.int sh)), some (.d (.list (.str (Str.ofString p.2) :: r))), some (.d (.dict (topsD sh mn))), x5, x6, x7, some (.d (.bool (inS (Str.ofString p.2) "c" && gt5 xs))), none, none] st).wp fun x st1 => cmpQ .Eq x (.d (.list [])) fun z => Q (.d (.bool z)) st1 := by
                  intro qt qf
                  rw [r_comp]
                  get_elem_tactic_trivial
                  simp only [at_0]
                  get_elem_tactic_trivial
                  rw [sl_one, wk_zip]
                  get_elem_tactic_trivial
                  refine pick_on (fun p : Nat × D => decide (p.1 = 98) && lt6 p.2) (fun _ => .int 1) (by rw [List.length_zip]; unfold sizeMax; omega) (fun z hz Q q => ?_) ?_
                  · rw [turn_wp rfl]
                    unfold compQ
                    simp only [wipeE, setE, setEs, List.set_cons_succ, List.set_cons_zero, List.map_cons, List.map_nil]
                    get_elem_tactic_trivial
                    simp only [← sg_b, sg_inj]
                    obtain ⟨i, e⟩ := part_int (List.all_eq_true.mp hall z hz)
                    rw [e] at q ⊢
                    refine ⟨fun h => ?_, fun h => ?_⟩
                    · simp only [h, decide_true, Bool.true_and, lt6, decide_eq_true_eq] at q
                      get_elem_tactic_trivial
                      refine ⟨fun h => ?_, fun h => ?_⟩
                      · rw [if_pos h] at q; exact q
                      · rw [if_neg h] at q; exact q
                    · simp only [h, decide_false, Bool.false_and, Bool.false_eq_true, if_false] at q; exact q
                  · rw [toDs_map]
                    get_elem_tactic_trivial
                    refine eq_sh (ok_shaped (n := 1) (by decide) fun x hx => ?_) (by decide) ?_
                    · obtain ⟨_, _, rfl⟩ := List.mem_map.mp hx
                      trivial
                    · rw [eqv_nilL]
                      have e : ∀ ys : List (Nat × D), (ys.map fun _ => PyData.int 1).isEmpty = ys.isEmpty := fun ys => by cases ys <;> rfl
                      rw [e]
                      cases h : (((chars p.2).zip xs).filter fun p => decide (p.1 = 98) && lt6 p.2).isEmpty with
                      | true => exact qt h
                      | false => exact qf h
                cases hc : inS (Str.ofString p.2) "c" with
                | false =>
                  rw [hc] at q
                  get_elem_tactic_trivial
                  exact q
                | true =>
                  rw [hc, Bool.true_and] at q
                  have hh := tabL_c p hp hc
                  cases xs with
                  | nil =>
                    rw [List.length_nil] at h
                    rw [List.eq_nil_of_length_eq_zero h.symm] at hh
                    cases hh
                  | cons x r2 =>
                    cases hcs : chars p.2 with
                    | nil => rw [hcs] at hh; cases hh
                    | cons c cs =>
                      obtain ⟨i, rfl⟩ := part_int (List.all_eq_true.mp hall (c, x) (by rw [hcs]; exact List.mem_cons_self ..))
                      rw [hc, Bool.true_and, show gt5 (.int i :: r2) = decide (5 < i) from rfl] at last
                      rw [show gt5 (.int i :: r2) = decide (5 < i) from rfl] at q
                      get_elem_tactic_trivial
                      simp only [at_1]
                      get_elem_tactic_trivial
                      refine ⟨fun h5 => ?_, fun h5 => ?_⟩
                      · rw [decide_eq_true h5, Bool.not_true, Bool.false_or] at q
                        have := last (fun h => by rw [h] at q; exact q) (fun h => by rw [h] at q; exact q)
                        exact this
                      · rw [decide_eq_false h5] at q
                        exact q
            · rw [decide_eq_false (show ¬ xs.length = (chars p.2).length by omega), Bool.false_and, Bool.false_and] at q
              exact q
      | _ => exact q
  | _ => exact q
theorem p32 {v : D} {n : Nat} (hn : n ≤ 60) (hv : ok n v) (sh mn : Int) : (callU G (cpK G W (k + 2)) (cmK G W (k + 2)) 32 [.d v, .d (.int mn), .d (.int sh)] st).wp Q = Q (.d (.bool (lrowS sh mn v))) st := pure_eq (F := f32) rfl rfl rfl fun Q q => r32 hn hv sh mn q
end K34
end

section
set_option maxRecDepth 100000
set_option autoImplicit false
namespace K34
open Ev PySem
/-- the evaluator's steps -/
local macro_rules | `(tactic| get_elem_tactic_trivial) => `(tactic| simp only [wps_cons, wps_nil, wp_ok, r_int, r_str, r_bool, r_none, r_var, r_bin, r_neg, r_not, r_cmp, r_chain, r_and, r_or, r_ite, r_tup, r_lst, r_alloc, r_alloc0, r_ix, r_call, r_callK, r_bcall, r_isty, r_meth0, r_meth1, r_dict, r_slice, r_rep, r_nil, r_cons, r_lam, r_fnv, r_callV, r_dm, r_isn, r_catM, r_tupX, r_trip, r_weak, r_tix, s_pass, s_ret, s_retN, s_asg, s_asgS, s_sub, s_tup, s_tgs0, s_tgs, s_tgN, s_par, s_par3, s_ex, s_aug, s_if, s_for, s_brk, s_cnt,
  var_0, var_s, fun_0, fun_s, tst_t, tst_f, tst_d, tst_n, neg_i, not_b, bin_add, bin_sub, bin_mul, bin_fdiv, bin_mod, bin_pow, bin_str, bin_lst, bin_tup, cmp_lt, cmp_le, cmp_gt, cmp_ge, cmp_eqI, cmp_neI, cmp_eqS, cmp_neS, cmp_eqB, cmp_is, cmp_isn, cmp_isB, cmp_isnB, cmp_inT, cmp_inL, cmp_ninT, cmp_ninL, cmp_inS, cmp_ninS, ty_d, ty_int, ty_bool, ty_str, ty_tup, unt_t, aug_0, aug_s, augr_add, augr_sub, opt_some, opt_map, opt_if, set_0, set_s, tupQ, toDs, Option.map_some, Option.map_none,
  wp_bind, part_0, part_1, sl_list, sl_tuple, sl_map, wk_list, wk_tuple, walk_r1, walk_r2, at1_0, at2_0, at2_1, at3_0, at3_1, at3_2, ix_list, ix_tuple, bf_int, bf_intB, bf_abs, bf_lenL, bf_lenT, bf_max, bf_min, divmod_wp, bf_repr, len_str, bf_tupL,
  str_eq, String.reduceEq, mem_str, mem_nil, flat_str, flat_int, List.all_cons, List.all_nil, Bool.and_self, Bool.or_false, decide_true, decide_false, not_true, not_false_eq_true, true_and, and_true, true_implies, false_implies, implies_true, Bool.not_true, Bool.not_false, Bool.false_or, Bool.true_or, Bool.or_true, Bool.not_not, List.length_cons, List.length_nil, sizeMax, Nat.reduceAdd, Nat.reduceLeDiff, ne_eq, pick, List.getElem?_cons_zero, List.getElem?_cons_succ,
  r_glob c0, r_glob c1, r_glob c2, r_glob c3, r_glob c4, r_glob c5, r_glob c6, r_glob c7, r_glob c8, r_glob c9, r_glob c10, r_glob c11, r_glob c12, r_glob c13, r_glob c14, r_glob c15, r_glob c16, r_glob c17, r_glob c18, r_glob c19, r_glob c20])
variable {W k : Nat} {st : Store} {Q : U → Store → Prop}
/-! ### the two say the same of a row -/
def triples : List (String × String × String) := [("point", "p", "p"), ("set", "bn", "cn"), ("me", "b", "d"), ("all", "b", "c"), ("copy", "bb", "cb"), ("neg", "bb", "cb"), ("not", "bb", "cb"), ("add", "bbb", "cbb"), ("sub", "bbb", "cbb"), ("mul", "bbb", "cbb"), ("div", "bbb", "cbb"), ("rem", "bbb", "cbb"), ("less", "bbb", "cbb"), ("same", "bbb", "cbb"), ("and", "bbb", "cbb"), ("or", "bbb", "cbb"), ("load", "bab", "dab"), ("store", "abb", "abb"), ("keep", "sb", "sb"), ("take", "bs", "ds"), ("say", "b", "b"), ("jump", "l", "l"), ("branch", "bll", "bll"), ("enter", "", ""), ("round", "bkll", "bkll"), ("leave", "", ""), ("call", "l", "l"), ("back", "", ""), ("fence", "", ""), ("stop", "", "")]
theorem both_look (w : Str) : ∀ t : List (String × String × String), (lookS (t.map fun p => (p.1, p.2.1)) w = none ∧ lookS (t.map fun p => (p.1, p.2.2)) w = none) ∨ ∃ p ∈ t, w = Str.ofString p.1 ∧ lookS (t.map fun p => (p.1, p.2.1)) w = some p.2.1 ∧ lookS (t.map fun p => (p.1, p.2.2)) w = some p.2.2
  | [] => .inl ⟨rfl, rfl⟩
  | p :: t => by
    rw [List.map_cons, List.map_cons]
    unfold lookS
    by_cases h : Str.ofString p.1 = w
    · simp only [h, if_true]
      exact .inr ⟨p, List.mem_cons_self .., h.symm, rfl, rfl⟩
    · simp only [h, if_false]
      rcases both_look w t with a | ⟨p, hp, b⟩
      · exact .inl a
      · exact .inr ⟨p, List.mem_cons_of_mem _ hp, b⟩
def rowG (sh mn : Int) (A : List Nat) (ns cm : Bool) (xs : List D) : Bool :=
  (decide (xs.length = A.length) && (A.zip xs).all fun p => partS sh mn p.1 p.2) && match (if ns then [] else (((A.zip xs).filter fun p => decide (p.1 = 98)).map (·.2)).take 1) with
  | b :: _ => !comB b || (cm && (((A.zip xs).filter fun p => decide (p.1 = 98)).map (·.2)).all comB)
  | [] => true
def lrowG (sh mn : Int) (A : List Nat) (cc : Bool) (xs : List D) : Bool :=
  (decide (xs.length = A.length) && (A.zip xs).all fun p => lpartS sh mn p.1 p.2) && (!(cc && gt5 xs) || ((A.zip xs).filter fun p => decide (p.1 = 98) && lt6 p.2).isEmpty)
theorem int_or (x : D) : (∃ i, x = .int i) ∨ ((∀ l h, numS l h x = false) ∧ lt6 x = false ∧ comB x = false ∧ ∀ r, gt5 (x :: r) = false) := by
  cases x with
  | int i => exact .inl ⟨i, rfl⟩
  | _ => exact .inr ⟨fun _ _ => rfl, rfl, rfl, fun _ => rfl⟩
theorem same_of (sh mn : Int) {ns cm cc : Bool} {A B : List Nat} (hl : A.length = B.length) (h : ∀ xs : List D, xs.length = A.length → rowG sh mn A ns cm xs = lrowG sh mn B cc xs) (xs : List D) : rowG sh mn A ns cm xs = lrowG sh mn B cc xs := by
  by_cases e : xs.length = A.length
  · exact h xs e
  · unfold rowG lrowG
    rw [decide_eq_false e, decide_eq_false (by rw [← hl]; exact e)]
    rfl
section
variable (sh mn : Int) (xs : List D)
theorem s_p : rowG sh mn [112] false false xs = lrowG sh mn [112] false xs := by
  refine same_of sh mn (by rfl) (fun xs h => ?_) xs
  match xs, h with
  | [x], _ =>
    rcases int_or x with ⟨i0, rfl⟩ | ⟨hx, h2, h3, h4⟩
    · simp [rowG, lrowG, partS, lpartS, numS, loC, hiC, lhiC, comB, lt6, gt5]
      try (rw [Bool.eq_iff_iff]; simp; omega)
    · simp [rowG, lrowG, partS, lpartS, hx]
theorem s_set : rowG sh mn [98, 110] false true xs = lrowG sh mn [99, 110] true xs := by
  refine same_of sh mn (by rfl) (fun xs h => ?_) xs
  match xs, h with
  | [x, y], _ =>
    rcases int_or x with ⟨i0, rfl⟩ | ⟨hx, h2, h3, h4⟩
    · rcases int_or y with ⟨i1, rfl⟩ | ⟨hx, h2, h3, h4⟩
      · simp [rowG, lrowG, partS, lpartS, numS, loC, hiC, lhiC, comB, lt6, gt5]
        try (rw [Bool.eq_iff_iff]; simp; omega)
      · simp [rowG, lrowG, partS, lpartS, hx]
    · simp [rowG, lrowG, partS, lpartS, hx]
theorem s_me : rowG sh mn [98] false false xs = lrowG sh mn [100] false xs := by
  refine same_of sh mn (by rfl) (fun xs h => ?_) xs
  match xs, h with
  | [x], _ =>
    rcases int_or x with ⟨i0, rfl⟩ | ⟨hx, h2, h3, h4⟩
    · simp [rowG, lrowG, partS, lpartS, numS, loC, hiC, lhiC, comB, lt6, gt5]
      try (rw [Bool.eq_iff_iff]; simp; omega)
    · simp [rowG, lrowG, partS, lpartS, hx]
theorem s_all : rowG sh mn [98] false true xs = lrowG sh mn [99] true xs := by
  refine same_of sh mn (by rfl) (fun xs h => ?_) xs
  match xs, h with
  | [x], _ =>
    rcases int_or x with ⟨i0, rfl⟩ | ⟨hx, h2, h3, h4⟩
    · simp [rowG, lrowG, partS, lpartS, numS, loC, hiC, lhiC, comB, lt6, gt5]
      try (rw [Bool.eq_iff_iff]; simp; omega)
    · simp [rowG, lrowG, partS, lpartS, hx]
theorem s_two : rowG sh mn [98, 98] false true xs = lrowG sh mn [99, 98] true xs := by
  refine same_of sh mn (by rfl) (fun xs h => ?_) xs
  match xs, h with
  | [x, y], _ =>
    rcases int_or x with ⟨i0, rfl⟩ | ⟨hx, h2, h3, h4⟩
    · rcases int_or y with ⟨i1, rfl⟩ | ⟨hx, h2, h3, h4⟩
      · simp [rowG, lrowG, partS, lpartS, numS, loC, hiC, lhiC, comB, lt6, gt5]
        try (rw [Bool.eq_iff_iff]; simp; omega)
      · simp [rowG, lrowG, partS, lpartS, hx]
    · simp [rowG, lrowG, partS, lpartS, hx]
theorem s_three : rowG sh mn [98, 98, 98] false true xs = lrowG sh mn [99, 98, 98] true xs := by
  refine same_of sh mn (by rfl) (fun xs h => ?_) xs
  match xs, h with
  | [x, y, z], _ =>
    rcases int_or x with ⟨i0, rfl⟩ | ⟨hx, h2, h3, h4⟩
    · rcases int_or y with ⟨i1, rfl⟩ | ⟨hx, h2, h3, h4⟩
      · rcases int_or z with ⟨i2, rfl⟩ | ⟨hx, h2, h3, h4⟩
        · simp [rowG, lrowG, partS, lpartS, numS, loC, hiC, lhiC, comB, lt6, gt5]
          try (rw [Bool.eq_iff_iff]; simp; omega)
        · simp [rowG, lrowG, partS, lpartS, hx]
      · simp [rowG, lrowG, partS, lpartS, hx]
    · simp [rowG, lrowG, partS, lpartS, hx]
theorem s_load : rowG sh mn [98, 97, 98] false false xs = lrowG sh mn [100, 97, 98] false xs := by
  refine same_of sh mn (by rfl) (fun xs h => ?_) xs
  match xs, h with
  | [x, y, z], _ =>
    rcases int_or x with ⟨i0, rfl⟩ | ⟨hx, h2, h3, h4⟩
    · rcases int_or y with ⟨i1, rfl⟩ | ⟨hx, h2, h3, h4⟩
      · rcases int_or z with ⟨i2, rfl⟩ | ⟨hx, h2, h3, h4⟩
        · simp [rowG, lrowG, partS, lpartS, numS, loC, hiC, lhiC, comB, lt6, gt5]
          try (rw [Bool.eq_iff_iff]; simp; omega)
        · simp [rowG, lrowG, partS, lpartS, hx]
      · simp [rowG, lrowG, partS, lpartS, hx]
    · simp [rowG, lrowG, partS, lpartS, hx]
theorem s_store : rowG sh mn [97, 98, 98] true false xs = lrowG sh mn [97, 98, 98] false xs := by
  refine same_of sh mn (by rfl) (fun xs h => ?_) xs
  match xs, h with
  | [x, y, z], _ =>
    rcases int_or x with ⟨i0, rfl⟩ | ⟨hx, h2, h3, h4⟩
    · rcases int_or y with ⟨i1, rfl⟩ | ⟨hx, h2, h3, h4⟩
      · rcases int_or z with ⟨i2, rfl⟩ | ⟨hx, h2, h3, h4⟩
        · simp [rowG, lrowG, partS, lpartS, numS, loC, hiC, lhiC, comB, lt6, gt5]
          try (rw [Bool.eq_iff_iff]; simp; omega)
        · simp [rowG, lrowG, partS, lpartS, hx]
      · simp [rowG, lrowG, partS, lpartS, hx]
    · simp [rowG, lrowG, partS, lpartS, hx]
theorem s_keep : rowG sh mn [115, 98] true false xs = lrowG sh mn [115, 98] false xs := by
  refine same_of sh mn (by rfl) (fun xs h => ?_) xs
  match xs, h with
  | [x, y], _ =>
    rcases int_or x with ⟨i0, rfl⟩ | ⟨hx, h2, h3, h4⟩
    · rcases int_or y with ⟨i1, rfl⟩ | ⟨hx, h2, h3, h4⟩
      · simp [rowG, lrowG, partS, lpartS, numS, loC, hiC, lhiC, comB, lt6, gt5]
        try (rw [Bool.eq_iff_iff]; simp; omega)
      · simp [rowG, lrowG, partS, lpartS, hx]
    · simp [rowG, lrowG, partS, lpartS, hx]
theorem s_take : rowG sh mn [98, 115] false false xs = lrowG sh mn [100, 115] false xs := by
  refine same_of sh mn (by rfl) (fun xs h => ?_) xs
  match xs, h with
  | [x, y], _ =>
    rcases int_or x with ⟨i0, rfl⟩ | ⟨hx, h2, h3, h4⟩
    · rcases int_or y with ⟨i1, rfl⟩ | ⟨hx, h2, h3, h4⟩
      · simp [rowG, lrowG, partS, lpartS, numS, loC, hiC, lhiC, comB, lt6, gt5]
        try (rw [Bool.eq_iff_iff]; simp; omega)
      · simp [rowG, lrowG, partS, lpartS, hx]
    · simp [rowG, lrowG, partS, lpartS, hx]
theorem s_say : rowG sh mn [98] true false xs = lrowG sh mn [98] false xs := by
  refine same_of sh mn (by rfl) (fun xs h => ?_) xs
  match xs, h with
  | [x], _ =>
    rcases int_or x with ⟨i0, rfl⟩ | ⟨hx, h2, h3, h4⟩
    · simp [rowG, lrowG, partS, lpartS, numS, loC, hiC, lhiC, comB, lt6, gt5]
      try (rw [Bool.eq_iff_iff]; simp; omega)
    · simp [rowG, lrowG, partS, lpartS, hx]
theorem s_l : rowG sh mn [108] false false xs = lrowG sh mn [108] false xs := by
  refine same_of sh mn (by rfl) (fun xs h => ?_) xs
  match xs, h with
  | [x], _ =>
    rcases int_or x with ⟨i0, rfl⟩ | ⟨hx, h2, h3, h4⟩
    · simp [rowG, lrowG, partS, lpartS, numS, loC, hiC, lhiC, comB, lt6, gt5]
      try (rw [Bool.eq_iff_iff]; simp; omega)
    · simp [rowG, lrowG, partS, lpartS, hx]
theorem s_branch : rowG sh mn [98, 108, 108] true false xs = lrowG sh mn [98, 108, 108] false xs := by
  refine same_of sh mn (by rfl) (fun xs h => ?_) xs
  match xs, h with
  | [x, y, z], _ =>
    rcases int_or x with ⟨i0, rfl⟩ | ⟨hx, h2, h3, h4⟩
    · rcases int_or y with ⟨i1, rfl⟩ | ⟨hx, h2, h3, h4⟩
      · rcases int_or z with ⟨i2, rfl⟩ | ⟨hx, h2, h3, h4⟩
        · simp [rowG, lrowG, partS, lpartS, numS, loC, hiC, lhiC, comB, lt6, gt5]
          try (rw [Bool.eq_iff_iff]; simp; omega)
        · simp [rowG, lrowG, partS, lpartS, hx]
      · simp [rowG, lrowG, partS, lpartS, hx]
    · simp [rowG, lrowG, partS, lpartS, hx]
theorem s_none : rowG sh mn [] false false xs = lrowG sh mn [] false xs := by
  refine same_of sh mn (by rfl) (fun xs h => ?_) xs
  match xs, h with
  | [], _ =>
    simp [rowG, lrowG, partS, lpartS, numS, loC, hiC, lhiC, comB, lt6, gt5]
    try (rw [Bool.eq_iff_iff]; simp; omega)
theorem s_round : rowG sh mn [98, 107, 108, 108] true false xs = lrowG sh mn [98, 107, 108, 108] false xs := by
  refine same_of sh mn (by rfl) (fun xs h => ?_) xs
  match xs, h with
  | [x, y, z, u], _ =>
    rcases int_or x with ⟨i0, rfl⟩ | ⟨hx, h2, h3, h4⟩
    · rcases int_or y with ⟨i1, rfl⟩ | ⟨hx, h2, h3, h4⟩
      · rcases int_or z with ⟨i2, rfl⟩ | ⟨hx, h2, h3, h4⟩
        · rcases int_or u with ⟨i3, rfl⟩ | ⟨hx, h2, h3, h4⟩
          · simp [rowG, lrowG, partS, lpartS, numS, loC, hiC, lhiC, comB, lt6, gt5]
            try (rw [Bool.eq_iff_iff]; simp; omega)
          · simp [rowG, lrowG, partS, lpartS, hx]
        · simp [rowG, lrowG, partS, lpartS, hx]
      · simp [rowG, lrowG, partS, lpartS, hx]
    · simp [rowG, lrowG, partS, lpartS, hx]
end
theorem fin_ {w pl ll : String} {sh mn : Int} {xs : List D} {A B : List Nat} {ns cm cc : Bool} (h0 : lookS tabP w = some pl ∧ lookS tabL w = some ll) (h1 : chars pl = A) (h2 : chars ll = B) (h3 : memD (.str w) nosetD = ns) (h4 : (memD (.str w) comD || memD (.str w) opsD) = cm) (h5 : inS ll "c" = cc) (h : rowG sh mn A ns cm xs = lrowG sh mn B cc xs) : rowS sh mn (.tuple (.str w :: xs)) = lrowS sh mn (.tuple (.str w :: xs)) := by
  unfold rowS lrowS
  simp only
  rw [h0.1, h0.2]
  subst h1 h2 h3 h4 h5
  exact h
theorem row_same (sh mn : Int) (v : D) : rowS sh mn v = lrowS sh mn v := by
  cases v with
  | tuple ys =>
    cases ys with
    | nil => rfl
    | cons y xs =>
      cases y with
      | str w =>
        rcases both_look w triples with ⟨h1, h2⟩ | ⟨p, hp, rfl, h⟩
        · have h1 : lookS tabP w = none := h1
          have h2 : lookS tabL w = none := h2
          unfold rowS lrowS
          simp only
          rw [h1, h2]
        · have h : lookS tabP p.1 = some p.2.1 ∧ lookS tabL p.1 = some p.2.2 := h
          simp only [triples, List.mem_cons, List.not_mem_nil, or_false] at hp
          rcases hp with rfl | rfl | rfl | rfl | rfl | rfl | rfl | rfl | rfl | rfl | rfl | rfl | rfl | rfl | rfl | rfl | rfl | rfl | rfl | rfl | rfl | rfl | rfl | rfl | rfl | rfl | rfl | rfl | rfl | rfl
          · exact fin_ h (by decide +kernel) (by decide +kernel) (by decide +kernel) (by decide +kernel) (by decide +kernel) (s_p sh mn xs)
          · exact fin_ h (by decide +kernel) (by decide +kernel) (by decide +kernel) (by decide +kernel) (by decide +kernel) (s_set sh mn xs)
          · exact fin_ h (by decide +kernel) (by decide +kernel) (by decide +kernel) (by decide +kernel) (by decide +kernel) (s_me sh mn xs)
          · exact fin_ h (by decide +kernel) (by decide +kernel) (by decide +kernel) (by decide +kernel) (by decide +kernel) (s_all sh mn xs)
          · exact fin_ h (by decide +kernel) (by decide +kernel) (by decide +kernel) (by decide +kernel) (by decide +kernel) (s_two sh mn xs)
          · exact fin_ h (by decide +kernel) (by decide +kernel) (by decide +kernel) (by decide +kernel) (by decide +kernel) (s_two sh mn xs)
          · exact fin_ h (by decide +kernel) (by decide +kernel) (by decide +kernel) (by decide +kernel) (by decide +kernel) (s_two sh mn xs)
          · exact fin_ h (by decide +kernel) (by decide +kernel) (by decide +kernel) (by decide +kernel) (by decide +kernel) (s_three sh mn xs)
          · exact fin_ h (by decide +kernel) (by decide +kernel) (by decide +kernel) (by decide +kernel) (by decide +kernel) (s_three sh mn xs)
          · exact fin_ h (by decide +kernel) (by decide +kernel) (by decide +kernel) (by decide +kernel) (by decide +kernel) (s_three sh mn xs)
          · exact fin_ h (by decide +kernel) (by decide +kernel) (by decide +kernel) (by decide +kernel) (by decide +kernel) (s_three sh mn xs)
          · exact fin_ h (by decide +kernel) (by decide +kernel) (by decide +kernel) (by decide +kernel) (by decide +kernel) (s_three sh mn xs)
          · exact fin_ h (by decide +kernel) (by decide +kernel) (by decide +kernel) (by decide +kernel) (by decide +kernel) (s_three sh mn xs)
          · exact fin_ h (by decide +kernel) (by decide +kernel) (by decide +kernel) (by decide +kernel) (by decide +kernel) (s_three sh mn xs)
          · exact fin_ h (by decide +kernel) (by decide +kernel) (by decide +kernel) (by decide +kernel) (by decide +kernel) (s_three sh mn xs)
          · exact fin_ h (by decide +kernel) (by decide +kernel) (by decide +kernel) (by decide +kernel) (by decide +kernel) (s_three sh mn xs)
          · exact fin_ h (by decide +kernel) (by decide +kernel) (by decide +kernel) (by decide +kernel) (by decide +kernel) (s_load sh mn xs)
          · exact fin_ h (by decide +kernel) (by decide +kernel) (by decide +kernel) (by decide +kernel) (by decide +kernel) (s_store sh mn xs)
          · exact fin_ h (by decide +kernel) (by decide +kernel) (by decide +kernel) (by decide +kernel) (by decide +kernel) (s_keep sh mn xs)
          · exact fin_ h (by decide +kernel) (by decide +kernel) (by decide +kernel) (by decide +kernel) (by decide +kernel) (s_take sh mn xs)
          · exact fin_ h (by decide +kernel) (by decide +kernel) (by decide +kernel) (by decide +kernel) (by decide +kernel) (s_say sh mn xs)
          · exact fin_ h (by decide +kernel) (by decide +kernel) (by decide +kernel) (by decide +kernel) (by decide +kernel) (s_l sh mn xs)
          · exact fin_ h (by decide +kernel) (by decide +kernel) (by decide +kernel) (by decide +kernel) (by decide +kernel) (s_branch sh mn xs)
          · exact fin_ h (by decide +kernel) (by decide +kernel) (by decide +kernel) (by decide +kernel) (by decide +kernel) (s_none sh mn xs)
          · exact fin_ h (by decide +kernel) (by decide +kernel) (by decide +kernel) (by decide +kernel) (by decide +kernel) (s_round sh mn xs)
          · exact fin_ h (by decide +kernel) (by decide +kernel) (by decide +kernel) (by decide +kernel) (by decide +kernel) (s_none sh mn xs)
          · exact fin_ h (by decide +kernel) (by decide +kernel) (by decide +kernel) (by decide +kernel) (by decide +kernel) (s_l sh mn xs)
          · exact fin_ h (by decide +kernel) (by decide +kernel) (by decide +kernel) (by decide +kernel) (by decide +kernel) (s_none sh mn xs)
          · exact fin_ h (by decide +kernel) (by decide +kernel) (by decide +kernel) (by decide +kernel) (by decide +kernel) (s_none sh mn xs)
          · exact fin_ h (by decide +kernel) (by decide +kernel) (by decide +kernel) (by decide +kernel) (by decide +kernel) (s_none sh mn xs)
      | _ => rfl
  | _ => rfl
end K34
end

section
set_option maxRecDepth 100000
set_option autoImplicit false
namespace K34
open Ev PySem
/-- the evaluator's steps -/
local macro_rules | `(tactic| get_elem_tactic_trivial) => `(tactic| simp only [wps_cons, wps_nil, wp_ok, r_int, r_str, r_bool, r_none, r_var, r_bin, r_neg, r_not, r_cmp, r_chain, r_and, r_or, r_ite, r_tup, r_lst, r_alloc, r_alloc0, r_ix, r_call, r_callK, r_bcall, r_isty, r_meth0, r_meth1, r_dict, r_slice, r_rep, r_nil, r_cons, r_lam, r_fnv, r_callV, r_dm, r_isn, r_catM, r_tupX, r_trip, r_weak, r_tix, s_pass, s_ret, s_retN, s_asg, s_asgS, s_sub, s_tup, s_tgs0, s_tgs, s_tgN, s_par, s_par3, s_ex, s_aug, s_if, s_for, s_brk, s_cnt,
  var_0, var_s, fun_0, fun_s, tst_t, tst_f, tst_d, tst_n, neg_i, not_b, bin_add, bin_sub, bin_mul, bin_fdiv, bin_mod, bin_pow, bin_str, bin_lst, bin_tup, cmp_lt, cmp_le, cmp_gt, cmp_ge, cmp_eqI, cmp_neI, cmp_eqS, cmp_neS, cmp_eqB, cmp_is, cmp_isn, cmp_isB, cmp_isnB, cmp_inT, cmp_inL, cmp_ninT, cmp_ninL, cmp_inS, cmp_ninS, ty_d, ty_int, ty_bool, ty_str, ty_tup, unt_t, aug_0, aug_s, augr_add, augr_sub, opt_some, opt_map, opt_if, set_0, set_s, tupQ, toDs, Option.map_some, Option.map_none,
  wp_bind, part_0, part_1, sl_list, sl_tuple, sl_map, wk_list, wk_tuple, walk_r1, walk_r2, at1_0, at2_0, at2_1, at3_0, at3_1, at3_2, ix_list, ix_tuple, bf_int, bf_intB, bf_abs, bf_lenL, bf_lenT, bf_max, bf_min, divmod_wp, bf_repr, len_str, bf_tupL,
  str_eq, String.reduceEq, mem_str, mem_nil, flat_str, flat_int, List.all_cons, List.all_nil, Bool.and_self, Bool.or_false, decide_true, decide_false, not_true, not_false_eq_true, true_and, and_true, true_implies, false_implies, implies_true, Bool.not_true, Bool.not_false, Bool.false_or, Bool.true_or, Bool.or_true, Bool.not_not, List.length_cons, List.length_nil, sizeMax, Nat.reduceAdd, Nat.reduceLeDiff, ne_eq, pick, List.getElem?_cons_zero, List.getElem?_cons_succ,
  r_glob c0, r_glob c1, r_glob c2, r_glob c3, r_glob c4, r_glob c5, r_glob c6, r_glob c7, r_glob c8, r_glob c9, r_glob c10, r_glob c11, r_glob c12, r_glob c13, r_glob c14, r_glob c15, r_glob c16, r_glob c17, r_glob c18, r_glob c19, r_glob c20])
variable {W k : Nat} {st : Store} {Q : U → Store → Prop}
/-! ### images -/
theorem pure_eq2 {G : Gm} {f : Nat} {F : Fn} {us : List U} (e : G.fns[f]? = some F) (hp : F.pure = true) {ds : List D} {x : D} (hd : toDs us = some ds) (h : (callRaw G W k f us []).wp fun u _ => u = .d x) : (callU G (cpK G W k) (cmK G W k) f us st).wp Q = Q (.d x) st := by
  unfold callU
  rw [e]
  simp only [hp, if_true, hd, cpK]
  rw [← toDs_some hd]
  obtain ⟨u, st1, e1, e2⟩ := h.get
  rw [e1, e2]
  rfl
def sizesS : D → Bool
  | .tuple xs => decide (xs.length ≤ 4) && xs.all (numS 1 16)
  | _ => false
theorem r14 (v : D) (q : Q (.d (.bool (sizesS v))) st) : (callRaw G W (k + 3) 14 [.d v] st).wp Q := by
  refine call_by (F := f14) rfl rfl ?_
  show (exSs G W _ _ b14 [some (.d v), none] st).wp _
  unfold b14
  get_elem_tactic_trivial
  cases v with
  | tuple xs =>
    simp only [tupB]
    get_elem_tactic_trivial
    simp only [sizesS] at q
    refine ⟨fun h => ?_, fun h => ?_⟩
    · rw [decide_eq_false (show ¬ xs.length ≤ 4 by omega)] at q; exact q
    · rw [decide_eq_true (show xs.length ≤ 4 by omega), Bool.true_and] at q
      rw [r_comp]
      get_elem_tactic_trivial
      refine all_on (numS 1 16) (by unfold sizeMax; omega) (fun z hz Q q => ?_) q
      rw [turn_wp rfl]
      unfold compQ
      simp only [wipeE, setE, setEs, List.set_cons_succ, List.set_cons_zero, List.map_cons, List.map_nil]
      get_elem_tactic_trivial
      rw [p1]
      exact q
  | _ => exact q
theorem p14 (v : D) : (callU G (cpK G W (k + 3)) (cmK G W (k + 3)) 14 [.d v] st).wp Q = Q (.d (.bool (sizesS v))) st := pure_eq (F := f14) rfl rfl rfl fun Q q => r14 v q
def countS : D → Bool
  | .tuple xs => decide (1 ≤ xs.length) && decide (xs.length ≤ 4000)
  | _ => false
theorem r15 (v : D) (q : Q (.d (.bool (countS v))) st) : (callRaw G W (k + 1) 15 [.d v] st).wp Q := by
  refine call_by (F := f15) rfl rfl ?_
  show (exSs G W _ _ b15 [some (.d v)] st).wp _
  unfold b15
  get_elem_tactic_trivial
  cases v with
  | tuple xs =>
    simp only [tupB]
    get_elem_tactic_trivial
    simp only [countS] at q
    refine ⟨fun h => ?_, fun h => ?_⟩
    · rw [decide_eq_true (show 1 ≤ xs.length by omega), Bool.true_and] at q
      have e : decide ((xs.length : Int) ≤ 4000) = decide (xs.length ≤ 4000) := by
        rw [decide_eq_decide]; omega
      rw [e]; exact q
    · rw [decide_eq_false (show ¬ 1 ≤ xs.length by omega)] at q; exact q
  | _ => exact q
theorem p15 (v : D) : (callU G (cpK G W (k + 1)) (cmK G W (k + 1)) 15 [.d v] st).wp Q = Q (.d (.bool (countS v))) st := pure_eq (F := f15) rfl rfl rfl fun Q q => r15 v q
def lenD' : D → Nat
  | .tuple xs => xs.length
  | _ => 0
def itemsD : D → List D
  | .tuple xs => xs
  | _ => []
def imgS : D → Bool
  | .tuple [s, e, r] => (sizesS s && countS r) && (numS 0 ((itemsD r).length - 1) e && (itemsD r).all (rowS (itemsD s).length (itemsD r).length))
  | _ => false
theorem sizes_tup {v : D} (h : sizesS v = true) : ∃ xs, v = .tuple xs ∧ xs.length ≤ 4 := by
  cases v with
  | tuple xs =>
    simp only [sizesS, Bool.and_eq_true, decide_eq_true_eq] at h
    exact ⟨xs, rfl, h.1⟩
  | _ => cases h
theorem count_tup {v : D} (h : countS v = true) : ∃ xs, v = .tuple xs ∧ 1 ≤ xs.length ∧ xs.length ≤ 4000 := by
  cases v with
  | tuple xs =>
    simp only [countS, Bool.and_eq_true, decide_eq_true_eq] at h
    exact ⟨xs, rfl, h.1, h.2⟩
  | _ => cases h
theorem ok_tup {n : Nat} {xs : List D} (h : ok n (.tuple xs)) {x : D} (hx : x ∈ xs) : ok (n - 1) x := by
  cases n with
  | zero => exact h.elim
  | succ n => exact h x hx
theorem r16 {v : D} {n : Nat} (hn : n ≤ 60) (hv : ok n v) (q : Q (.d (.bool (imgS v))) st) : (callRaw G W (k + 6) 16 [.d v] st).wp Q := by
  refine call_by (F := f16) rfl rfl ?_
  show (exSs G W _ _ b16 [some (.d v), none, none, none, none] st).wp _
  unfold b16
  get_elem_tactic_trivial
  rw [p2]
  have no : tupN 3 v = false → Q (.d (.bool false)) st := by
    intro h
    have : imgS v = false := by
      unfold imgS
      split
      · exact absurd h (by simp [tupN])
      · rfl
    rw [this] at q; exact q
  cases h3 : tupN 3 v with
  | false => exact no h3
  | true =>
    get_elem_tactic_trivial
    have : ∃ a b c, v = .tuple [a, b, c] := by
      cases v with
      | tuple xs =>
        have h : xs.length = 3 := by simp only [tupN, decide_eq_true_eq] at h3; omega
        match xs, h with
        | [a, b, c], _ => exact ⟨a, b, c, rfl⟩
      | _ => cases h3
    obtain ⟨a, b, c, rfl⟩ := this
    get_elem_tactic_trivial
    rw [p14]
    simp only [imgS] at q
    cases h4 : sizesS a with
    | false => rw [h4] at q; exact q
    | true =>
      get_elem_tactic_trivial
      rw [p15]
      cases h5 : countS c with
      | false => rw [h5, Bool.and_false, Bool.false_and] at q; exact q
      | true =>
        rw [h4, h5, Bool.and_self, Bool.true_and] at q
        get_elem_tactic_trivial
        simp only [List.map_cons, List.map_nil]
        get_elem_tactic_trivial
        obtain ⟨ss, rfl, l1⟩ := sizes_tup h4
        obtain ⟨rs, rfl, l2, l3⟩ := count_tup h5
        get_elem_tactic_trivial
        rw [p1]
        simp only [itemsD] at q
        cases h6 : numS 0 (rs.length - 1) b with
        | false => rw [h6, Bool.false_and] at q; exact q
        | true =>
          rw [h6, Bool.true_and] at q
          get_elem_tactic_trivial
          rw [r_comp]
          get_elem_tactic_trivial
          refine all_on (rowS ss.length rs.length) (by unfold sizeMax; omega) (fun z hz Q q => ?_) q
          rw [turn_wp rfl]
          unfold compQ
          simp only [wipeE, setE, setEs, List.set_cons_succ, List.set_cons_zero, List.map_cons, List.map_nil]
          get_elem_tactic_trivial
          rw [p13 (n := n - 1 - 1) (by omega) (ok_tup (ok_tup hv (x := .tuple rs) (by simp)) hz)]
          exact q
theorem p16 {v : D} {n : Nat} (hn : n ≤ 60) (hv : ok n v) : (callU G (cpK G W (k + 6)) (cmK G W (k + 6)) 16 [.d v] st).wp Q = Q (.d (.bool (imgS v))) st := pure_eq (F := f16) rfl rfl rfl fun Q q => r16 hn hv q
theorem r21 {v : D} {n : Nat} (hn : n ≤ 60) (hv : ok n v) (q : Q (.d (.bool (imgS v))) st) : (callRaw G W (k + 7) 21 [.d v] st).wp Q := by
  refine call_by (F := f21) rfl rfl ?_
  show (exSs G W _ _ b21 [some (.d v)] st).wp _
  unfold b21
  get_elem_tactic_trivial
  rw [p16 hn hv]
  exact q
theorem p21 {v : D} {n : Nat} (hn : n ≤ 60) (hv : ok n v) : (callU G (cpK G W (k + 7)) (cmK G W (k + 7)) 21 [.d v] st).wp Q = Q (.d (.bool (imgS v))) st := pure_eq (F := f21) rfl rfl rfl fun Q q => r21 hn hv q
/-! the law's -/
theorem r44 (x : D) (q : Q (.d (.bool (numS 1 16 x))) st) : (callRaw G W (k + 2) 44 [.d x] st).wp Q := by
  refine call_by (F := f44) rfl rfl ?_
  show (exSs G W _ _ (.cons (.ret el0) .nil) [some (.d x)] st).wp _
  unfold el0
  get_elem_tactic_trivial
  rw [p29]
  exact q
theorem p44 (x : D) : (callU G (cpK G W (k + 2)) (cmK G W (k + 2)) 44 [.d x] st).wp Q = Q (.d (.bool (numS 1 16 x))) st := pure_eq (F := f44) rfl rfl rfl fun Q q => r44 x q
theorem callF_lam {us : List U} : callF G (cpK G W k) (cmK G W k) (.lam 0) us st = callU G (cpK G W k) (cmK G W k) 44 us st := rfl
theorem okF_lam : okF G (.lam 0) = true := rfl
theorem r30 {v : D} {n : Nat} (hn : n ≤ 60) (hv : ok n v) (q : Q (.d (.bool (sizesS v))) st) : (callRaw G W (k + 3) 30 [.d v, .d (.int 0), .d (.int 4), .f (.lam 0)] st).wp Q := by
  refine call_by (F := f30) rfl rfl ?_
  show (exSs G W _ _ b30 [some (.d v), some (.d (.int 0)), some (.d (.int 4)), some (.f (.lam 0)), none] st).wp _
  unfold b30
  get_elem_tactic_trivial
  cases v with
  | tuple xs =>
    simp only [tupB]
    get_elem_tactic_trivial
    simp only [sizesS] at q
    refine ⟨fun h => ?_, fun h => absurd (show (0 : Int) ≤ xs.length by omega) h⟩
    refine ⟨fun h => ?_, fun h => ?_⟩
    · rw [decide_eq_true (show xs.length ≤ 4 by omega), Bool.true_and] at q
      rw [r_comp]
      get_elem_tactic_trivial
      refine filter_on (f := fun x => x) (fun x => !numS 1 16 x) (by unfold sizeMax; omega) (fun z hz Q q => ?_) ?_
      · rw [turn_wp rfl]
        unfold compQ
        simp only [wipeE, setE, setEs, List.set_cons_succ, List.set_cons_zero, List.map_cons, List.map_nil]
        get_elem_tactic_trivial
        rw [callF_lam, p44]
        refine ⟨okF_lam, ?_⟩
        get_elem_tactic_trivial
        cases h : numS 1 16 z
        · rw [h] at q; exact q
        · rw [h] at q; exact q
      · rw [toDs_map]
        get_elem_tactic_trivial
        refine eq_sh (ok_shaped (n := n) hn ?_) (by decide) ?_
        · cases n with
          | zero => exact hv.elim
          | succ n =>
            intro x hx
            rw [List.map_id'] at hx
            exact hv x (List.mem_filter.mp hx).1
        · rw [eqv_nilL, isE_filter]
          exact q
    · rw [decide_eq_false (show ¬ xs.length ≤ 4 by omega)] at q; exact q
  | _ => exact q
theorem m30 {v : D} {n : Nat} (hn : n ≤ 60) (hv : ok n v) (q : Q (.d (.bool (sizesS v))) st) : (callU G (cpK G W (k + 3)) (cmK G W (k + 3)) 30 [.d v, .d (.int 0), .d (.int 4), .f (.lam 0)] st).wp Q :=
  mut_wp (F := f30) rfl rfl (r30 hn hv ⟨rfl, q⟩)
theorem r33 {v : D} {n : Nat} (hn : n ≤ 60) (hv : ok n v) (q : Q (.d (.bool (imgS v))) st) : (callRaw G W (k + 4) 33 [.d v] st).wp Q := by
  refine call_by (F := f33) rfl rfl ?_
  show (exSs G W _ _ b33 [some (.d v), none, none] st).wp _
  unfold b33
  get_elem_tactic_trivial
  cases v with
  | tuple xs =>
    simp only [tupB]
    get_elem_tactic_trivial
    refine ⟨fun h3 => ?_, fun h3 => ?_⟩
    · have h : xs.length = 3 := by omega
      match xs, h with
      | [a, b, c], _ =>
        simp only [at3_0, at3_1, at3_2]
        get_elem_tactic_trivial
        simp only [imgS] at q
        cases c with
        | tuple rs =>
          simp only [tupB]
          get_elem_tactic_trivial
          refine m30 (n := n - 1) (by omega) (ok_tup hv (x := a) (by simp)) ?_
          cases h4 : sizesS a with
          | false => rw [h4] at q; exact q
          | true =>
            rw [h4, Bool.true_and] at q
            get_elem_tactic_trivial
            simp only [countS, itemsD] at q
            obtain ⟨ss, rfl, l1⟩ := sizes_tup h4
            refine ⟨fun h5 => ?_, fun h5 => ?_⟩
            · rw [decide_eq_true (show 1 ≤ rs.length by omega), Bool.true_and] at q
              refine ⟨fun h6 => ?_, fun h6 => ?_⟩
              · rw [decide_eq_true (show rs.length ≤ 4000 by omega), Bool.true_and] at q
                rw [p29]
                cases h6 : numS 0 (rs.length - 1) b with
                | false => rw [h6, Bool.false_and] at q; exact q
                | true =>
                  rw [h6, Bool.true_and] at q
                  get_elem_tactic_trivial
                  rw [r_comp]
                  get_elem_tactic_trivial
                  refine filter_on (f := fun x => x) (fun x => !rowS ss.length rs.length x) (by unfold sizeMax; omega) (fun z hz Q q => ?_) ?_
                  · rw [turn_wp rfl]
                    unfold compQ
                    simp only [wipeE, setE, setEs, List.set_cons_succ, List.set_cons_zero, List.map_cons, List.map_nil]
                    get_elem_tactic_trivial
                    have hz2 : ok (n - 1 - 1) z := ok_tup (ok_tup hv (x := .tuple rs) (by simp)) hz
                    rw [p32 (n := n - 1 - 1) (by omega) hz2, ← row_same]
                    get_elem_tactic_trivial
                    cases h : rowS ss.length rs.length z
                    · rw [h] at q; exact q
                    · rw [h] at q; exact q
                  · rw [toDs_map]
                    get_elem_tactic_trivial
                    have hr : ok (n - 1) (.tuple rs) := ok_tup hv (by simp)
                    refine eq_sh (ok_shaped (n := n - 1) (by omega) ?_) (by decide) ?_
                    · cases hn1 : n - 1 with
                      | zero => rw [hn1] at hr; exact hr.elim
                      | succ m =>
                        rw [hn1] at hr
                        intro x hx
                        rw [List.map_id'] at hx
                        exact hr x (List.mem_filter.mp hx).1
                    · rw [eqv_nilL, isE_filter]
                      exact q
              · rw [decide_eq_false (show ¬ rs.length ≤ 4000 by omega)] at q; exact q
            · rw [decide_eq_false (show ¬ 1 ≤ rs.length by omega)] at q; exact q
        | _ =>
          rw [show countS _ = false from rfl, Bool.and_false, Bool.false_and] at q
          exact q
    · have : imgS (.tuple xs) = false := by
        unfold imgS
        split
        · rename_i e; injection e with e; subst e; exact absurd rfl h3
        · rfl
      rw [this] at q; exact q
  | _ => exact q
theorem p33 {v : D} {n : Nat} (hn : n ≤ 60) (hv : ok n v) : (callU G (cpK G W (k + 4)) (cmK G W (k + 4)) 33 [.d v] st).wp Q = Q (.d (.bool (imgS v))) st := pure_eq (F := f33) rfl rfl rfl fun Q q => r33 hn hv q
end K34
end

section
set_option maxRecDepth 100000
set_option autoImplicit false
namespace K34
open Ev PySem
/-- the evaluator's steps -/
local macro_rules | `(tactic| get_elem_tactic_trivial) => `(tactic| simp only [wps_cons, wps_nil, wp_ok, r_int, r_str, r_bool, r_none, r_var, r_bin, r_neg, r_not, r_cmp, r_chain, r_and, r_or, r_ite, r_tup, r_lst, r_alloc, r_alloc0, r_ix, r_call, r_callK, r_bcall, r_isty, r_meth0, r_meth1, r_dict, r_slice, r_rep, r_nil, r_cons, r_lam, r_fnv, r_callV, r_dm, r_isn, r_catM, r_tupX, r_trip, r_weak, r_tix, s_pass, s_ret, s_retN, s_asg, s_asgS, s_sub, s_tup, s_tgs0, s_tgs, s_tgN, s_par, s_par3, s_ex, s_aug, s_if, s_for, s_brk, s_cnt,
  var_0, var_s, fun_0, fun_s, tst_t, tst_f, tst_d, tst_n, neg_i, not_b, bin_add, bin_sub, bin_mul, bin_fdiv, bin_mod, bin_pow, bin_str, bin_lst, bin_tup, cmp_lt, cmp_le, cmp_gt, cmp_ge, cmp_eqI, cmp_neI, cmp_eqS, cmp_neS, cmp_eqB, cmp_is, cmp_isn, cmp_isB, cmp_isnB, cmp_inT, cmp_inL, cmp_ninT, cmp_ninL, cmp_inS, cmp_ninS, ty_d, ty_int, ty_bool, ty_str, ty_tup, unt_t, aug_0, aug_s, augr_add, augr_sub, opt_some, opt_map, opt_if, set_0, set_s, tupQ, toDs, Option.map_some, Option.map_none,
  wp_bind, part_0, part_1, sl_list, sl_tuple, sl_map, wk_list, wk_tuple, walk_r1, walk_r2, at1_0, at2_0, at2_1, at3_0, at3_1, at3_2, ix_list, ix_tuple, bf_int, bf_intB, bf_abs, bf_lenL, bf_lenT, bf_max, bf_min, divmod_wp, bf_repr, len_str, bf_tupL,
  str_eq, String.reduceEq, mem_str, mem_nil, flat_str, flat_int, List.all_cons, List.all_nil, Bool.and_self, Bool.or_false, decide_true, decide_false, not_true, not_false_eq_true, true_and, and_true, true_implies, false_implies, implies_true, Bool.not_true, Bool.not_false, Bool.false_or, Bool.true_or, Bool.or_true, Bool.not_not, List.length_cons, List.length_nil, sizeMax, Nat.reduceAdd, Nat.reduceLeDiff, ne_eq, pick, List.getElem?_cons_zero, List.getElem?_cons_succ,
  r_glob c0, r_glob c1, r_glob c2, r_glob c3, r_glob c4, r_glob c5, r_glob c6, r_glob c7, r_glob c8, r_glob c9, r_glob c10, r_glob c11, r_glob c12, r_glob c13, r_glob c14, r_glob c15, r_glob c16, r_glob c17, r_glob c18, r_glob c19, r_glob c20])
variable {W k : Nat} {st : Store} {Q : U → Store → Prop}
/-! ### parts -/
def headS : D → Str
  | .tuple (.str w :: _) => w
  | _ => ""
def callName : D → Bool
  | .tuple [.str w, x] => decide (w = "call") && nameS x
  | _ => false
def isCall : D → Bool
  | .tuple [.str w, _] => decide (w = "call")
  | _ => false
def secD : D → D
  | .tuple (_ :: x :: _) => x
  | _ => .none
/-- a row with a word ahead -/
def Headed (v : D) : Prop := ∃ w xs, v = .tuple (.str w :: xs)
theorem callF_def {us : List U} : callF G (cpK G W k) (cmK G W k) (.def_ 4 "is_plain_name") us st = callU G (cpK G W k) (cmK G W k) 4 us st := rfl
theorem okF_def : okF G (.def_ 4 "is_plain_name") = true := by decide +kernel
theorem r17 {v : D} {n : Nat} (hv : ok n v) (q : Q (.d (.bool (callName v))) st) : (callRaw G W (k + 3) 17 [.d v, .f (.def_ 4 "is_plain_name")] st).wp Q := by
  refine call_by (F := f17) rfl rfl ?_
  show (exSs G W _ _ b17 [some (.d v), some (.f (.def_ 4 "is_plain_name"))] st).wp _
  unfold b17
  get_elem_tactic_trivial
  rw [p2]
  cases h2 : tupN 2 v with
  | false =>
    have : callName v = false := by
      unfold callName
      split
      · exact absurd h2 (by simp [tupN])
      · rfl
    rw [this] at q; exact q
  | true =>
    have : ∃ a b, v = .tuple [a, b] := by
      cases v with
      | tuple xs =>
        have h : xs.length = 2 := by simp only [tupN, decide_eq_true_eq] at h2; omega
        match xs, h with
        | [a, b], _ => exact ⟨a, b, rfl⟩
      | _ => cases h2
    obtain ⟨a, b, rfl⟩ := this
    get_elem_tactic_trivial
    cases a with
    | str w =>
      simp only [strB]
      get_elem_tactic_trivial
      simp only [callName] at q
      refine ⟨fun h => ?_, fun h => ?_⟩
      · rw [decide_eq_true h, Bool.true_and] at q
        have hb : ok (n - 1) b := ok_tup hv (by simp)
        cases b with
        | str t =>
          simp only [strB]
          get_elem_tactic_trivial
          rw [callF_def, p4 hb]
          exact ⟨okF_def, q⟩
        | _ => exact q
      · rw [decide_eq_false h] at q; exact q
    | _ => exact q
theorem m17 {v : D} {n : Nat} (hv : ok n v) (q : Q (.d (.bool (callName v))) st) : (callU G (cpK G W (k + 3)) (cmK G W (k + 3)) 17 [.d v, .f (.def_ 4 "is_plain_name")] st).wp Q :=
  mut_wp (F := f17) rfl rfl (r17 hv ⟨rfl, q⟩)
def rowP (mn : Int) (v : D) : Bool := callName v || (rowS 4 mn v && !decide (headS v = "call"))
theorem row_headed {sh mn : Int} {v : D} (h : rowS sh mn v = true) : Headed v := by
  unfold rowS at h
  split at h
  · exact ⟨_, _, rfl⟩
  · cases h
theorem callName_headed {v : D} (h : callName v = true) : Headed v := by
  unfold callName at h
  split at h
  · exact ⟨_, _, rfl⟩
  · cases h
theorem rowP_headed {mn : Int} {v : D} (h : rowP mn v = true) : Headed v := by
  unfold rowP at h
  rw [Bool.or_eq_true, Bool.and_eq_true] at h
  rcases h with h | ⟨h, _⟩
  · exact callName_headed h
  · exact row_headed h
theorem r19 {v : D} {n : Nat} (hn : n ≤ 60) (hv : ok n v) (mn : Int) (q : Q (.d (.bool (rowP mn v))) st) : (callRaw G W (k + 6) 19 [.d v, .d (.int mn), .f (.def_ 4 "is_plain_name")] st).wp Q := by
  refine call_by (F := f19) rfl rfl ?_
  show (exSs G W _ _ b19 [some (.d v), some (.d (.int mn)), some (.f (.def_ 4 "is_plain_name"))] st).wp _
  unfold b19
  get_elem_tactic_trivial
  refine m17 (k := k + 2) hv ?_
  unfold rowP at q
  cases h : callName v with
  | true => rw [h] at q; exact q
  | false =>
    rw [h, Bool.false_or] at q
    get_elem_tactic_trivial
    rw [p13 hn hv]
    cases h2 : rowS 4 mn v with
    | false => rw [h2] at q; exact q
    | true =>
      rw [h2, Bool.true_and] at q
      obtain ⟨w, xs, rfl⟩ := row_headed h2
      get_elem_tactic_trivial
      simp only [at_0]
      get_elem_tactic_trivial
      exact q
theorem m19 {v : D} {n : Nat} (hn : n ≤ 60) (hv : ok n v) (mn : Int) (q : Q (.d (.bool (rowP mn v))) st) : (callU G (cpK G W (k + 6)) (cmK G W (k + 6)) 19 [.d v, .d (.int mn), .f (.def_ 4 "is_plain_name")] st).wp Q :=
  mut_wp (F := f19) rfl rfl (r19 hn hv mn ⟨rfl, q⟩)
def backsN (rs : List D) : Nat := rs.countP fun r => decide (headS r = "back")
def lastS (rs : List D) : Str := headS (rs.getLast?.getD .none)
def endS (t : Str) (rs : List D) : Bool := if t = "crowd" then decide (backsN rs = 0) && decide (lastS rs = "stop") else decide (backsN rs = 1) && decide (lastS rs = "back")
theorem at_last {α : Type} (xs : List α) (h : xs ≠ []) : L2.atI xs (-1) = some (xs.getLast h) := by
  have hl : 0 < xs.length := List.length_pos_iff.mpr h
  have e : L2.ixN xs.length (-1) = some (xs.length - 1) := by
    unfold L2.ixN
    simp
    omega
  unfold L2.atI
  rw [e]
  simp [List.getLast_eq_getElem]
theorem at_lastH {rs : List D} (h1 : 1 ≤ rs.length) (hh : ∀ r ∈ rs, Headed r) : ∃ w xs, L2.atI rs (-1) = some (.tuple (.str w :: xs)) ∧ lastS rs = w := by
  have h : rs ≠ [] := fun e => by rw [e] at h1; exact absurd h1 (by decide)
  obtain ⟨w, xs, e⟩ := hh _ (List.getLast_mem h)
  refine ⟨w, xs, by rw [at_last rs h, e], ?_⟩
  unfold lastS
  rw [List.getLast?_eq_some_getLast h, Option.getD_some, e]
  rfl
theorem r18 {t : Str} {rs : List D} (h1 : 1 ≤ rs.length) (h2 : rs.length ≤ 4000) (hh : ∀ r ∈ rs, Headed r) (q : Q (.d (.bool (endS t rs))) st) : (callRaw G W (k + 1) 18 [.d (.str t), .d (.tuple rs)] st).wp Q := by
  refine call_by (F := f18) rfl rfl ?_
  show (exSs G W _ _ b18 [some (.d (.str t)), some (.d (.tuple rs)), none, none] st).wp _
  unfold b18
  get_elem_tactic_trivial
  rw [r_comp]
  get_elem_tactic_trivial
  refine pick_on (f := U.d) (fun r => decide (headS r = "back")) (fun _ => .int 1) (by unfold sizeMax; omega) (fun z hz Q q => ?_) ?_
  · obtain ⟨w, xs, rfl⟩ := hh z hz
    rw [turn_wp rfl]
    unfold compQ
    simp only [wipeE, setE, setEs, List.set_cons_succ, List.set_cons_zero, List.map_cons, List.map_nil]
    get_elem_tactic_trivial
    simp only [at_0]
    get_elem_tactic_trivial
    have q : Q (if decide (w = "back") = true then some (.d (.int 1)) else none) st := q
    refine ⟨fun h => ?_, fun h => ?_⟩
    · rw [decide_eq_true h] at q; exact q
    · rw [decide_eq_false h] at q; exact q
  · rw [toDs_map]
    get_elem_tactic_trivial
    obtain ⟨w, xs, e1, e2⟩ := at_lastH h1 hh
    rw [List.length_map, ← List.countP_eq_length_filter]
    simp only [e1]
    get_elem_tactic_trivial
    simp only [at_0]
    get_elem_tactic_trivial
    unfold endS at q
    rw [e2] at q
    show (t = "crowd" → _) ∧ (¬ t = "crowd" → _)
    have e0 : ∀ m : Nat, (((backsN rs : Nat) : Int) = (m : Int)) = (backsN rs = m) := fun m => by rw [Int.ofNat_inj]
    refine ⟨fun h => ?_, fun h => ?_⟩
    · rw [if_pos h] at q
      refine ⟨fun h => ?_, fun h => ?_⟩
      · rw [decide_eq_true (show backsN rs = 0 from Int.ofNat_inj.mp h), Bool.true_and] at q; exact q
      · rw [decide_eq_false (show ¬ backsN rs = 0 from fun z => h (Int.ofNat_inj.mpr z)), Bool.false_and] at q; exact q
    · rw [if_neg h] at q
      refine ⟨fun h => ?_, fun h => ?_⟩
      · rw [decide_eq_true (show backsN rs = 1 from Int.ofNat_inj.mp h), Bool.true_and] at q; exact q
      · rw [decide_eq_false (show ¬ backsN rs = 1 from fun z => h (Int.ofNat_inj.mpr z)), Bool.false_and] at q; exact q
theorem p18 {t : Str} {rs : List D} (h1 : 1 ≤ rs.length) (h2 : rs.length ≤ 4000) (hh : ∀ r ∈ rs, Headed r) : (callU G (cpK G W (k + 1)) (cmK G W (k + 1)) 18 [.d (.str t), .d (.tuple rs)] st).wp Q = Q (.d (.bool (endS t rs))) st := pure_eq (F := f18) rfl rfl rfl fun Q q => r18 h1 h2 hh q
def prtS : D → Bool
  | .tuple [.str t, r] => countS r && ((decide (t = "crowd") || nameS (.str t)) && ((itemsD r).all (rowP (itemsD r).length) && endS t (itemsD r)))
  | _ => false
theorem r20 {v : D} {n : Nat} (hn : n ≤ 60) (hv : ok n v) (q : Q (.d (.bool (prtS v))) st) : (callRaw G W (k + 7) 20 [.d v, .f (.def_ 4 "is_plain_name")] st).wp Q := by
  refine call_by (F := f20) rfl rfl ?_
  show (exSs G W _ _ b20 [some (.d v), some (.f (.def_ 4 "is_plain_name")), none, none, none] st).wp _
  unfold b20
  get_elem_tactic_trivial
  rw [p2]
  cases h2 : tupN 2 v with
  | false =>
    have : prtS v = false := by
      unfold prtS
      split
      · exact absurd h2 (by simp [tupN])
      · rfl
    rw [this] at q; exact q
  | true =>
    have : ∃ a b, v = .tuple [a, b] := by
      cases v with
      | tuple xs =>
        have h : xs.length = 2 := by simp only [tupN, decide_eq_true_eq] at h2; omega
        match xs, h with
        | [a, b], _ => exact ⟨a, b, rfl⟩
      | _ => cases h2
    obtain ⟨a, b, rfl⟩ := this
    get_elem_tactic_trivial
    cases a with
    | str t =>
      simp only [strB]
      get_elem_tactic_trivial
      rw [p15]
      simp only [prtS] at q
      cases h5 : countS b with
      | false => rw [h5, Bool.false_and] at q; exact q
      | true =>
        rw [h5, Bool.true_and] at q
        get_elem_tactic_trivial
        simp only [List.map_cons, List.map_nil]
        get_elem_tactic_trivial
        obtain ⟨rs, rfl, l2, l3⟩ := count_tup h5
        simp only [itemsD] at q
        have rest : (decide (t = "crowd") || nameS (.str t)) = true → (evE G (cpK G W (k + 6)) (cmK G W (k + 6)) (.comp false (.call 19 (.cons (.var 4) (.cons (.bcall .len (.cons (.var 3) .nil)) (.cons (.var 1) .nil)))) (.one 4) .val (.cons (.var 3) .nil) .nil [4]) [some (.d (.tuple [.str t, .tuple rs])), some (.f (.def_ 4 "is_plain_name")), some (.d (.str t)), some (.d (.tuple rs)), none] st).wp fun x s => (bfD .all [x] s).wp fun x st1 => notQ x fun z => tstQ z (Q (.d (.bool false)) st1) ((callU G (cpK G W (k + 6)) (cmK G W (k + 6)) 18 [.d (.str t), .d (.tuple rs)] st1).wp Q) := by
          intro ht
          rw [ht, Bool.true_and] at q
          rw [r_comp]
          get_elem_tactic_trivial
          refine all_on (rowP rs.length) (by unfold sizeMax; omega) (fun z hz Q q => ?_) ?_
          · rw [turn_wp rfl]
            unfold compQ
            simp only [wipeE, setE, setEs, List.set_cons_succ, List.set_cons_zero, List.map_cons, List.map_nil]
            get_elem_tactic_trivial
            refine m19 (n := n - 1 - 1) (by omega) (ok_tup (ok_tup hv (x := .tuple rs) (by simp)) hz) _ ?_
            exact q
          · cases h : rs.all (rowP rs.length) with
            | false => rw [h] at q; exact q
            | true =>
              rw [h, Bool.true_and] at q
              get_elem_tactic_trivial
              rw [p18 l2 l3 fun r hr => rowP_headed (List.all_eq_true.mp h r hr)]
              exact q
        refine ⟨fun h => rest (by rw [decide_eq_true h]; rfl), fun h => ⟨okF_def, ?_⟩⟩
        rw [callF_def, p4 (k := k + 4) (ok_tup hv (x := .str t) (by simp))]
        cases h7 : nameS (.str t) with
        | true => exact rest (by rw [h7, Bool.or_true])
        | false => rw [h7, decide_eq_false h] at q; exact q
    | _ => exact q
theorem m20 {v : D} {n : Nat} (hn : n ≤ 60) (hv : ok n v) (q : Q (.d (.bool (prtS v))) st) : (callU G (cpK G W (k + 7)) (cmK G W (k + 7)) 20 [.d v, .f (.def_ 4 "is_plain_name")] st).wp Q :=
  mut_wp (F := f20) rfl rfl (r20 hn hv ⟨rfl, q⟩)
theorem r22 {v : D} {n : Nat} (hn : n ≤ 60) (hv : ok n v) (q : Q (.d (.bool (prtS v))) st) : (callRaw G W (k + 8) 22 [.d v] st).wp Q := by
  refine call_by (F := f22) rfl rfl ?_
  show (exSs G W _ _ b22 [some (.d v)] st).wp _
  unfold b22
  get_elem_tactic_trivial
  exact m20 hn hv q
theorem p22 {v : D} {n : Nat} (hn : n ≤ 60) (hv : ok n v) : (callU G (cpK G W (k + 8)) (cmK G W (k + 8)) 22 [.d v] st).wp Q = Q (.d (.bool (prtS v))) st := pure_eq (F := f22) rfl rfl rfl fun Q q => r22 hn hv q
end K34
end

section
set_option maxRecDepth 100000
set_option autoImplicit false
namespace K34
open Ev PySem
/-- the evaluator's steps -/
local macro_rules | `(tactic| get_elem_tactic_trivial) => `(tactic| simp only [wps_cons, wps_nil, wp_ok, r_int, r_str, r_bool, r_none, r_var, r_bin, r_neg, r_not, r_cmp, r_chain, r_and, r_or, r_ite, r_tup, r_lst, r_alloc, r_alloc0, r_ix, r_call, r_callK, r_bcall, r_isty, r_meth0, r_meth1, r_dict, r_slice, r_rep, r_nil, r_cons, r_lam, r_fnv, r_callV, r_dm, r_isn, r_catM, r_tupX, r_trip, r_weak, r_tix, s_pass, s_ret, s_retN, s_asg, s_asgS, s_sub, s_tup, s_tgs0, s_tgs, s_tgN, s_par, s_par3, s_ex, s_aug, s_if, s_for, s_brk, s_cnt,
  var_0, var_s, fun_0, fun_s, tst_t, tst_f, tst_d, tst_n, neg_i, not_b, bin_add, bin_sub, bin_mul, bin_fdiv, bin_mod, bin_pow, bin_str, bin_lst, bin_tup, cmp_lt, cmp_le, cmp_gt, cmp_ge, cmp_eqI, cmp_neI, cmp_eqS, cmp_neS, cmp_eqB, cmp_is, cmp_isn, cmp_isB, cmp_isnB, cmp_inT, cmp_inL, cmp_ninT, cmp_ninL, cmp_inS, cmp_ninS, ty_d, ty_int, ty_bool, ty_str, ty_tup, unt_t, aug_0, aug_s, augr_add, augr_sub, opt_some, opt_map, opt_if, set_0, set_s, tupQ, toDs, Option.map_some, Option.map_none,
  wp_bind, part_0, part_1, sl_list, sl_tuple, sl_map, wk_list, wk_tuple, walk_r1, walk_r2, at1_0, at2_0, at2_1, at3_0, at3_1, at3_2, ix_list, ix_tuple, bf_int, bf_intB, bf_abs, bf_lenL, bf_lenT, bf_max, bf_min, divmod_wp, bf_repr, len_str, bf_tupL,
  str_eq, String.reduceEq, mem_str, mem_nil, flat_str, flat_int, List.all_cons, List.all_nil, Bool.and_self, Bool.or_false, decide_true, decide_false, not_true, not_false_eq_true, true_and, and_true, true_implies, false_implies, implies_true, Bool.not_true, Bool.not_false, Bool.false_or, Bool.true_or, Bool.or_true, Bool.not_not, List.length_cons, List.length_nil, sizeMax, Nat.reduceAdd, Nat.reduceLeDiff, ne_eq, pick, List.getElem?_cons_zero, List.getElem?_cons_succ,
  r_glob c0, r_glob c1, r_glob c2, r_glob c3, r_glob c4, r_glob c5, r_glob c6, r_glob c7, r_glob c8, r_glob c9, r_glob c10, r_glob c11, r_glob c12, r_glob c13, r_glob c14, r_glob c15, r_glob c16, r_glob c17, r_glob c18, r_glob c19, r_glob c20])
variable {W k : Nat} {st : Store} {Q : U → Store → Prop}
/-! ### parts: the law -/
theorem s_freeze {i n : Nat} {ε : Ev.Env} {us : List U} {ds : List D} {cp : Nat → List D → R D} {cm : Nat → List U → Store → R U} {D : Out} (h1 : ε[i]? = some (some (.m n))) (h2 : st[n]? = some (.lst us)) (h3 : toDs us = some ds) : (exS G W cp cm (.freeze i) ε st).wp D = D.nx (setE i (.d (.list ds)) ε) (st.set n .dead) := by
  rw [exS, h1]
  simp only [h2, h3]
  rfl
theorem for_acc {α : Type} {f : α → U} {set : U → Ev.Env → Option Ev.Env} {body : Ev.Env → Store → RS} {D : Out} {tot : List α} (g : α → Bool) (I : List α → Ev.Env → Store → Prop) (s1 : ∀ done x rest, tot = done ++ x :: rest → g x = true → ∀ ε s, I done ε s → ∃ ε1, set (f x) ε = some ε1 ∧ (body ε1 s).wp { D with nx := I (done ++ [x]), ct := I (done ++ [x]), bk := fun _ _ => False }) (s2 : ∀ done x rest, tot = done ++ x :: rest → g x = false → ∀ ε s, I done ε s → ∃ ε1, set (f x) ε = some ε1 ∧ (body ε1 s).wp { rt := D.rt }) (fin : tot.all g = true → ∀ ε s, I tot ε s → D.nx ε s) : ∀ {xs done : List α}, tot = done ++ xs → done.all g = true → ∀ {ε : Ev.Env} {s : Store}, I done ε s → (forLoop set body (xs.map f) ε s).wp D
  | [], done, e0, hd, ε, s, h => by
    rw [List.append_nil] at e0
    subst e0
    exact fin hd ε s h
  | x :: xs, done, e0, hd, ε, s, h => by
    rw [List.map_cons]
    cases e : g x with
    | false =>
      obtain ⟨ε1, e1, b⟩ := s2 done x xs e0 e ε s h
      exact for_ret e1 b
    | true =>
      obtain ⟨ε1, e1, b⟩ := s1 done x xs e0 e ε s h
      unfold forLoop
      rw [e1]
      simp only
      have go : ∀ ε2 s, I (done ++ [x]) ε2 s → (forLoop set body (xs.map f) ε2 s).wp D := fun ε2 s h2 => for_acc g I s1 s2 fin (done := done ++ [x]) (by rw [List.append_assoc]; exact e0) (by rw [List.all_append, hd, List.all_cons, e]; rfl) h2
      cases r : body ε1 s with
      | nx ε2 s => rw [r] at b; exact go _ _ b
      | cnt ε2 s => rw [r] at b; exact go _ _ b
      | brk ε2 s => rw [r] at b; exact b.elim
      | ret => rw [r] at b; exact b
      | exc => rw [r] at b; exact b
      | stuck => rw [r] at b; exact b
def rowL (mn : Int) (v : D) : Bool := if isCall v then nameS (secD v) else lrowS 4 mn v
theorem isCall_form {v : D} (h : isCall v = true) : ∃ x, v = .tuple [.str "call", x] := by
  unfold isCall at h
  split at h
  · rename_i w x
    have := of_decide_eq_true h
    subst this
    exact ⟨x, rfl⟩
  · cases h
theorem call_len {mn : Int} {xs : List D} (h : rowS 4 mn (.tuple (.str "call" :: xs)) = true) : xs.length = 1 := by
  unfold rowS at h
  simp only at h
  have e : lookS tabP "call" = some "l" := by decide +kernel
  rw [e] at h
  simp only [Bool.and_eq_true, decide_eq_true_eq] at h
  have := h.1.1
  rw [this]
  decide +kernel
theorem rowP_eq (mn : Int) (v : D) : rowP mn v = rowL mn v := by
  unfold rowL rowP
  cases h : isCall v with
  | true =>
    obtain ⟨x, rfl⟩ := isCall_form h
    simp [callName, headS, secD]
  | false =>
    have h1 : callName v = false := by
      unfold callName
      split
      · rename_i w x
        have : decide (w = "call") = false := h
        rw [this]; rfl
      · rfl
    rw [h1, Bool.false_or, ← row_same]
    simp only [Bool.false_eq_true, if_false]
    cases h2 : rowS 4 mn v with
    | false => rfl
    | true =>
      rw [Bool.true_and]
      obtain ⟨w, xs, rfl⟩ := row_headed h2
      by_cases hw : w = "call"
      · subst hw
        have := call_len h2
        match xs, this with
        | [x], _ => exact absurd h (by simp [isCall])
      · show (!decide (w = "call")) = true
        rw [decide_eq_false hw]; rfl
section
variable {x0 x1 x2 x4 : Option U} {r : List (Option U)} {cp : Nat → List D → R D} {cm : Nat → List U → Store → R U}
theorem is_call_wp (z : D) (q : Q (.d (.bool (isCall z))) st) : (evE G cp cm (.and_ (.isty .tuple (.var 3)) (.and_ (.cmp .Eq (.bcall .len (.cons (.var 3) .nil)) (.con (.int 2))) (.and_ (.isty .str (.ix (.var 3) (.con (.int 0)))) (.cmp .Eq (.ix (.var 3) (.con (.int 0))) (.con (.str "call")))))) (x0 :: x1 :: x2 :: some (.d z) :: x4 :: r) st).wp Q := by
  get_elem_tactic_trivial
  cases z with
  | tuple xs =>
    simp only [tupB]
    get_elem_tactic_trivial
    refine ⟨fun h => ?_, fun h => ?_⟩
    · have h : xs.length = 2 := by omega
      match xs, h with
      | [a, b], _ =>
        simp only [at2_0]
        get_elem_tactic_trivial
        cases a with
        | str w =>
          simp only [strB]
          get_elem_tactic_trivial
          exact q
        | _ => exact q
    · have : isCall (.tuple xs) = false := by
        unfold isCall
        split
        · rename_i e; injection e with e; subst e; exact absurd rfl h
        · rfl
      rw [this] at q; exact q
  | _ => exact q
end
theorem turn40 {n : Nat} (hn : n ≤ 60) {v z : D} (hz : ok n z) {mn : Int} {acc : List U} {x4 : Option U} {D : Out} (ha : acc.length < 4000)
    (q1 : rowP mn z = true → D.nx [some (.d v), some (.d (.int mn)), some (.m 0), some (.d z), some (.d (.bool (isCall z)))] [.lst (acc ++ [.d (.str (headS z))])])
    (q2 : rowP mn z = false → ∀ s, D.rt (.d (.bool false)) s) :
    (exSs G W (cpK G W (k + 2)) (cmK G W (k + 2)) (.cons (.asg (.name 4) (.and_ (.isty .tuple (.var 3)) (.and_ (.cmp .Eq (.bcall .len (.cons (.var 3) .nil)) (.con (.int 2))) (.and_ (.isty .str (.ix (.var 3) (.con (.int 0)))) (.cmp .Eq (.ix (.var 3) (.con (.int 0))) (.con (.str "call"))))))) (.cons (.ifs (.or_ (.and_ (.var 4) (.not_ (.call 28 (.cons (.ix (.var 3) (.con (.int 1))) .nil)))) (.and_ (.not_ (.var 4)) (.not_ (.call 32 (.cons (.var 3) (.cons (.var 1) (.cons (.con (.int 4)) .nil))))))) (.cons (.ret (.con (.bool false))) .nil) .nil) (.cons (.ex (.meth1 .append (.var 2) (.ix (.var 3) (.con (.int 0))))) .nil)))
      [some (.d v), some (.d (.int mn)), some (.m 0), some (.d z), x4] [.lst acc]).wp D := by
  simp only [wps_cons, s_asg]
  refine is_call_wp z ?_
  simp only [set_0, set_s]
  have app : rowP mn z = true → r1Ok .append (.m 0) [.lst acc] = true ∧ optQ (ixU (.d z) (.d (.int 0)) [.lst acc]) fun z1 => (m1D .append (.m 0) z1 [.lst acc]).wp fun _ st1 => D.nx [some (.d v), some (.d (.int mn)), some (.m 0), some (.d z), some (.d (.bool (isCall z)))] st1 := by
    intro h
    have q1 := q1 h
    obtain ⟨w, xs, rfl⟩ := rowP_headed h
    refine ⟨rfl, ?_⟩
    simp only [ix_tuple, at_0]
    show (if acc.length < Ev.sizeMax then R.ok _ _ else R.stuck).wp _
    rw [if_pos (by unfold Ev.sizeMax; omega)]
    exact q1
  rw [rowP_eq] at q1 q2 app
  unfold rowL at q1 q2 app
  cases h : isCall z with
  | true =>
    rw [h] at q1 q2 app
    obtain ⟨x, rfl⟩ := isCall_form h
    get_elem_tactic_trivial
    rw [p28 (k := k) (ok_tup hz (x := x) (by simp))]
    simp only [if_true, secD] at q1 q2 app
    cases h2 : nameS x with
    | true => 
      have := app h2
      get_elem_tactic_trivial
      exact this
    | false => exact q2 h2 _
  | false =>
    rw [h] at q1 q2 app
    simp only [Bool.false_eq_true, if_false] at q1 q2 app
    get_elem_tactic_trivial
    rw [p32 hn hz]
    cases h2 : lrowS 4 mn z with
    | true =>
      have := app h2
      get_elem_tactic_trivial
      exact this
    | false => exact q2 h2 _
theorem heads_ok {n : Nat} (hn : n ≤ 59) {rs : List D} (h : ∀ r ∈ rs, ok (n + 1) r) (hh : ∀ r ∈ rs, Headed r) : SeqAt.shaped (.list (rs.map fun r => .str (headS r))) = true := by
  refine ok_shaped (n := 1) (by decide) fun x hx => ?_
  obtain ⟨r, hr, rfl⟩ := List.mem_map.mp hx
  obtain ⟨w, xs, rfl⟩ := hh r hr
  have := h _ hr (.str w) (by simp)
  exact ok_str this
theorem mem_back {t : String} (rs : List D) : memD (.str t) (rs.map fun r => .str (headS r)) = rs.any fun r => decide (headS r = t) := by
  induction rs with
  | nil => rfl
  | cons r rs ih =>
    rw [List.map_cons, mem_str, List.any_cons, ih]
    have : decide (Str.ofString t = headS r) = decide (headS r = Str.ofString t) := decide_eq_decide.mpr eq_comm
    rw [this]
theorem count_back (rs : List D) : (rs.map fun r => PyData.str (headS r)).countP (fun z => PyData.eqv z (.str "back")) = backsN rs := by
  unfold backsN
  rw [List.countP_map]
  congr 1
theorem any_backs (rs : List D) : (!rs.any fun r => decide (headS r = "back")) = decide (backsN rs = 0) := by
  unfold backsN
  rw [Bool.eq_iff_iff]
  simp [List.countP_eq_zero]
theorem flat_heads (rs : List D) : (rs.map fun r => PyData.str (headS r)).all flatD = true := by
  rw [List.all_map, List.all_eq_true]
  intro r _
  rfl
theorem dm_count {xs : List D} {b : D} {Q : U → Prop} : optQ (dmU .count (.d (.list xs)) (.d b)) Q ↔ (SeqAt.shaped (.list xs) && SeqAt.shaped b) = true ∧ Q (.d (.int (xs.countP fun z => PyData.eqv z b : Nat))) := by
  show optQ ((if _ then some _ else none).map U.d) Q ↔ _
  exact opt_ite_map rfl
def sHd : Ss → S
  | .cons s _ => s
  | .nil => .pass
def sTl : Ss → Ss
  | .cons _ s => s
  | .nil => .nil
def tl40 : Ss := sTl (sTl b40)
theorem tail40 {n : Nat} {t : Str} {rs : List D} (hn : n ≤ 57) (hb : ok (n + 2) (.tuple rs)) (l1 : 1 ≤ rs.length) (l2 : rs.length ≤ 4000) (q : ∀ s, Q (.d (.bool (rs.all (rowP rs.length) && endS t rs))) s) :
    (exSs G W (cpK G W (k + 2)) (cmK G W (k + 2)) tl40 [some (.d (.tuple [.str t, .tuple rs])), none, none, none, none] []).wp { nx := fun _ st => Q (.d .none) st, rt := Q } := by
  simp only [tl40, sTl, b40]
  get_elem_tactic_trivial
  simp only [setEs, setE, List.set_cons_succ, List.set_cons_zero]
  get_elem_tactic_trivial
  refine for_acc (f := U.d) (tot := rs) (rowP rs.length) (fun done ε s => ∃ x3 x4, ε = [some (.d (.tuple [.str t, .tuple rs])), some (.d (.int rs.length)), some (.m 0), x3, x4] ∧ s = [.lst (done.map fun r => .d (.str (headS r)))]) (fun done z rest hr hg ε s hI => ?_) (fun done z rest hr hg ε s hI => ?_) (fun hall ε s hI => ?_) (done := []) rfl rfl ⟨_, _, rfl, rfl⟩
  · obtain ⟨x3, x4, rfl, rfl⟩ := hI
    refine ⟨_, rfl, ?_⟩
    have hl : done.length + 1 ≤ rs.length := by rw [hr, List.length_append, List.length_cons]; omega
    have hz : z ∈ rs := by rw [hr]; simp
    refine turn40 (n := n + 1) (by omega) (v := .tuple [.str t, .tuple rs]) (z := z) (hb z hz) (mn := rs.length) (acc := done.map fun r => .d (.str (headS r))) (x4 := x4) (by rw [List.length_map]; omega) (fun _ => ?_) (fun h => by rw [hg] at h; cases h)
    exact ⟨_, _, rfl, by rw [List.map_append]; rfl⟩
  · obtain ⟨x3, x4, rfl, rfl⟩ := hI
    refine ⟨_, rfl, ?_⟩
    have hl : done.length + 1 ≤ rs.length := by rw [hr, List.length_append, List.length_cons]; omega
    have hz : z ∈ rs := by rw [hr]; simp
    refine turn40 (n := n + 1) (by omega) (v := .tuple [.str t, .tuple rs]) (z := z) (hb z hz) (mn := rs.length) (acc := done.map fun r => .d (.str (headS r))) (x4 := x4) (by rw [List.length_map]; omega) (fun h => by rw [hg] at h; cases h) (fun _ s => ?_)
    have : rs.all (rowP rs.length) = false := List.all_eq_false.mpr ⟨z, hz, by rw [hg]; decide⟩
    rw [this] at q
    exact q s
  · obtain ⟨x3, x4, rfl, rfl⟩ := hI
    rw [hall, Bool.true_and] at q
    have hh : ∀ r ∈ rs, Headed r := fun r hr => rowP_headed (List.all_eq_true.mp hall r hr)
    show (exS G W _ _ (.freeze 2) _ _).wp _
    rw [s_freeze (n := 0) (us := rs.map fun r => .d (.str (headS r))) rfl rfl (toDs_of rs)]
    simp only [setE, List.set_cons_succ, List.set_cons_zero]
    get_elem_tactic_trivial
    have hlast : L2.atI (rs.map fun r => PyData.str (headS r)) (-1) = some (.str (lastS rs)) := by
      have h : rs ≠ [] := fun e => by rw [e] at l1; exact absurd l1 (by decide)
      rw [at_last _ (by simpa using h), List.getLast_map]
      unfold lastS
      rw [List.getLast?_eq_some_getLast h, Option.getD_some]
    simp only [hlast]
    get_elem_tactic_trivial
    unfold endS at q
    refine ⟨fun h => ?_, fun h => ?_⟩
    · rw [if_pos h] at q
      refine ⟨fun h => ?_, fun h => ?_⟩
      · rw [decide_eq_true h, Bool.and_true] at q
        refine ⟨flat_heads rs, ?_⟩
        rw [mem_back, any_backs]
        exact q _
      · rw [decide_eq_false h, Bool.and_false] at q
        exact q _
    · rw [if_neg h] at q
      refine ⟨fun h => ?_, fun h => ?_⟩
      · rw [decide_eq_true h, Bool.and_true] at q
        refine ⟨rfl, ?_⟩
        rw [dm_count]
        refine ⟨by rw [heads_ok (n := n) (by omega) hb hh, Bool.true_and]; decide +kernel, ?_⟩
        rw [count_back]
        get_elem_tactic_trivial
        have : decide (((backsN rs : Nat) : Int) = 1) = decide (backsN rs = 1) := by rw [decide_eq_decide]; omega
        rw [this]
        exact q _
      · rw [decide_eq_false h, Bool.and_false] at q
        exact q _
theorem r40 {v : D} {n : Nat} (hn : n ≤ 57) (hv : ok (n + 3) v) (q : ∀ s, Q (.d (.bool (prtS v))) s) : (callRaw G W (k + 3) 40 [.d v] []).wp Q := by
  refine call_by (F := f40) rfl rfl ?_
  show (exSs G W _ _ b40 [some (.d v), none, none, none, none] []).wp _
  show (exSs G W _ _ (.cons (sHd b40) (.cons (sHd (sTl b40)) tl40)) [some (.d v), none, none, none, none] []).wp _
  simp only [sHd, sTl, b40]
  get_elem_tactic_trivial
  cases v with
  | tuple ys =>
    simp only [tupB]
    get_elem_tactic_trivial
    refine ⟨fun h3 => ?_, fun h3 => ?_⟩
    rotate_left
    · have : prtS (.tuple ys) = false := by
        unfold prtS
        split
        · rename_i e; injection e with e; subst e; exact absurd rfl h3
        · rfl
      rw [this] at q; exact q _
    have h : ys.length = 2 := by omega
    match ys, h with
    | [a, b], _ =>
      simp only [at2_0, at2_1]
      get_elem_tactic_trivial
      cases b with
      | tuple rs =>
        simp only [tupB]
        get_elem_tactic_trivial
        have hb : ok (n + 2) (.tuple rs) := hv _ (by simp)
        have ha : ok (n + 2) a := hv _ (by simp)
        refine eq_sh (ok_shaped (by omega) hb) (by decide) ?_
        rw [eqv_nilT]
        cases hr0 : rs with
        | nil =>
          subst hr0
          have : prtS (.tuple [a, .tuple []]) = false := by
            unfold prtS
            split
            · rename_i e; injection e with e; injection e with _ e; injection e with e; subst e; rfl
            · rfl
          rw [this] at q; exact q _
        | cons r1 r2 =>
          have hlen : 1 ≤ rs.length := by rw [hr0, List.length_cons]; omega
          rw [← hr0, show rs.isEmpty = false from by rw [hr0]; rfl]
          get_elem_tactic_trivial
          rw [p28 ha]
          have hnn : ∀ x, nameS x = true → ∃ t, x = .str t := by
            intro x hx
            cases x with
            | str t => exact ⟨t, rfl⟩
            | _ => cases hx
          have rest : ∀ t, a = .str t → (decide (t = "crowd") || nameS (.str t)) = true → (4000 < (rs.length : Int) → Q (.d (.bool false)) []) ∧ (¬ 4000 < (rs.length : Int) → (exSs G W (cpK G W (k + 2)) (cmK G W (k + 2)) tl40 [some (.d (.tuple [a, .tuple rs])), none, none, none, none] []).wp { nx := fun _ st => Q (.d .none) st, rt := Q }) := by
            rintro t rfl ht
            simp only [prtS, countS, itemsD, ht, Bool.true_and, decide_eq_true hlen] at q
            refine ⟨fun h => ?_, fun h => ?_⟩
            · rw [decide_eq_false (show ¬ rs.length ≤ 4000 by omega)] at q; exact q _
            · rw [decide_eq_true (show rs.length ≤ 4000 by omega), Bool.true_and] at q
              exact tail40 hn hb hlen (by omega) q
          have no : ∀ t, a = .str t → (decide (t = "crowd") || nameS (.str t)) = false → Q (.d (.bool false)) [] := by
            rintro t rfl ht
            simp only [prtS, ht, Bool.false_and, Bool.and_false] at q
            exact q _
          cases hna : nameS a with
          | true =>
            obtain ⟨t, ht⟩ := hnn a hna
            exact rest t ht (by rw [← ht, hna, Bool.or_true])
          | false =>
            get_elem_tactic_trivial
            cases a with
            | str t =>
              simp only [strB]
              get_elem_tactic_trivial
              refine ⟨fun h => ?_, fun h => ?_⟩
              · exact rest t rfl (by rw [decide_eq_true h]; rfl)
              · exact no t rfl (by rw [decide_eq_false h, hna]; rfl)
            | _ => exact q _
      | _ =>
        have : ∀ x, (∀ rs, x ≠ .tuple rs) → prtS (.tuple [a, x]) = false := by
          intro x hx
          unfold prtS
          split
          · rename_i t r e
            injection e with e; injection e with _ e; injection e with e
            subst e
            have : countS x = false := by
              cases x with
              | tuple rs => exact absurd rfl (hx rs)
              | _ => rfl
            rw [this]; rfl
          · rfl
        rw [this] at q
        · exact q _
        · intro rs h; cases h
  | _ => exact q _
theorem p40 {v : D} {n : Nat} (hn : n ≤ 57) (hv : ok (n + 3) v) : (callU G (cpK G W (k + 3)) (cmK G W (k + 3)) 40 [.d v] st).wp Q = Q (.d (.bool (prtS v))) st := pure_eq2 (F := f40) rfl rfl rfl (r40 hn hv fun s => rfl)
end K34
end

section
set_option maxRecDepth 100000
set_option autoImplicit false
namespace K34
open Ev PySem
/-- the evaluator's steps -/
local macro_rules | `(tactic| get_elem_tactic_trivial) => `(tactic| simp only [wps_cons, wps_nil, wp_ok, r_int, r_str, r_bool, r_none, r_var, r_bin, r_neg, r_not, r_cmp, r_chain, r_and, r_or, r_ite, r_tup, r_lst, r_alloc, r_alloc0, r_ix, r_call, r_callK, r_bcall, r_isty, r_meth0, r_meth1, r_dict, r_slice, r_rep, r_nil, r_cons, r_lam, r_fnv, r_callV, r_dm, r_isn, r_catM, r_tupX, r_trip, r_weak, r_tix, s_pass, s_ret, s_retN, s_asg, s_asgS, s_sub, s_tup, s_tgs0, s_tgs, s_tgN, s_par, s_par3, s_ex, s_aug, s_if, s_for, s_brk, s_cnt,
  var_0, var_s, fun_0, fun_s, tst_t, tst_f, tst_d, tst_n, neg_i, not_b, bin_add, bin_sub, bin_mul, bin_fdiv, bin_mod, bin_pow, bin_str, bin_lst, bin_tup, cmp_lt, cmp_le, cmp_gt, cmp_ge, cmp_eqI, cmp_neI, cmp_eqS, cmp_neS, cmp_eqB, cmp_is, cmp_isn, cmp_isB, cmp_isnB, cmp_inT, cmp_inL, cmp_ninT, cmp_ninL, cmp_inS, cmp_ninS, ty_d, ty_int, ty_bool, ty_str, ty_tup, unt_t, aug_0, aug_s, augr_add, augr_sub, opt_some, opt_map, opt_if, set_0, set_s, tupQ, toDs, Option.map_some, Option.map_none,
  wp_bind, part_0, part_1, sl_list, sl_tuple, sl_map, wk_list, wk_tuple, walk_r1, walk_r2, at1_0, at2_0, at2_1, at3_0, at3_1, at3_2, ix_list, ix_tuple, bf_int, bf_intB, bf_abs, bf_lenL, bf_lenT, bf_max, bf_min, divmod_wp, bf_repr, len_str, bf_tupL,
  str_eq, String.reduceEq, mem_str, mem_nil, flat_str, flat_int, List.all_cons, List.all_nil, Bool.and_self, Bool.or_false, decide_true, decide_false, not_true, not_false_eq_true, true_and, and_true, true_implies, false_implies, implies_true, Bool.not_true, Bool.not_false, Bool.false_or, Bool.true_or, Bool.or_true, Bool.not_not, List.length_cons, List.length_nil, sizeMax, Nat.reduceAdd, Nat.reduceLeDiff, ne_eq, pick, List.getElem?_cons_zero, List.getElem?_cons_succ,
  r_glob c0, r_glob c1, r_glob c2, r_glob c3, r_glob c4, r_glob c5, r_glob c6, r_glob c7, r_glob c8, r_glob c9, r_glob c10, r_glob c11, r_glob c12, r_glob c13, r_glob c14, r_glob c15, r_glob c16, r_glob c17, r_glob c18, r_glob c19, r_glob c20])
variable {W k : Nat} {st : Store} {Q : U → Store → Prop}
/-! ### wells -/
def Has (n : Nat) (st : Store) : Prop := ∃ c, st[n]? = some c ∧ Well c
/-- all that is old is as it was, but for the well -/
def Grw (n : Nat) (st st1 : Store) : Prop := n < st.length ∧ st.length ≤ st1.length ∧ (∀ m, m < st.length → m ≠ n → st1[m]? = st[m]?) ∧ Has n st1
def Stp (n : Nat) (st st1 : Store) : Prop := Grw n st st1 ∧ st1.length = st.length
theorem Has.lt {n : Nat} {st : Store} (h : Has n st) : n < st.length := by
  obtain ⟨c, h, _⟩ := h
  exact (List.getElem?_eq_some_iff.mp h).1
theorem Has.grw {n : Nat} {st : Store} (h : Has n st) : Grw n st st := ⟨h.lt, Nat.le_refl _, fun _ _ _ => rfl, h⟩
theorem Grw.has {n : Nat} {st st1 : Store} (h : Grw n st st1) : Has n st1 := h.2.2.2
theorem Grw.stp {n : Nat} {st st1 st2 : Store} (h : Grw n st st1) (g : Stp n st1 st2) : Grw n st st2 := by
  obtain ⟨a, b, c, d⟩ := h
  obtain ⟨⟨a', b', c', d'⟩, e'⟩ := g
  exact ⟨a, by omega, fun m h1 h2 => by rw [c' m (by omega) h2, c m h1 h2], d'⟩
theorem Stp.trans {n : Nat} {st st1 st2 : Store} (h : Stp n st st1) (g : Stp n st1 st2) : Stp n st st2 := ⟨h.1.stp g, by rw [g.2, h.2]⟩
theorem Stp.has {n : Nat} {st st1 : Store} (h : Stp n st st1) : Has n st1 := h.1.has
theorem Has.stp {n : Nat} {st : Store} (h : Has n st) : Stp n st st := ⟨h.grw, rfl⟩
theorem Grw.push {n : Nat} {st st1 : Store} (h : Grw n st st1) (c : Cell) : Grw n st (st1 ++ [c]) := by
  obtain ⟨a, b, c', d⟩ := h
  refine ⟨a, by rw [List.length_append]; omega, fun m h1 h2 => ?_, ?_⟩
  · rw [List.getElem?_append_left (by omega), c' m h1 h2]
  · obtain ⟨w, h1, h2⟩ := d
    exact ⟨w, by rw [List.getElem?_append_left (by omega)]; exact h1, h2⟩
theorem Grw.put {n p : Nat} {st st1 : Store} (h : Grw n st st1) (hp : st.length ≤ p) (c : Cell) : Grw n st (st1.set p c) := by
  obtain ⟨a, b, c', d⟩ := h
  refine ⟨a, by rw [List.length_set]; omega, fun m h1 h2 => ?_, ?_⟩
  · rw [List.getElem?_set_ne (by omega), c' m h1 h2]
  · obtain ⟨w, h1, h2⟩ := d
    exact ⟨w, by rw [List.getElem?_set_ne (by omega)]; exact h1, h2⟩
theorem Grw.cut {n : Nat} {st st1 : Store} (h : Grw n st st1) : Stp n st (st1.take st.length) := by
  obtain ⟨a, b, c', d⟩ := h
  refine ⟨⟨a, by rw [List.length_take]; omega, fun m h1 h2 => ?_, ?_⟩, by rw [List.length_take]; omega⟩
  · rw [List.getElem?_take_of_lt h1, c' m h1 h2]
  · obtain ⟨w, h1, h2⟩ := d
    exact ⟨w, by rw [List.getElem?_take_of_lt a]; exact h1, h2⟩
def Flat (st : Store) : Prop := ∀ c ∈ st, lowC 0 c = true
theorem low_mono {k : Nat} {c : Cell} (h : lowC 0 c = true) : lowC k c = true := by
  cases c with
  | dead => rfl
  | lst us =>
    show us.all (lowU k) = true
    have h : us.all (lowU 0) = true := h
    rw [List.all_eq_true] at h ⊢
    intro u hu
    have := h u hu
    cases u with
    | m n => exact absurd this (by simp [lowU])
    | _ => rfl
theorem Flat.low {st : Store} (h : Flat st) (k : Nat) : st.all (lowC k) = true := List.all_eq_true.mpr fun c hc => low_mono (h c hc)
theorem well_low {c : Cell} (w : Well c) : lowC 0 c = true := by
  obtain ⟨a, b, n, rfl, _⟩ := w
  rfl
theorem Stp.flat {n : Nat} {st st1 : Store} (h : Stp n st st1) (f : Flat st) : Flat st1 := by
  obtain ⟨⟨a, b, c', w, h1, h2⟩, e⟩ := h
  intro c hc
  obtain ⟨m, hm, rfl⟩ := List.mem_iff_getElem.mp hc
  by_cases hn : m = n
  · subst hn
    have : st1[m] = w := by
      have := List.getElem?_eq_getElem hm
      rw [h1] at this
      injection this with this
      exact this.symm
    rw [this]; exact well_low h2
  · have := c' m (by omega) hn
    rw [List.getElem?_eq_getElem hm, List.getElem?_eq_getElem (by omega)] at this
    injection this with this
    rw [this]
    exact f _ (List.getElem_mem _)
theorem set_stp {n : Nat} {st : Store} {c c' : Cell} (h : st[n]? = some c) (w : Well c') : Stp n st (st.set n c') := by
  have hl := (List.getElem?_eq_some_iff.mp h).1
  exact ⟨⟨hl, by rw [List.length_set]; omega, fun m _ h2 => List.getElem?_set_ne (Ne.symm h2), c', List.getElem?_set_self hl, w⟩, List.length_set ..⟩
theorem r23 (ns : List Int) (lap : Int) (hl : 0 ≤ lap) (q : ∀ c, Well c → Q (.m st.length) (st ++ [c])) : (callRaw G W (k + 1) 23 [.d (.list (ns.map .int)), .d (.int lap)] st).wp Q := by
  refine call_by (F := f23) rfl rfl ?_
  show (exSs G W _ _ b23 [some (.d (.list (ns.map .int))), some (.d (.int lap)), none, none, none] st).wp _
  unfold b23
  get_elem_tactic_trivial
  refine ⟨cmul_l (by decide), ?_⟩
  refine for_wp (fun ε st' => st' = st ∧ ∃ (s : Int) (x y : Option U), ε = [some (.d (.list (ns.map .int))), some (.d (.int lap)), some (.d (.int s)), x, y]) (fun u hu ε st' hI => ?_) (fun ε st' hI => ?_) ⟨rfl, _, _, _, rfl⟩
  · obtain ⟨rfl, s, x, y, rfl⟩ := hI
    obtain ⟨c, rfl⟩ := mem_ints hu
    refine ⟨_, rfl, ?_⟩
    show (exSs G W _ _ _ [some (.d (.list (ns.map .int))), some (.d (.int lap)), some (.d (.int s)), some (.d (.int c)), y] _).wp _
    get_elem_tactic_trivial
    exact ⟨cmul_r (by decide) (by decide), by decide, by decide, _, _, _, rfl⟩
  · obtain ⟨rfl, s, x, y, rfl⟩ := hI
    get_elem_tactic_trivial
    refine ⟨fun h => ?_, fun h => ?_⟩
    · obtain ⟨v, hv, e⟩ := at_in hl h
      rw [List.mem_map] at hv
      obtain ⟨v, _, rfl⟩ := hv
      rw [e]
      get_elem_tactic_trivial
      refine ⟨cmul_r (by decide) (by decide), by decide, cmul_r (by decide) (by decide), by decide, fun h => ?_, fun h => ⟨by decide, fun h => ?_, fun h => ?_⟩⟩
      · exact q _ ⟨_, _, _, rfl, by split <;> omega⟩
      · exact q _ ⟨_, _, _, rfl, by split <;> omega⟩
      · exact q _ ⟨_, _, _, rfl, by omega⟩
    · refine ⟨cmul_r (by decide) (by decide), by decide, by decide, by decide, fun h => ?_, fun h => ⟨by decide, fun h => ?_, fun h => ?_⟩⟩
      · exact q _ ⟨_, _, _, rfl, by split <;> omega⟩
      · exact q _ ⟨_, _, _, rfl, by split <;> omega⟩
      · exact q _ ⟨_, _, _, rfl, by omega⟩
theorem m23 (ns : List Int) (lap : Int) (hl : 0 ≤ lap) (q : ∀ st1, Has st.length st1 → st1.take st.length = st → st1.length = st.length + 1 → Q (.m st.length) st1) : (callU G (cpK G W (k + 1)) (cmK G W (k + 1)) 23 [.d (.list (ns.map .int)), .d (.int lap)] st).wp Q := by
  refine mut_wp_new (F := f23) rfl rfl (r23 ns lap hl fun c w => ⟨⟨_, rfl, Nat.le_refl _⟩, q _ ⟨c, ?_, w⟩ (List.take_left ..) (by rw [List.length_append]; rfl)⟩)
  rw [List.getElem?_append_right (Nat.le_refl _), Nat.sub_self]; rfl
theorem r24 {n : Nat} (h : Has n st) (lim : Int) (h1 : 0 < lim) (h2 : lim < 1073741824) (q : ∀ (r : Int) (st1 : Store), 0 ≤ r → r < lim → Stp n st st1 → Q (.d (.int r)) st1) : (callRaw G W (k + 1) 24 [.m n, .d (.int lim)] st).wp Q := by
  refine call_by (F := f24) rfl rfl ?_
  show (exSs G W _ _ b24 [some (.m n), some (.d (.int lim)), none, none] st).wp _
  unfold b24
  obtain ⟨c, hw, a, b, m, rfl, ha⟩ := h
  get_elem_tactic_trivial
  simp only [ix_m hw, at3_0, at3_1, at3_2]
  get_elem_tactic_trivial
  refine ⟨fun h => ⟨⟨h1, h2⟩, ?_⟩, fun h => ?_⟩
  · rw [List.map_cons, List.map_cons, List.map_nil]
    get_elem_tactic_trivial
    rw [sub3_0 hw]
    exact q _ _ (Int.emod_nonneg _ (by omega)) (Int.emod_lt_of_pos _ h1) (set_stp hw ⟨_, _, _, rfl, Int.ediv_nonneg ha (by omega)⟩)
  · rw [sub3_2 hw]
    simp only [ix_m (get_set hw), at3_0, at3_1, at3_2]
    get_elem_tactic_trivial
    simp only [ix_m (get_set hw), at3_0, at3_1, at3_2]
    get_elem_tactic_trivial
    refine ⟨cmul_r (by decide) (by decide), cmul_l (by decide), by decide, by decide, ?_⟩
    refine ⟨cmul_r ?_ ?_, by decide, ?_⟩
    · rw [fmod_pos (by decide)]; have := Int.emod_nonneg ((b * 39019 + 14009 * (m + 1)).fmod 2147483629) (b := 4999) (by decide); omega
    · rw [fmod_pos (by decide)]; have := Int.emod_lt_of_pos ((b * 39019 + 14009 * (m + 1)).fmod 2147483629) (b := 4999) (by decide); omega
    rw [sub3_1 (get_set hw), set_set]
    simp only [ix_m (get_set hw), at3_0, at3_1, at3_2]
    get_elem_tactic_trivial
    refine ⟨by decide, by omega, ?_⟩
    rw [fmod_pos h1]
    exact q _ _ (Int.emod_nonneg _ (by omega)) (Int.emod_lt_of_pos _ h1) (set_stp hw ⟨_, _, _, rfl, ha⟩)
theorem m24 {n : Nat} (h : Has n st) (lim : Int) (h1 : 0 < lim) (h2 : lim < 1073741824) (q : ∀ (r : Int) (st1 : Store), 0 ≤ r → r < lim → Stp n st st1 → Q (.d (.int r)) st1) : (callU G (cpK G W (k + 1)) (cmK G W (k + 1)) 24 [.m n, .d (.int lim)] st).wp Q :=
  mut_wp (F := f24) rfl rfl (r24 h lim h1 h2 fun r s a b w => ⟨w.2, q r s a b w⟩)
theorem r25 {n : Nat} (h : Has n st) (xs : List D) (h1 : 0 < xs.length) (h2 : xs.length < 1073741824) (q : ∀ (x : D) (st1 : Store), x ∈ xs → Stp n st st1 → Q (.d x) st1) : (callRaw G W (k + 2) 25 [.m n, .d (.tuple xs)] st).wp Q := by
  refine call_by (F := f25) rfl rfl ?_
  show (exSs G W _ _ b25 [some (.m n), some (.d (.tuple xs))] st).wp _
  unfold b25
  get_elem_tactic_trivial
  refine m24 h _ (by omega) (by omega) fun r c a b w => ?_
  obtain ⟨x, hx, e⟩ := at_in a b
  rw [ix_tuple, e]
  get_elem_tactic_trivial
  exact q x c hx w
theorem m25 {n : Nat} (h : Has n st) (xs : List D) (h1 : 0 < xs.length) (h2 : xs.length < 1073741824) (q : ∀ (x : D) (st1 : Store), x ∈ xs → Stp n st st1 → Q (.d x) st1) : (callU G (cpK G W (k + 2)) (cmK G W (k + 2)) 25 [.m n, .d (.tuple xs)] st).wp Q :=
  mut_wp (F := f25) rfl rfl (r25 h xs h1 h2 fun x s a w => ⟨w.2, q x s a w⟩)
end K34
end

section
set_option maxRecDepth 100000
set_option autoImplicit false
namespace K34
open Ev PySem
/-- the evaluator's steps -/
local macro_rules | `(tactic| get_elem_tactic_trivial) => `(tactic| simp only [wps_cons, wps_nil, wp_ok, r_int, r_str, r_bool, r_none, r_var, r_bin, r_neg, r_not, r_cmp, r_chain, r_and, r_or, r_ite, r_tup, r_lst, r_alloc, r_alloc0, r_ix, r_call, r_callK, r_bcall, r_isty, r_meth0, r_meth1, r_dict, r_slice, r_rep, r_nil, r_cons, r_lam, r_fnv, r_callV, r_dm, r_isn, r_catM, r_tupX, r_trip, r_weak, r_tix, s_pass, s_ret, s_retN, s_asg, s_asgS, s_sub, s_tup, s_tgs0, s_tgs, s_tgN, s_par, s_par3, s_ex, s_aug, s_if, s_for, s_brk, s_cnt,
  var_0, var_s, fun_0, fun_s, tst_t, tst_f, tst_d, tst_n, neg_i, not_b, bin_add, bin_sub, bin_mul, bin_fdiv, bin_mod, bin_pow, bin_str, bin_lst, bin_tup, cmp_lt, cmp_le, cmp_gt, cmp_ge, cmp_eqI, cmp_neI, cmp_eqS, cmp_neS, cmp_eqB, cmp_is, cmp_isn, cmp_isB, cmp_isnB, cmp_inT, cmp_inL, cmp_ninT, cmp_ninL, cmp_inS, cmp_ninS, ty_d, ty_int, ty_bool, ty_str, ty_tup, unt_t, aug_0, aug_s, augr_add, augr_sub, opt_some, opt_map, opt_if, set_0, set_s, tupQ, toDs, Option.map_some, Option.map_none,
  wp_bind, part_0, part_1, sl_list, sl_tuple, sl_map, wk_list, wk_tuple, walk_r1, walk_r2, at1_0, at2_0, at2_1, at3_0, at3_1, at3_2, ix_list, ix_tuple, bf_int, bf_intB, bf_abs, bf_lenL, bf_lenT, bf_max, bf_min, divmod_wp, bf_repr, len_str, bf_tupL,
  str_eq, String.reduceEq, mem_str, mem_nil, flat_str, flat_int, List.all_cons, List.all_nil, Bool.and_self, Bool.or_false, decide_true, decide_false, not_true, not_false_eq_true, true_and, and_true, true_implies, false_implies, implies_true, Bool.not_true, Bool.not_false, Bool.false_or, Bool.true_or, Bool.or_true, Bool.not_not, List.length_cons, List.length_nil, sizeMax, Nat.reduceAdd, Nat.reduceLeDiff, ne_eq, pick, List.getElem?_cons_zero, List.getElem?_cons_succ,
  r_glob c0, r_glob c1, r_glob c2, r_glob c3, r_glob c4, r_glob c5, r_glob c6, r_glob c7, r_glob c8, r_glob c9, r_glob c10, r_glob c11, r_glob c12, r_glob c13, r_glob c14, r_glob c15, r_glob c16, r_glob c17, r_glob c18, r_glob c19, r_glob c20])
variable {W k : Nat} {st : Store} {Q : U → Store → Prop}
/-! ### rows that are drawn -/
def RowI (x : D) : Prop := ∃ (w : Str) (is : List Int), x = .tuple (.str w :: is.map .int) ∧ okS w ∧ is.length ≤ 4
def EasyR (x : D) : Prop := ∃ (w : Str) (i : Int) (is : List Int), x = .tuple (.str w :: .int i :: is.map .int) ∧ okS w ∧ is.length ≤ 3
theorem EasyR.row {x : D} (h : EasyR x) : RowI x := by
  obtain ⟨w, i, is, rfl, a, b⟩ := h
  exact ⟨w, i :: is, rfl, a, by rw [List.length_cons]; omega⟩
theorem okS_of {w : String} (h : decide ((Str.ofString w).length ≤ 100) = true ∧ PyData.strOk w = true) : okS w := ⟨of_decide_eq_true h.1, h.2⟩
def sizeT (s : D) : Prop := ∃ ss : List Int, s = .tuple (ss.map .int) ∧ ss.length ≤ 4
theorem ne_nil {ss : List Int} {Qb : Bool → Prop} (q : Qb (!ss.isEmpty)) : cmpQ .NotEq (.d (.tuple (ss.map .int))) (.d (.tuple [])) Qb := by
  refine ne_sh (ok_shaped (n := 1) (by decide) fun x hx => ?_) (by decide) ?_
  · obtain ⟨_, _, rfl⟩ := List.mem_map.mp hx
    trivial
  · rw [eqv_nilT]
    cases ss <;> exact q
section
variable {w : String} {i j l : Int}
theorem easy1 (h : okS w) : EasyR (.tuple [.str w, .int i]) := ⟨w, i, [], rfl, h, by decide⟩
theorem easy2 (h : okS w) : EasyR (.tuple [.str w, .int i, .int j]) := ⟨w, i, [j], rfl, h, by simp⟩
theorem easy3 (h : okS w) : EasyR (.tuple [.str w, .int i, .int j, .int l]) := ⟨w, i, [j, l], rfl, h, by simp⟩
end
theorem r34 {n : Nat} (h : Has n st) {ss : List Int} (hs : ss.length ≤ 4) (q : ∀ (x : D) (st1 : Store), EasyR x → Stp n st st1 → Q (.d x) st1) : (callRaw G W (k + 3) 34 [.m n, .d (.tuple (ss.map .int))] st).wp Q := by
  refine call_by (F := f34) rfl rfl ?_
  show (exSs G W _ _ b34 [some (.m n), some (.d (.tuple (ss.map .int))), none, none, none, none, none, none] st).wp _
  unfold b34
  rw [wps_cons]
  get_elem_tactic_trivial
  refine m24 (k := k + 1) h _ (by decide) (by decide) fun box s1 _ _ g1 => ?_
  refine m24 (k := k + 1) g1.has _ (by decide) (by decide) fun two s2 _ _ g2 => ?_
  refine m24 (k := k + 1) g2.has _ (by decide) (by decide) fun three s3 _ _ g3 => ?_
  have g3 := (g1.trans g2).trans g3
  simp only [setEs, set_0, set_s]
  get_elem_tactic_trivial
  refine m24 (k := k + 1) g3.has _ (by decide) (by decide) fun way s4 _ _ g4 => ?_
  have g4 := g3.trans g4
  get_elem_tactic_trivial
  refine ⟨fun h1 => ?_, fun h1 => ?_⟩
  · refine m24 (k := k + 1) g4.has _ (by decide) (by decide) fun a s5 _ _ g5 => ?_
    have g5 := g4.trans g5
    refine m25 (k := k) g5.has _ (by decide) (by decide) fun x s6 hx g6 => ?_
    get_elem_tactic_trivial
    refine q _ _ ?_ (g5.trans g6)
    simp only [List.mem_cons, List.not_mem_nil, or_false] at hx
    rcases hx with rfl | rfl | rfl | rfl | rfl | rfl | rfl <;> exact easy2 (okS_of (by decide +kernel))
  refine ⟨fun h2 => q _ _ (easy1 (okS_of (by decide +kernel))) g4, fun h2 => ?_⟩
  refine ⟨fun h3 => ?_, fun h3 => ?_⟩
  · refine m24 (k := k + 1) g4.has _ (by decide) (by decide) fun a s5 _ _ g5 => ?_
    get_elem_tactic_trivial
    exact q _ _ (easy1 (okS_of (by decide +kernel))) (g4.trans g5)
  refine ⟨fun h4 => ?_, fun h4 => ?_⟩
  · refine m25 (k := k) g4.has _ (by decide) (by decide) fun x s5 hx g5 => ?_
    have g5 := g4.trans g5
    have hx : ∃ c : Int, x = .int c := by
      simp only [List.mem_cons, List.not_mem_nil, or_false] at hx
      rcases hx with rfl | rfl | rfl <;> exact ⟨_, rfl⟩
    obtain ⟨c, rfl⟩ := hx
    get_elem_tactic_trivial
    refine m25 (k := k) g5.has _ (by decide) (by decide) fun y s6 hy g6 => ?_
    have g6 := g5.trans g6
    have hy : ∃ w : String, y = .str w ∧ okS w := by
      simp only [List.mem_cons, List.not_mem_nil, or_false] at hy
      rcases hy with rfl | rfl | rfl <;> exact ⟨_, rfl, okS_of (by decide +kernel)⟩
    obtain ⟨w, rfl, hw⟩ := hy
    get_elem_tactic_trivial
    refine m25 (k := k) g6.has _ (by show 0 < 3; decide) (by show 3 < 1073741824; decide) fun z s7 hz g7 => ?_
    have g7 := g6.trans g7
    have hz : ∃ a b : Int, z = .tuple [.int a, .int b] := by
      simp only [List.mem_cons, List.not_mem_nil, or_false] at hz
      rcases hz with rfl | rfl | rfl <;> exact ⟨_, _, rfl⟩
    obtain ⟨a, b, rfl⟩ := hz
    get_elem_tactic_trivial
    exact q _ _ (easy2 hw) g7
  refine ⟨fun h5 => ?_, fun h5 => ?_⟩
  · refine m25 (k := k) g4.has _ (by decide) (by decide) fun x s5 hx g5 => ?_
    have g5 := g4.trans g5
    have hx : ∃ w : String, x = .str w ∧ okS w := by
      simp only [List.mem_cons, List.not_mem_nil, or_false] at hx
      rcases hx with rfl | rfl | rfl | rfl | rfl | rfl | rfl | rfl | rfl <;> exact ⟨_, rfl, okS_of (by decide +kernel)⟩
    obtain ⟨w, rfl, hw⟩ := hx
    get_elem_tactic_trivial
    rw [tst_b]
    refine ⟨fun _ => q _ _ (easy3 hw) g5, fun _ => ?_⟩
    refine m24 (k := k + 1) g5.has _ (by decide) (by decide) fun a s6 _ _ g6 => ?_
    have g6 := g5.trans g6
    get_elem_tactic_trivial
    refine ⟨fun _ => q _ _ (easy3 hw) g6, fun _ => ?_⟩
    refine m24 (k := k + 1) g6.has _ (by decide) (by decide) fun a s7 _ _ g7 => ?_
    get_elem_tactic_trivial
    exact q _ _ (easy3 hw) (g6.trans g7)
  have store : (¬ ss.isEmpty = true) → (callU G (cpK G W (k + 2)) (cmK G W (k + 2)) 24 [.m n, .d (.int ss.length)] s4).wp fun u s => ∃ i, u = .d (.int i) ∧ Stp n st s := by
    intro he
    refine m24 (k := k + 1) g4.has _ ?_ (by omega) fun i s5 _ _ g5 => ⟨i, rfl, g4.trans g5⟩
    cases ss with
    | nil => exact absurd rfl he
    | cons => rw [List.length_cons]; omega
  refine ⟨fun _ => ?_, fun _ => ?_⟩
  · refine ne_nil ?_
    cases he : ss.isEmpty with
    | false =>
      rw [List.length_map]
      refine (store (by rw [he]; decide)).imp fun u s hu => ?_
      obtain ⟨i, rfl, g⟩ := hu
      get_elem_tactic_trivial
      exact q _ _ (easy3 (okS_of (by decide +kernel))) g
    | true =>
      show tstQ (.d (.bool false)) _ _
      rw [tst_f]
      refine ⟨fun _ => ?_, fun _ => ?_⟩
      · refine ne_nil ?_
        cases he : ss.isEmpty with
        | false =>
          rw [List.length_map]
          refine (store (by rw [he]; decide)).imp fun u s hu => ?_
          obtain ⟨i, rfl, g⟩ := hu
          get_elem_tactic_trivial
          exact q _ _ (easy3 (okS_of (by decide +kernel))) g
        | true =>
          show tstQ (.d (.bool false)) _ _
          rw [tst_f]
          refine ⟨fun _ => ?_, fun _ => ?_⟩
          · refine m25 (k := k) g4.has _ (by decide) (by decide) fun x s5 hx g5 => ?_
            have hx : ∃ c : Int, x = .int c := by
              simp only [List.mem_cons, List.not_mem_nil, or_false] at hx
              rcases hx with rfl | rfl | rfl <;> exact ⟨_, rfl⟩
            obtain ⟨c, rfl⟩ := hx
            get_elem_tactic_trivial
            exact q _ _ (easy2 (okS_of (by decide +kernel))) (g4.trans g5)
          refine ⟨fun _ => ?_, fun _ => ?_⟩
          · refine m25 (k := k) g4.has _ (by decide) (by decide) fun x s5 hx g5 => ?_
            have hx : ∃ c : Int, x = .int c := by
              simp only [List.mem_cons, List.not_mem_nil, or_false] at hx
              rcases hx with rfl | rfl | rfl <;> exact ⟨_, rfl⟩
            obtain ⟨c, rfl⟩ := hx
            get_elem_tactic_trivial
            exact q _ _ (easy2 (okS_of (by decide +kernel))) (g4.trans g5)
          · exact q _ _ (easy1 (okS_of (by decide +kernel))) g4
      · skip
        refine ⟨fun _ => ?_, fun _ => ?_⟩
        · refine m25 (k := k) g4.has _ (by decide) (by decide) fun x s5 hx g5 => ?_
          have hx : ∃ c : Int, x = .int c := by
            simp only [List.mem_cons, List.not_mem_nil, or_false] at hx
            rcases hx with rfl | rfl | rfl <;> exact ⟨_, rfl⟩
          obtain ⟨c, rfl⟩ := hx
          get_elem_tactic_trivial
          exact q _ _ (easy2 (okS_of (by decide +kernel))) (g4.trans g5)
        refine ⟨fun _ => ?_, fun _ => ?_⟩
        · refine m25 (k := k) g4.has _ (by decide) (by decide) fun x s5 hx g5 => ?_
          have hx : ∃ c : Int, x = .int c := by
            simp only [List.mem_cons, List.not_mem_nil, or_false] at hx
            rcases hx with rfl | rfl | rfl <;> exact ⟨_, rfl⟩
          obtain ⟨c, rfl⟩ := hx
          get_elem_tactic_trivial
          exact q _ _ (easy2 (okS_of (by decide +kernel))) (g4.trans g5)
        · exact q _ _ (easy1 (okS_of (by decide +kernel))) g4
  · skip
    refine ⟨fun _ => ?_, fun _ => ?_⟩
    · refine ne_nil ?_
      cases he : ss.isEmpty with
      | false =>
        rw [List.length_map]
        refine (store (by rw [he]; decide)).imp fun u s hu => ?_
        obtain ⟨i, rfl, g⟩ := hu
        get_elem_tactic_trivial
        exact q _ _ (easy3 (okS_of (by decide +kernel))) g
      | true =>
        show tstQ (.d (.bool false)) _ _
        rw [tst_f]
        refine ⟨fun _ => ?_, fun _ => ?_⟩
        · refine m25 (k := k) g4.has _ (by decide) (by decide) fun x s5 hx g5 => ?_
          have hx : ∃ c : Int, x = .int c := by
            simp only [List.mem_cons, List.not_mem_nil, or_false] at hx
            rcases hx with rfl | rfl | rfl <;> exact ⟨_, rfl⟩
          obtain ⟨c, rfl⟩ := hx
          get_elem_tactic_trivial
          exact q _ _ (easy2 (okS_of (by decide +kernel))) (g4.trans g5)
        refine ⟨fun _ => ?_, fun _ => ?_⟩
        · refine m25 (k := k) g4.has _ (by decide) (by decide) fun x s5 hx g5 => ?_
          have hx : ∃ c : Int, x = .int c := by
            simp only [List.mem_cons, List.not_mem_nil, or_false] at hx
            rcases hx with rfl | rfl | rfl <;> exact ⟨_, rfl⟩
          obtain ⟨c, rfl⟩ := hx
          get_elem_tactic_trivial
          exact q _ _ (easy2 (okS_of (by decide +kernel))) (g4.trans g5)
        · exact q _ _ (easy1 (okS_of (by decide +kernel))) g4
    · skip
      refine ⟨fun _ => ?_, fun _ => ?_⟩
      · refine m25 (k := k) g4.has _ (by decide) (by decide) fun x s5 hx g5 => ?_
        have hx : ∃ c : Int, x = .int c := by
          simp only [List.mem_cons, List.not_mem_nil, or_false] at hx
          rcases hx with rfl | rfl | rfl <;> exact ⟨_, rfl⟩
        obtain ⟨c, rfl⟩ := hx
        get_elem_tactic_trivial
        exact q _ _ (easy2 (okS_of (by decide +kernel))) (g4.trans g5)
      refine ⟨fun _ => ?_, fun _ => ?_⟩
      · refine m25 (k := k) g4.has _ (by decide) (by decide) fun x s5 hx g5 => ?_
        have hx : ∃ c : Int, x = .int c := by
          simp only [List.mem_cons, List.not_mem_nil, or_false] at hx
          rcases hx with rfl | rfl | rfl <;> exact ⟨_, rfl⟩
        obtain ⟨c, rfl⟩ := hx
        get_elem_tactic_trivial
        exact q _ _ (easy2 (okS_of (by decide +kernel))) (g4.trans g5)
      · exact q _ _ (easy1 (okS_of (by decide +kernel))) g4
theorem m34 {n : Nat} (h : Has n st) {ss : List Int} (hs : ss.length ≤ 4) (q : ∀ (x : D) (st1 : Store), EasyR x → Stp n st st1 → Q (.d x) st1) : (callU G (cpK G W (k + 3)) (cmK G W (k + 3)) 34 [.m n, .d (.tuple (ss.map .int))] st).wp Q :=
  mut_wp (F := f34) rfl rfl (r34 h hs fun x s a w => ⟨w.2, q x s a w⟩)
end K34
end

section
set_option maxRecDepth 100000
set_option autoImplicit false
namespace K34
open Ev PySem
/-- the evaluator's steps -/
local macro_rules | `(tactic| get_elem_tactic_trivial) => `(tactic| simp only [wps_cons, wps_nil, wp_ok, r_int, r_str, r_bool, r_none, r_var, r_bin, r_neg, r_not, r_cmp, r_chain, r_and, r_or, r_ite, r_tup, r_lst, r_alloc, r_alloc0, r_ix, r_call, r_callK, r_bcall, r_isty, r_meth0, r_meth1, r_dict, r_slice, r_rep, r_nil, r_cons, r_lam, r_fnv, r_callV, r_dm, r_isn, r_catM, r_tupX, r_trip, r_weak, r_tix, s_pass, s_ret, s_retN, s_asg, s_asgS, s_sub, s_tup, s_tgs0, s_tgs, s_tgN, s_par, s_par3, s_ex, s_aug, s_if, s_for, s_brk, s_cnt,
  var_0, var_s, fun_0, fun_s, tst_t, tst_f, tst_d, tst_n, neg_i, not_b, bin_add, bin_sub, bin_mul, bin_fdiv, bin_mod, bin_pow, bin_str, bin_lst, bin_tup, cmp_lt, cmp_le, cmp_gt, cmp_ge, cmp_eqI, cmp_neI, cmp_eqS, cmp_neS, cmp_eqB, cmp_is, cmp_isn, cmp_isB, cmp_isnB, cmp_inT, cmp_inL, cmp_ninT, cmp_ninL, cmp_inS, cmp_ninS, ty_d, ty_int, ty_bool, ty_str, ty_tup, unt_t, aug_0, aug_s, augr_add, augr_sub, opt_some, opt_map, opt_if, set_0, set_s, tupQ, toDs, Option.map_some, Option.map_none,
  wp_bind, part_0, part_1, sl_list, sl_tuple, sl_map, wk_list, wk_tuple, walk_r1, walk_r2, at1_0, at2_0, at2_1, at3_0, at3_1, at3_2, ix_list, ix_tuple, bf_int, bf_intB, bf_abs, bf_lenL, bf_lenT, bf_max, bf_min, divmod_wp, bf_repr, len_str, bf_tupL,
  str_eq, String.reduceEq, mem_str, mem_nil, flat_str, flat_int, List.all_cons, List.all_nil, Bool.and_self, Bool.or_false, decide_true, decide_false, not_true, not_false_eq_true, true_and, and_true, true_implies, false_implies, implies_true, Bool.not_true, Bool.not_false, Bool.false_or, Bool.true_or, Bool.or_true, Bool.not_not, List.length_cons, List.length_nil, sizeMax, Nat.reduceAdd, Nat.reduceLeDiff, ne_eq, pick, List.getElem?_cons_zero, List.getElem?_cons_succ,
  r_glob c0, r_glob c1, r_glob c2, r_glob c3, r_glob c4, r_glob c5, r_glob c6, r_glob c7, r_glob c8, r_glob c9, r_glob c10, r_glob c11, r_glob c12, r_glob c13, r_glob c14, r_glob c15, r_glob c16, r_glob c17, r_glob c18, r_glob c19, r_glob c20])
variable {W k : Nat} {st : Store} {Q : U → Store → Prop}
theorem app_ok {p : Nat} {us : List U} (h : st[p]? = some (.lst us)) : r1Ok .append (.m p) st = true := by
  simp only [r1Ok, h]
theorem app_wp {p : Nat} {us : List U} {u : U} (h : st[p]? = some (.lst us)) (hl : us.length < 16777216) (q : Q (.d .none) (st.set p (.lst (us ++ [u])))) : (m1D .append (.m p) u st).wp Q := by
  simp only [m1D, h]
  rw [if_pos (show us.length < Ev.sizeMax from hl)]
  exact q
theorem Stp.cell {n p : Nat} {st st1 : Store} {c : Cell} (g : Stp n st st1) (hp : p ≠ n) (h : st[p]? = some c) : st1[p]? = some c := by
  have hl := (List.getElem?_eq_some_iff.mp h).1
  rw [g.1.2.2.1 p hl hp, h]
theorem all_n {P : D → Prop} : ∀ y ∈ ([] : List D), P y := fun _ h => nomatch h
theorem r35 {n : Nat} (hF : Flat st) (h : Has n st) {ss : List Int} (hs : ss.length ≤ 4) {many : Int} (m0 : 0 ≤ many) (m1 : many ≤ 100) (q : ∀ (xs : List D) (st1 : Store), (∀ x ∈ xs, EasyR x) → (xs.length : Int) = many → Stp n st st1 → Q (.d (.list xs)) st1) : (callU G (cpK G W (k + 4)) (cmK G W (k + 4)) 35 [.m n, .d (.tuple (ss.map .int)), .d (.int many)] st).wp Q := by
  refine mut_wp_low (F := f35) rfl rfl ?_
  refine call_by (F := f35) rfl rfl ?_
  show (exSs G W _ _ b35 [some (.m n), some (.d (.tuple (ss.map .int))), some (.d (.int many)), none, none] st).wp _
  unfold b35
  get_elem_tactic_trivial
  refine ⟨⟨by omega, by omega⟩, ?_⟩
  have hn := h.lt
  refine for_wp_n (fun j ε s => ∃ (xs : List D) (x4 : Option U), ε = [some (.m n), some (.d (.tuple (ss.map .int))), some (.d (.int many)), some (.m st.length), x4] ∧ Grw n st s ∧ s[st.length]? = some (.lst (xs.map .d)) ∧ (∀ x ∈ xs, EasyR x) ∧ xs.length + j = many.toNat) (fun u hu j ε s hI => ?_) (fun ε s hI => ?_) ?_
  · obtain ⟨xs, x4, rfl, g, hc, he, hj⟩ := hI
    refine ⟨_, rfl, ?_⟩
    show (exSs G W _ _ _ [some (.m n), some (.d (.tuple (ss.map .int))), some (.d (.int many)), some (.m st.length), some u] s).wp _
    get_elem_tactic_trivial
    refine ⟨app_ok hc, ?_⟩
    refine m24 (k := k + 2) g.has _ (by decide) (by decide) fun r s1 _ _ g1 => ?_
    have fin : ∀ x s2, EasyR x → Stp n s s2 → (m1D .append (.m st.length) (.d x) s2).wp fun _ st1 => ∃ (xs : List D) (x4 : Option U), [some (U.m n), some (.d (.tuple (ss.map .int))), some (.d (.int many)), some (.m st.length), some u] = [some (.m n), some (.d (.tuple (ss.map .int))), some (.d (.int many)), some (.m st.length), x4] ∧ Grw n st st1 ∧ st1[st.length]? = some (.lst (xs.map .d)) ∧ (∀ x ∈ xs, EasyR x) ∧ xs.length + j = many.toNat := by
      intro x s2 hx g2
      have hc2 := g2.cell (by omega) hc
      refine app_wp hc2 (by rw [List.length_map]; omega) ?_
      refine ⟨xs ++ [x], _, rfl, (g.stp g2).put (Nat.le_refl _) _, ?_, ?_, ?_⟩
      · rw [get_set hc2, List.map_append]; rfl
      · intro y hy
        rcases List.mem_append.mp hy with hy | hy
        · exact he y hy
        · rw [List.mem_singleton.mp hy]; exact hx
      · rw [List.length_append, List.length_singleton]; omega
    get_elem_tactic_trivial
    refine ⟨fun _ => ?_, fun _ => ?_⟩
    · refine m24 (k := k + 2) g1.has _ (by decide) (by decide) fun a s2 _ _ g2 => ?_
      get_elem_tactic_trivial
      exact fin _ _ (easy1 (okS_of (by decide +kernel))) (g1.trans g2)
    · refine m34 (k := k) g1.has hs fun x s2 hx g2 => ?_
      exact fin _ _ hx (g1.trans g2)
  · obtain ⟨xs, x4, rfl, g, hc, he, hj⟩ := hI
    show (exS G W _ _ (.freeze 3) _ _).wp _
    rw [s_freeze (n := st.length) (us := xs.map .d) rfl hc (toDs_map xs)]
    get_elem_tactic_trivial
    have g2 := (g.put (Nat.le_refl _) Cell.dead).cut
    refine ⟨_, rfl, (g2.flat hF).low _, q xs _ he (by omega) g2⟩
  · refine ⟨[], none, rfl, h.grw.push _, ?_, ⟨all_n, by rw [range_len]; simp⟩⟩
    rw [List.getElem?_append_right (Nat.le_refl _), Nat.sub_self]; rfl
def someD : List D := [.str "point", .str "say", .str "store", .str "keep"]
def keepB : D → Bool
  | .tuple (.str w :: .int i :: _) => memD (.str w) someD || !memD (.int i) [.int 4, .int 5]
  | _ => false
theorem mem_sl1 {xs : List D} {x : D} (h : x ∈ sl xs (some 1) none) : x ∈ xs := by
  cases xs with
  | nil => 
    have : sl ([] : List D) (some 1) none = [] := rfl
    rw [this] at h; cases h
  | cons y ys => rw [sl_one] at h; exact List.mem_cons_of_mem _ h
theorem sl1_len {xs : List D} : (sl xs (some 1) none).length ≤ xs.length := by
  cases xs with
  | nil => exact Nat.le_refl 0
  | cons y ys => rw [sl_one, List.length_cons]; omega
theorem all_app {P : D → Prop} {xs ys : List D} (h1 : ∀ x ∈ xs, P x) (h2 : ∀ x ∈ ys, P x) : ∀ x ∈ xs ++ ys, P x := by
  intro x hx
  rcases List.mem_append.mp hx with hx | hx
  · exact h1 x hx
  · exact h2 x hx
theorem all_c {P : D → Prop} {x : D} {ys : List D} (h1 : P x) (h2 : ∀ x ∈ ys, P x) : ∀ y ∈ x :: ys, P y := by
  intro y hy
  rcases List.mem_cons.mp hy with rfl | hy
  · exact h1
  · exact h2 y hy
section
variable {w : String} {i j l o : Int}
theorem row0 (h : okS w) : RowI (.tuple [.str w]) := ⟨w, [], rfl, h, by decide⟩
theorem row1 (h : okS w) : RowI (.tuple [.str w, .int i]) := ⟨w, [i], rfl, h, by simp⟩
theorem row2 (h : okS w) : RowI (.tuple [.str w, .int i, .int j]) := ⟨w, [i, j], rfl, h, by simp⟩
theorem row3 (h : okS w) : RowI (.tuple [.str w, .int i, .int j, .int l]) := ⟨w, [i, j, l], rfl, h, by simp⟩
theorem row4 (h : okS w) : RowI (.tuple [.str w, .int i, .int j, .int l, .int o]) := ⟨w, [i, j, l, o], rfl, h, by simp⟩
end
theorem r36 {n : Nat} (hF : Flat st) (h : Has n st) {ss : List Int} (hs : ss.length ≤ 4) {here lap : Int} (q : ∀ (xs : List D) (st1 : Store), (∀ x ∈ xs, RowI x) → xs.length ≤ 20 → Stp n st st1 → Q (.d (.list xs)) st1) : (callU G (cpK G W (k + 5)) (cmK G W (k + 5)) 36 [.m n, .d (.tuple (ss.map .int)), .d (.int here), .d (.int lap)] st).wp Q := by
  refine (mut_wp (F := f36) rfl rfl (Q := Q) ?_)
  refine call_by (F := f36) rfl rfl ?_
  show (exSs G W _ _ b36 [some (.m n), some (.d (.tuple (ss.map .int))), some (.d (.int here)), some (.d (.int lap)), none, none, none, none, none, none, none] st).wp _
  unfold b36
  rw [wps_cons]
  get_elem_tactic_trivial
  refine m24 (k := k + 3) h _ (by decide) (by decide) fun r s1 r0 r1 g1 => ?_
  refine r35 (k := k) (g1.flat hF) g1.has hs r0 (by omega) fun xs s2 he hl g2 => ?_
  have g2 := g1.trans g2
  get_elem_tactic_trivial
  refine ⟨by omega, ?_⟩
  rw [r_comp]
  get_elem_tactic_trivial
  have hin : ∀ x ∈ [PyData.tuple [.str "point", .int (40 + lap)], .tuple [.str "add", .int 5, .int 5, .int 4]] ++ xs, EasyR x := all_app (all_c (easy1 (okS_of (by decide +kernel))) (all_c (easy3 (okS_of (by decide +kernel))) all_n)) he
  refine filter_on (f := fun x => x) keepB (by rw [List.length_append]; show 2 + xs.length ≤ 16777216; omega) (fun z hz Q q => ?_) ?_
  · obtain ⟨w, i, is, rfl, hw, _⟩ := hin z hz
    rw [turn_wp rfl]
    unfold compQ
    simp only [wipeE, setE, setEs, List.set_cons_succ, List.set_cons_zero, List.map_cons, List.map_nil]
    get_elem_tactic_trivial
    simp only [at_0, at_1]
    get_elem_tactic_trivial
    have e : (decide (w = "point") || (decide (w = "say") || (decide (w = "store") || decide (w = "keep")))) = memD (.str w) someD := by
      simp only [someD, mem_str, mem_nil, Bool.or_false]
    rw [e]
    have hk : keepB (.tuple (.str w :: .int i :: is.map .int)) = (memD (.str w) someD || !memD (.int i) [.int 4, .int 5]) := rfl
    cases h1 : memD (.str w) someD with
    | true =>
      rw [h1, Bool.true_or] at hk
      rw [hk] at q; exact q
    | false =>
      rw [h1, Bool.false_or] at hk
      get_elem_tactic_trivial
      cases h2 : memD (.int i) [.int 4, .int 5] with
      | true => rw [h2] at hk; rw [hk] at q; exact q
      | false => rw [h2] at hk; rw [hk] at q; exact q
  · rw [toDs_map, List.map_id']
    get_elem_tactic_trivial
    have hf : ∀ x ∈ List.filter keepB ([PyData.tuple [.str "point", .int (40 + lap)], .tuple [.str "add", .int 5, .int 5, .int 4]] ++ xs), RowI x := by
      intro x hx
      exact (hin x (List.mem_filter.mp hx).1).row
    have hfl : (List.filter keepB ([PyData.tuple [.str "point", .int (40 + lap)], .tuple [.str "add", .int 5, .int 5, .int 4]] ++ xs)).length ≤ 5 := by
      have h1 := List.length_filter_le keepB ([PyData.tuple [.str "point", .int (40 + lap)], .tuple [.str "add", .int 5, .int 5, .int 4]] ++ xs)
      rw [List.length_append] at h1
      have h2 : [PyData.tuple [.str "point", .int (40 + lap)], .tuple [.str "add", .int 5, .int 5, .int 4]].length = 2 := rfl
      omega
    generalize List.filter keepB ([PyData.tuple [.str "point", .int (40 + lap)], .tuple [.str "add", .int 5, .int 5, .int 4]] ++ xs) = ys at hf hfl ⊢
    have hsl := sl1_len (xs := ys)
    refine ⟨by omega, ?_⟩
    refine m24 (k := k + 3) g2.has _ (by decide) (by decide) fun a s3 _ _ g3 => ?_
    have g3 := g2.trans g3
    get_elem_tactic_trivial
    simp only [setEs, set_0, set_s]
    get_elem_tactic_trivial
    refine m25 (k := k + 2) g3.has _ (by decide) (by decide) fun x s4 hx g4 => ?_
    have g4 := g3.trans g4
    have hx : ∃ c : Int, x = .int c := by
      simp only [List.mem_cons, List.not_mem_nil, or_false] at hx
      rcases hx with rfl | rfl <;> exact ⟨_, rfl⟩
    obtain ⟨c, rfl⟩ := hx
    get_elem_tactic_trivial
    simp only [List.length_append, List.length_cons, List.length_nil]
    refine ⟨by omega, by omega, by omega, ⟨g4.2, q _ _ ?_ ?_ g4⟩⟩
    · have o : ∀ {w : String}, decide ((Str.ofString w).length ≤ 100) = true ∧ PyData.strOk w = true → okS w := okS_of
      refine all_app (all_app (all_app (all_app (all_c (row1 (o ?_)) (all_c (row2 (o ?_)) (all_c (row2 (o ?_)) (all_c (row0 (o ?_)) all_n)))) (all_c (row1 (o ?_)) (all_c (row2 (o ?_)) (all_c (row3 (o ?_)) all_n)))) (all_c (row4 (o ?_)) all_n)) (all_app (all_c (row1 (o ?_)) (all_c (row3 (o ?_)) all_n)) (fun x hx => hf x (mem_sl1 hx)))) (all_c (row1 (o ?_)) all_n)
      all_goals decide +kernel
    · simp only [List.length_append, List.length_cons, List.length_nil]
      omega
end K34
end

section
set_option maxRecDepth 100000
set_option autoImplicit false
namespace K34
open Ev PySem
/-- the evaluator's steps -/
local macro_rules | `(tactic| get_elem_tactic_trivial) => `(tactic| simp only [wps_cons, wps_nil, wp_ok, r_int, r_str, r_bool, r_none, r_var, r_bin, r_neg, r_not, r_cmp, r_chain, r_and, r_or, r_ite, r_tup, r_lst, r_alloc, r_alloc0, r_ix, r_call, r_callK, r_bcall, r_isty, r_meth0, r_meth1, r_dict, r_slice, r_rep, r_nil, r_cons, r_lam, r_fnv, r_callV, r_dm, r_isn, r_catM, r_tupX, r_trip, r_weak, r_tix, s_pass, s_ret, s_retN, s_asg, s_asgS, s_sub, s_tup, s_tgs0, s_tgs, s_tgN, s_par, s_par3, s_ex, s_aug, s_if, s_for, s_brk, s_cnt,
  var_0, var_s, fun_0, fun_s, tst_t, tst_f, tst_d, tst_n, neg_i, not_b, bin_add, bin_sub, bin_mul, bin_fdiv, bin_mod, bin_pow, bin_str, bin_lst, bin_tup, cmp_lt, cmp_le, cmp_gt, cmp_ge, cmp_eqI, cmp_neI, cmp_eqS, cmp_neS, cmp_eqB, cmp_is, cmp_isn, cmp_isB, cmp_isnB, cmp_inT, cmp_inL, cmp_ninT, cmp_ninL, cmp_inS, cmp_ninS, ty_d, ty_int, ty_bool, ty_str, ty_tup, unt_t, aug_0, aug_s, augr_add, augr_sub, opt_some, opt_map, opt_if, set_0, set_s, tupQ, toDs, Option.map_some, Option.map_none,
  wp_bind, part_0, part_1, sl_list, sl_tuple, sl_map, wk_list, wk_tuple, walk_r1, walk_r2, at1_0, at2_0, at2_1, at3_0, at3_1, at3_2, ix_list, ix_tuple, bf_int, bf_intB, bf_abs, bf_lenL, bf_lenT, bf_max, bf_min, divmod_wp, bf_repr, len_str, bf_tupL,
  str_eq, String.reduceEq, mem_str, mem_nil, flat_str, flat_int, List.all_cons, List.all_nil, Bool.and_self, Bool.or_false, decide_true, decide_false, not_true, not_false_eq_true, true_and, and_true, true_implies, false_implies, implies_true, Bool.not_true, Bool.not_false, Bool.false_or, Bool.true_or, Bool.or_true, Bool.not_not, List.length_cons, List.length_nil, sizeMax, Nat.reduceAdd, Nat.reduceLeDiff, ne_eq, pick, List.getElem?_cons_zero, List.getElem?_cons_succ,
  r_glob c0, r_glob c1, r_glob c2, r_glob c3, r_glob c4, r_glob c5, r_glob c6, r_glob c7, r_glob c8, r_glob c9, r_glob c10, r_glob c11, r_glob c12, r_glob c13, r_glob c14, r_glob c15, r_glob c16, r_glob c17, r_glob c18, r_glob c19, r_glob c20])
variable {W k : Nat} {st : Store} {Q : U → Store → Prop}
structure Cal (n : Nat) (st : Store) (u : U) (P : Nat → Store → Prop) : Prop where
  step : ∀ {len : Nat} {s s' : Store}, P len s → Stp n s s' → P len s'
  mono : ∀ {len len' : Nat} {s : Store}, P len s → len ≤ len' → P len' s
  has : ∀ {len : Nat} {s : Store}, P len s → Has n s ∧ Flat s ∧ s.length = st.length
  call : (u = .d .none) ∨ ∃ p, u = .m p ∧ ∀ {len : Nat} {s : Store}, P len s → ∃ us, s[p]? = some (.lst us) ∧ us.length ≤ len ∧ P (len + 2) (s.set p (.lst (us ++ [.d (.int ((len : Int) + 1))])))
theorem r37 {n : Nat} {u : U} {P : Nat → Store → Prop} (C : Cal n st u P) (hP : P 1 st) {ss : List Int} (hs : ss.length ≤ 4) {at_ : Int} (q : ∀ (xs : List D) (st1 : Store), (∀ x ∈ xs, RowI x) → 1 ≤ xs.length → xs.length ≤ 100 → P xs.length st1 → Q (.d (.list xs)) st1) : (callU G (cpK G W (k + 6)) (cmK G W (k + 6)) 37 [.m n, .d (.tuple (ss.map .int)), .d (.int at_), u] st).wp Q := by
  refine (mut_wp (F := f37) rfl rfl (Q := Q) ?_)
  refine call_by (F := f37) rfl rfl ?_
  show (exSs G W _ _ b37 [some (.m n), some (.d (.tuple (ss.map .int))), some (.d (.int at_)), some u, none, none, none, none, none, none, none, none] st).wp _
  unfold b37
  get_elem_tactic_trivial
  refine m24 (k := k + 4) (C.has hP).1 _ (by decide) (by decide) fun r s1 r0 r1 g1 => ?_
  get_elem_tactic_trivial
  refine ⟨⟨by omega, by omega⟩, ?_⟩
  refine for_wp_n (fun j ε s => ∃ (xs : List D) (x5 x6 x7 x8 x9 x10 x11 : Option U), ε = [some (.m n), some (.d (.tuple (ss.map .int))), some (.d (.int at_)), some u, some (.d (.list xs)), x5, x6, x7, x8, x9, x10, x11] ∧ (∀ x ∈ xs, RowI x) ∧ 1 ≤ xs.length ∧ xs.length + 20 * j ≤ 100 ∧ P xs.length s) (fun v hv j ε s hI => ?_) (fun ε s hI => ?_) ?_
  · obtain ⟨xs, x5, x6, x7, x8, x9, x10, x11, rfl, he, h1, hj, hp⟩ := hI
    obtain ⟨lap, rfl, _, _⟩ := range_mem hv
    refine ⟨_, rfl, ?_⟩
    show (exSs G W _ _ _ [some (.m n), some (.d (.tuple (ss.map .int))), some (.d (.int at_)), some u, some (.d (.list xs)), some (.d (.int lap)), x6, x7, x8, x9, x10, x11] s).wp _
    rw [wps_cons]
    simp only [s_par, r_cons, r_nil, r_call, r_var, var_0, var_s, r_int]
    refine m24 (k := k + 4) (C.has hp).1 _ (by decide) (by decide) fun way s2 _ _ g2 => ?_
    have hp2 := C.step hp g2
    get_elem_tactic_trivial
    simp only [setEs, set_0, set_s]
    get_elem_tactic_trivial
    have more : ∀ (ys : List D) (s3 : Store) (ε : Ev.Env), (∀ x ∈ ys, RowI x) → ys.length ≤ 20 → P xs.length s3 → (∃ (x5 x6 x7 x8 x9 x10 x11 : Option U), ε = [some (.m n), some (.d (.tuple (ss.map .int))), some (.d (.int at_)), some u, some (.d (.list (xs ++ ys))), x5, x6, x7, x8, x9, x10, x11]) → ∃ (xs : List D) (x5 x6 x7 x8 x9 x10 x11 : Option U), ε = [some (.m n), some (.d (.tuple (ss.map .int))), some (.d (.int at_)), some u, some (.d (.list xs)), x5, x6, x7, x8, x9, x10, x11] ∧ (∀ x ∈ xs, RowI x) ∧ 1 ≤ xs.length ∧ xs.length + 20 * j ≤ 100 ∧ P xs.length s3 := by
      rintro ys s3 ε hy hl hp3 ⟨x5, x6, x7, x8, x9, x10, x11, rfl⟩
      exact ⟨xs ++ ys, x5, x6, x7, x8, x9, x10, x11, rfl, all_app he hy, by rw [List.length_append]; omega, by rw [List.length_append]; omega, C.mono hp3 (by rw [List.length_append]; omega)⟩
    refine ⟨fun _ => ?_, fun _ => ?_⟩
    · refine m24 (k := k + 4) (C.has hp2).1 _ (by decide) (by decide) fun a s3 a0 a1 g3 => ?_
      have hp3 := C.step hp2 g3
      get_elem_tactic_trivial
      refine r35 (k := k + 1) (C.has hp3).2.1 (C.has hp3).1 hs (by omega) (by omega) fun one s4 h4 l4 g4 => ?_
      have hp4 := C.step hp3 g4
      refine m24 (k := k + 4) (C.has hp4).1 _ (by decide) (by decide) fun b s5 b0 b1 g5 => ?_
      have hp5 := C.step hp4 g5
      refine r35 (k := k + 1) (C.has hp5).2.1 (C.has hp5).1 hs (by omega) (by omega) fun two s6 h6 l6 g6 => ?_
      have hp6 := C.step hp5 g6
      get_elem_tactic_trivial
      refine m24 (k := k + 4) (C.has hp6).1 _ (by decide) (by decide) fun d s7 d0 d1 g7 => ?_
      have hp7 := C.step hp6 g7
      get_elem_tactic_trivial
      simp only [List.length_append, List.length_cons, List.length_nil]
      refine ⟨by omega, by omega, by omega, by omega, ?_⟩
      refine more ([.tuple [.str "branch", .int d, _, _]] ++ one ++ [.tuple [.str "jump", _]] ++ two) _ _ ?_ ?_ hp7 ⟨_, _, _, _, _, _, _, by simp only [List.append_assoc]; rfl⟩
      · exact all_app (all_app (all_app (all_c (row3 (okS_of (by decide +kernel))) all_n) fun x hx => (h4 x hx).row) (all_c (row1 (okS_of (by decide +kernel))) all_n)) fun x hx => (h6 x hx).row
      · simp only [List.length_append, List.length_cons, List.length_nil]; omega
    refine ⟨fun _ => ?_, fun _ => ?_⟩
    · refine r36 (k := k) (C.has hp2).2.1 (C.has hp2).1 hs fun ys s3 h3 l3 g3 => ?_
      get_elem_tactic_trivial
      refine ⟨by omega, ?_⟩
      exact more ys _ _ h3 l3 (C.step hp2 g3) ⟨_, _, _, _, _, _, _, rfl⟩
    refine ⟨fun _ => ?_, fun _ => ?_⟩
    · refine ⟨by omega, ?_⟩
      exact more _ _ _ (all_c (row1 (okS_of (by decide +kernel))) (all_c (row0 (okS_of (by decide +kernel))) all_n)) (by simp) hp2 ⟨_, _, _, _, _, _, _, rfl⟩
    have other : (callU G (cpK G W (k + 5)) (cmK G W (k + 5)) 24 [.m n, .d (.int 5)] s2).wp fun y st2 => binQ .Add (.d (.int 1)) y fun z => (callU G (cpK G W (k + 5)) (cmK G W (k + 5)) 35 [.m n, .d (.tuple (ss.map .int)), z] st2).wp fun y st2 => binQ .Add (.d (.list xs)) y fun z => ∃ (xs_1 : List D) (y5 y6 y7 y8 y9 y10 y11 : Option U),
                [some (U.m n), some (.d (.tuple (ss.map .int))), some (.d (.int at_)), some u, some z, some (.d (.int lap)), some (.d (.int way)), some (.d (.int (at_ + (xs.length : Int)))), x8, x9, x10, x11] =
                    [some (U.m n), some (.d (.tuple (ss.map .int))), some (.d (.int at_)), some u, some (.d (.list xs_1)), y5, y6, y7, y8, y9, y10, y11] ∧
                  (∀ x ∈ xs_1, RowI x) ∧ 1 ≤ xs_1.length ∧ xs_1.length + 20 * j ≤ 100 ∧ P xs_1.length st2 := by
      refine m24 (k := k + 4) (C.has hp2).1 _ (by decide) (by decide) fun a s3 a0 a1 g3 => ?_
      have hp3 := C.step hp2 g3
      get_elem_tactic_trivial
      refine r35 (k := k + 1) (C.has hp3).2.1 (C.has hp3).1 hs (by omega) (by omega) fun one s4 h4 l4 g4 => ?_
      get_elem_tactic_trivial
      refine ⟨by omega, ?_⟩
      exact more one _ _ (fun x hx => (h4 x hx).row) (by omega) (C.step hp3 g4) ⟨_, _, _, _, _, _, _, rfl⟩
    refine ⟨fun _ => ?_, fun _ => other⟩
    rcases C.call with rfl | ⟨p, rfl, hc⟩
    · exact other
    · obtain ⟨us, e1, l1, hp3⟩ := hc hp2
      show r1Ok M1.append (.m p) s2 = true ∧ _
      refine ⟨app_ok e1, ?_⟩
      refine app_wp e1 (by omega) ?_
      refine ⟨by omega, ?_⟩
      refine ⟨_, _, _, _, _, _, _, _, rfl, all_app he (all_c (row1 (okS_of (by decide +kernel))) (all_c (row1 (okS_of (by decide +kernel))) all_n)), ?_, ?_, ?_⟩
      · rw [List.length_append]; omega
      · rw [List.length_append]; show _ + 2 + _ ≤ 100; omega
      · rw [List.length_append]; exact hp3
  · obtain ⟨xs, x5, x6, x7, x8, x9, x10, x11, rfl, he, h1, hj, hp⟩ := hI
    get_elem_tactic_trivial
    exact ⟨(C.has hp).2.2, q xs s he h1 (by omega) hp⟩
  · exact ⟨_, _, _, _, _, _, _, _, rfl, all_c (row1 (okS_of (by decide +kernel))) all_n, Nat.le_refl 1, by rw [range_len]; show 1 + 20 * _ ≤ 100; omega, C.step hP g1⟩
end K34
end

section
set_option maxRecDepth 100000
set_option autoImplicit false
namespace K34
open Ev PySem
/-- the evaluator's steps -/
local macro_rules | `(tactic| get_elem_tactic_trivial) => `(tactic| simp only [wps_cons, wps_nil, wp_ok, r_int, r_str, r_bool, r_none, r_var, r_bin, r_neg, r_not, r_cmp, r_chain, r_and, r_or, r_ite, r_tup, r_lst, r_alloc, r_alloc0, r_ix, r_call, r_callK, r_bcall, r_isty, r_meth0, r_meth1, r_dict, r_slice, r_rep, r_nil, r_cons, r_lam, r_fnv, r_callV, r_dm, r_isn, r_catM, r_tupX, r_trip, r_weak, r_tix, s_pass, s_ret, s_retN, s_asg, s_asgS, s_sub, s_tup, s_tgs0, s_tgs, s_tgN, s_par, s_par3, s_ex, s_aug, s_if, s_for, s_brk, s_cnt,
  var_0, var_s, fun_0, fun_s, tst_t, tst_f, tst_d, tst_n, neg_i, not_b, bin_add, bin_sub, bin_mul, bin_fdiv, bin_mod, bin_pow, bin_str, bin_lst, bin_tup, cmp_lt, cmp_le, cmp_gt, cmp_ge, cmp_eqI, cmp_neI, cmp_eqS, cmp_neS, cmp_eqB, cmp_is, cmp_isn, cmp_isB, cmp_isnB, cmp_inT, cmp_inL, cmp_ninT, cmp_ninL, cmp_inS, cmp_ninS, ty_d, ty_int, ty_bool, ty_str, ty_tup, unt_t, aug_0, aug_s, augr_add, augr_sub, opt_some, opt_map, opt_if, set_0, set_s, tupQ, toDs, Option.map_some, Option.map_none,
  wp_bind, part_0, part_1, sl_list, sl_tuple, sl_map, wk_list, wk_tuple, walk_r1, walk_r2, at1_0, at2_0, at2_1, at3_0, at3_1, at3_2, ix_list, ix_tuple, bf_int, bf_intB, bf_abs, bf_lenL, bf_lenT, bf_max, bf_min, divmod_wp, bf_repr, len_str, bf_tupL,
  str_eq, String.reduceEq, mem_str, mem_nil, flat_str, flat_int, List.all_cons, List.all_nil, Bool.and_self, Bool.or_false, decide_true, decide_false, not_true, not_false_eq_true, true_and, and_true, true_implies, false_implies, implies_true, Bool.not_true, Bool.not_false, Bool.false_or, Bool.true_or, Bool.or_true, Bool.not_not, List.length_cons, List.length_nil, sizeMax, Nat.reduceAdd, Nat.reduceLeDiff, ne_eq, pick, List.getElem?_cons_zero, List.getElem?_cons_succ,
  r_glob c0, r_glob c1, r_glob c2, r_glob c3, r_glob c4, r_glob c5, r_glob c6, r_glob c7, r_glob c8, r_glob c9, r_glob c10, r_glob c11, r_glob c12, r_glob c13, r_glob c14, r_glob c15, r_glob c16, r_glob c17, r_glob c18, r_glob c19, r_glob c20])
variable {W k : Nat} {st : Store} {Q : U → Store → Prop}
theorem comp_wp_n {f : U → Store → R (Option U)} {Q : List U → Store → Prop} (I : Nat → List U → Store → Prop) : ∀ {items : List U} {acc : List U} {st : Store}, acc.length + items.length ≤ sizeMax → (∀ u ∈ items, ∀ n acc st, I (n + 1) acc st → (f u st).wp fun o st1 => match o with
      | none => I n acc st1
      | some x => I n (acc ++ [x]) st1) → (∀ acc st, I 0 acc st → Q acc st) → I items.length acc st → (compLoop f items acc st).wp Q
  | [], acc, st, _, _, fin, h => fin acc st h
  | u :: us, acc, st, hl, step, fin, h => by
    rw [List.length_cons] at hl
    unfold compLoop
    rw [wp_bind]
    refine (step u (List.mem_cons_self ..) us.length acc st h).imp fun o st1 z => ?_
    cases o with
    | none => exact comp_wp_n I (by omega) (fun v hv => step v (List.mem_cons_of_mem _ hv)) fin z
    | some x =>
      simp only
      rw [if_pos (by omega)]
      exact comp_wp_n I (by rw [List.length_append, List.length_singleton]; omega) (fun v hv => step v (List.mem_cons_of_mem _ hv)) fin z
theorem cat_wp {xs ys : List D} (hl : xs.length + ys.length ≤ 16777216) (q : Q (.m st.length) (st ++ [.lst ((xs ++ ys).map .d)])) : (catU (.d (.list xs)) (.d (.list ys)) st).wp Q := by
  show (if xs.length + ys.length ≤ Ev.sizeMax then R.ok _ _ else R.stuck).wp Q
  rw [if_pos (show xs.length + ys.length ≤ Ev.sizeMax from hl)]
  exact q
theorem len_m {n : Nat} {us : List U} (h : st[n]? = some (.lst us)) : (bfD .len [.m n] st).wp Q = Q (.d (.int us.length)) st := by
  simp only [bfD, h]
  rfl
theorem mut_wp_any {G : Gm} {f : Nat} {F : Fn} {us : List U} (e : G.fns[f]? = some F) (hp : F.pure = false) (h : (callRaw G W k f us st).wp fun u st' => lowU st.length u = true ∧ (st'.take st.length).all (lowC st.length) = true ∧ Q u (st'.take st.length)) : (callU G (cpK G W k) (cmK G W k) f us st).wp Q := by
  unfold callU
  rw [e]
  simp only [hp, Bool.false_eq_true, if_false]
  show (cutStore st.length (callRaw G W k f us st)).wp Q
  obtain ⟨u, st1, e1, h1, h2, h3⟩ := h.get
  rw [e1]
  unfold cutStore
  simp only [h1, h2, Bool.and_self, if_true]
  by_cases hk : st1.length = st.length
  · rw [if_pos hk]
    rw [List.take_of_length_le (Nat.le_of_eq hk)] at h3
    exact h3
  · rw [if_neg hk]
    exact h3
theorem flat_app {c : Cell} (h : Flat st) (hc : lowC 0 c = true) : Flat (st ++ [c]) := by
  intro d hd
  rcases List.mem_append.mp hd with hd | hd
  · exact h d hd
  · rw [List.mem_singleton.mp hd]; exact hc
theorem flat_set {n : Nat} {c : Cell} (h : Flat st) (hc : lowC 0 c = true) : Flat (st.set n c) := by
  intro d hd
  rcases List.mem_or_eq_of_mem_set hd with hd | rfl
  · exact h d hd
  · exact hc
theorem low_ds (xs : List D) : lowC 0 (.lst (xs.map .d)) = true := by
  show (xs.map U.d).all (lowU 0) = true
  rw [List.all_map, List.all_eq_true]
  intro x _
  rfl
def callsP (n L : Nat) (s0 : Store) (len : Nat) (s : Store) : Prop := Grw n s0 s ∧ Flat s ∧ s.length = s0.length + 1 ∧ ∃ js : List Int, s[s0.length]? = some (.lst ((js.map PyData.int).map .d)) ∧ js.length ≤ len ∧ ∀ j ∈ js, 0 ≤ j ∧ j < (len : Int)
theorem calls_cal {n : Nat} {s0 : Store} (s1 : Store) (h1 : s1.length = s0.length + 1) : Cal n s1 (.m s0.length) (callsP n s0.length s0) where
  step := by
    rintro len s s' ⟨g, f, l, js, e, a, b⟩ h
    exact ⟨g.stp h, h.flat f, by rw [h.2, l], js, h.cell (Nat.ne_of_gt g.1) e, a, b⟩
  mono := by
    rintro len len' s ⟨g, f, l, js, e, a, b⟩ h
    exact ⟨g, f, l, js, e, by omega, fun j hj => ⟨(b j hj).1, by have := (b j hj).2; omega⟩⟩
  has := by
    rintro len s ⟨g, f, l, js, e, a, b⟩
    exact ⟨g.has, f, by rw [l, h1]⟩
  call := by
    refine .inr ⟨_, rfl, ?_⟩
    rintro len s ⟨g, f, l, js, e, a, b⟩
    refine ⟨_, e, by rw [List.length_map, List.length_map]; exact a, g.put (Nat.le_refl _) _, ?_, by rw [List.length_set, l], js ++ [(len : Int) + 1], ?_, ?_, ?_⟩
    · have : ((js.map PyData.int).map U.d) ++ [.d (.int ((len : Int) + 1))] = ((js ++ [(len : Int) + 1]).map PyData.int).map .d := by
        rw [List.map_append, List.map_append]; rfl
      rw [this]
      exact flat_set f (low_ds _)
    · rw [get_set e, List.map_append, List.map_append]; rfl
    · rw [List.length_append, List.length_singleton]; omega
    · intro j hj
      rcases List.mem_append.mp hj with hj | hj
      · have := b j hj
        omega
      · rw [List.mem_singleton.mp hj]; omega
theorem none_cal {n : Nat} {s1 : Store} (hf : Flat s1) : Cal n s1 (.d .none) (fun _ s => Stp n s1 s) where
  step := fun h g => h.trans g
  mono := fun h _ => h
  has := fun h => ⟨h.has, h.flat hf, h.2⟩
  call := .inl rfl
abbrev stopD : D := .tuple [.str "stop"]
theorem set_sub {n : Nat} {us : List U} {i : Int} {v : U} {Q : Unit → Store → Prop} (h : st[n]? = some (.lst us)) (h1 : 0 ≤ i) (h2 : i < us.length) (q : Q () (st.set n (.lst (us.set i.toNat v)))) : (setSub (.m n) (.d (.int i)) v st).wp Q := by
  have e : L2.ixN us.length i = some i.toNat := by
    unfold L2.ixN
    rw [if_pos h1, if_pos h2]
  simp only [setSub, h, e]
  exact q
def w38 : Ss := sTl (sTl b38)
theorem tail38 {n : Nat} {s0 : Store} (hF : Flat s0) (h : Has n s0) {ss : List Int} (hs : ss.length ≤ 4) (q : ∀ (rs : List D) (st1 : Store), (∀ x ∈ rs, RowI x) → rs.length ≤ 300 → stopD ∈ rs → Grw n s0 st1 → Q (.s (.t3 (.tuple (ss.map .int)) (.int 0) rs)) st1) :
    (exSs G W (cpK G W (k + 6)) (cmK G W (k + 6)) w38 [some (.m n), some (.d (.tuple (ss.map .int))), some (.m s0.length), none, none, none] (s0 ++ [.lst []])).wp { nx := fun _ st => Q (.d .none) st, rt := Q } := by
  simp only [w38, sTl, b38]
  get_elem_tactic_trivial
  refine r37 (k := k) (calls_cal (s0 := s0) _ (by rw [List.length_append]; rfl)) ?_ hs fun xs s1 hx l1 l2 hp => ?_
  · refine ⟨h.grw.push _, flat_app hF rfl, by rw [List.length_append]; rfl, [], ?_, Nat.zero_le _, fun _ h => nomatch h⟩
    rw [List.getElem?_append_right (Nat.le_refl _), Nat.sub_self]; rfl
  obtain ⟨g1, f1, e1, js, c1, j1, j2⟩ := hp
  refine cat_wp (by simp only [List.length_cons, List.length_nil]; omega) ?_
  have f2 := flat_app f1 (low_ds (xs ++ [stopD]))
  have cM : (s1 ++ [Cell.lst ((xs ++ [stopD]).map .d)])[s1.length]? = some (.lst ((xs ++ [stopD]).map .d)) := by
    rw [List.getElem?_append_right (Nat.le_refl _), Nat.sub_self]; rfl
  have g2 := g1.push (.lst ((xs ++ [stopD]).map .d))
  rw [len_m cM]
  refine r37 (k := k) (none_cal (n := n) f2) g2.has.stp hs fun ys s2 hy l3 l4 g3 => ?_
  have g4 := g2.stp g3
  have hlt : n < s0.length := h.lt
  have c2 : s2[s1.length]? = some (.lst ((xs ++ [stopD]).map .d)) := g3.cell (by omega) cM
  have d2 : s2[s0.length]? = some (.lst ((js.map PyData.int).map .d)) := g3.cell (by omega) (by rw [List.getElem?_append_left (by omega)]; exact c1)
  get_elem_tactic_trivial
  refine ⟨by omega, ?_⟩
  show (exS G W _ _ (.freeze 2) _ _).wp _
  rw [s_freeze (n := s0.length) rfl d2 (toDs_map _)]
  simp only [setE, List.set_cons_succ, List.set_cons_zero]
  get_elem_tactic_trivial
  have g5 := g4.put (Nat.le_refl _) Cell.dead
  have c3 : (s2.set s0.length Cell.dead)[s1.length]? = some (.lst ((xs ++ [stopD]).map .d)) := by
    rw [List.getElem?_set_ne (by omega)]; exact c2
  refine for_wp (fun ε s => ∃ (zs : List D) (x5 : Option U), ε = [some (.m n), some (.d (.tuple (ss.map .int))), some (.d (.list (js.map .int))), some (.m s1.length), some (.d (.list (ys ++ [.tuple [.str "back"]]))), x5] ∧ Grw n s0 s ∧ s[s1.length]? = some (.lst (zs.map .d)) ∧ (∀ x ∈ zs, RowI x) ∧ zs.length = xs.length + 1 ∧ zs[xs.length]? = some stopD) (fun u hu ε s hI => ?_) (fun ε s hI => ?_) ?_
  · obtain ⟨zs, x5, rfl, g, c, hz, lz, ez⟩ := hI
    rw [List.map_map] at hu
    obtain ⟨j, hj, rfl⟩ := List.mem_map.mp hu
    obtain ⟨b1, b2⟩ := j2 j hj
    refine ⟨_, rfl, ?_⟩
    show (exSs G W _ _ _ [some (.m n), some (.d (.tuple (ss.map .int))), some (.d (.list (js.map .int))), some (.m s1.length), some (.d (.list (ys ++ [.tuple [.str "back"]]))), some (.d (.int j))] s).wp _
    get_elem_tactic_trivial
    rw [len_m c]
    get_elem_tactic_trivial
    refine set_sub c b1 (by rw [List.length_map]; omega) ?_
    refine ⟨zs.set j.toNat (.tuple [.str "call", .int zs.length]), _, rfl, g.put (p := s1.length) (by omega) _, ?_, ?_, ?_, ?_⟩
    · rw [get_set c, List.map_set]
      simp only [List.length_map]
    · intro x hx
      rcases List.mem_or_eq_of_mem_set hx with hx | rfl
      · exact hz x hx
      · exact row1 (okS_of (by decide +kernel))
    · rw [List.length_set]; exact lz
    · rw [List.getElem?_set_ne (show j.toNat ≠ xs.length by omega)]; exact ez
  · obtain ⟨zs, x5, rfl, g, c, hz, lz, ez⟩ := hI
    show (exS G W _ _ (.freeze 3) _ _).wp _
    rw [s_freeze (n := s1.length) rfl c (toDs_map _)]
    simp only [setE, List.set_cons_succ, List.set_cons_zero]
    get_elem_tactic_trivial
    simp only [List.length_append, List.length_cons, List.length_nil]
    refine ⟨by omega, ?_⟩
    refine q (zs ++ (ys ++ [.tuple [.str "back"]])) _ ?_ ?_ ?_ (g.put (p := s1.length) (by omega) _)
    · exact all_app hz (all_app hy (all_c (row0 (okS_of (by decide +kernel))) all_n))
    · simp only [List.length_append, List.length_cons, List.length_nil]; omega
    · exact List.mem_append_left _ (List.mem_of_getElem? ez)
  · refine ⟨_, none, rfl, g5, c3, all_app hx (all_c (row0 (okS_of (by decide +kernel))) all_n), by rw [List.length_append]; rfl, ?_⟩
    rw [List.getElem?_append_right (Nat.le_refl _), Nat.sub_self]; rfl
theorem m38 {n : Nat} (hF : Flat st) (h : Has n st) (q : ∀ (ss : List Int) (rs : List D) (st1 : Store), ss.length ≤ 4 → (∀ x ∈ rs, RowI x) → rs.length ≤ 300 → stopD ∈ rs → Stp n st st1 → Q (.s (.t3 (.tuple (ss.map .int)) (.int 0) rs)) st1) : (callU G (cpK G W (k + 7)) (cmK G W (k + 7)) 38 [.m n] st).wp Q := by
  refine mut_wp_any (F := f38) rfl rfl ?_
  refine call_by (F := f38) rfl rfl ?_
  show (exSs G W _ _ (.cons (sHd b38) (.cons (sHd (sTl b38)) w38)) [some (.m n), none, none, none, none, none] st).wp _
  simp only [sHd, sTl, b38]
  get_elem_tactic_trivial
  simp only [r_comp]
  get_elem_tactic_trivial
  refine m24 (k := k + 5) h _ (by decide) (by decide) fun r s1 r0 r1 g1 => ?_
  get_elem_tactic_trivial
  refine ⟨⟨by omega, by omega⟩, ?_⟩
  refine comp_wp_n (fun j acc s => ∃ is : List Int, acc = (is.map PyData.int).map .d ∧ is.length + j = r.toNat ∧ Stp n st s) (by rw [range_len]; show 0 + _ ≤ 16777216; omega) (fun u hu j acc s hI => ?_) (fun acc s hI => ?_) ⟨[], rfl, by rw [range_len]; simp, g1⟩
  · obtain ⟨is, rfl, hl, g⟩ := hI
    rw [turn_wp rfl]
    unfold compQ
    simp only [wipeE, setE, setEs, List.set_cons_succ, List.set_cons_zero, List.map_cons, List.map_nil]
    get_elem_tactic_trivial
    refine m25 (k := k + 4) g.has _ (by decide) (by decide) fun x s2 hx g2 => ?_
    have hx : ∃ c : Int, x = .int c := by
      simp only [List.mem_cons, List.not_mem_nil, or_false] at hx
      rcases hx with rfl | rfl | rfl | rfl <;> exact ⟨_, rfl⟩
    obtain ⟨c, rfl⟩ := hx
    exact ⟨is ++ [c], by rw [List.map_append, List.map_append]; rfl, by rw [List.length_append, List.length_singleton]; omega, g.trans g2⟩
  · obtain ⟨is, rfl, hl, g⟩ := hI
    rw [toDs_map]
    get_elem_tactic_trivial
    have hlen : s.length = st.length := g.2
    refine tail38 (k := k) (s0 := s) (ss := is) (Q := fun u st' => lowU st.length u = true ∧ (st'.take st.length).all (lowC st.length) = true ∧ Q u (st'.take st.length)) (g.flat hF) g.has (by omega) fun rs st1 a b c d => ?_
    have gc := d.cut
    rw [hlen] at gc
    have gg := g.trans gc
    exact ⟨rfl, (gg.flat hF).low _, q is rs _ (by omega) a b c gg⟩
end K34
end

section
set_option maxRecDepth 100000
set_option autoImplicit false
namespace K34
open Ev PySem
/-- the evaluator's steps -/
local macro_rules | `(tactic| get_elem_tactic_trivial) => `(tactic| simp only [wps_cons, wps_nil, wp_ok, r_int, r_str, r_bool, r_none, r_var, r_bin, r_neg, r_not, r_cmp, r_chain, r_and, r_or, r_ite, r_tup, r_lst, r_alloc, r_alloc0, r_ix, r_call, r_callK, r_bcall, r_isty, r_meth0, r_meth1, r_dict, r_slice, r_rep, r_nil, r_cons, r_lam, r_fnv, r_callV, r_dm, r_isn, r_catM, r_tupX, r_trip, r_weak, r_tix, s_pass, s_ret, s_retN, s_asg, s_asgS, s_sub, s_tup, s_tgs0, s_tgs, s_tgN, s_par, s_par3, s_ex, s_aug, s_if, s_for, s_brk, s_cnt,
  var_0, var_s, fun_0, fun_s, tst_t, tst_f, tst_d, tst_n, neg_i, not_b, bin_add, bin_sub, bin_mul, bin_fdiv, bin_mod, bin_pow, bin_str, bin_lst, bin_tup, cmp_lt, cmp_le, cmp_gt, cmp_ge, cmp_eqI, cmp_neI, cmp_eqS, cmp_neS, cmp_eqB, cmp_is, cmp_isn, cmp_isB, cmp_isnB, cmp_inT, cmp_inL, cmp_ninT, cmp_ninL, cmp_inS, cmp_ninS, ty_d, ty_int, ty_bool, ty_str, ty_tup, unt_t, aug_0, aug_s, augr_add, augr_sub, opt_some, opt_map, opt_if, set_0, set_s, tupQ, toDs, Option.map_some, Option.map_none,
  wp_bind, part_0, part_1, sl_list, sl_tuple, sl_map, wk_list, wk_tuple, walk_r1, walk_r2, at1_0, at2_0, at2_1, at3_0, at3_1, at3_2, ix_list, ix_tuple, bf_int, bf_intB, bf_abs, bf_lenL, bf_lenT, bf_max, bf_min, divmod_wp, bf_repr, len_str, bf_tupL,
  str_eq, String.reduceEq, mem_str, mem_nil, flat_str, flat_int, List.all_cons, List.all_nil, Bool.and_self, Bool.or_false, decide_true, decide_false, not_true, not_false_eq_true, true_and, and_true, true_implies, false_implies, implies_true, Bool.not_true, Bool.not_false, Bool.false_or, Bool.true_or, Bool.or_true, Bool.not_not, List.length_cons, List.length_nil, sizeMax, Nat.reduceAdd, Nat.reduceLeDiff, ne_eq, pick, List.getElem?_cons_zero, List.getElem?_cons_succ,
  r_glob c0, r_glob c1, r_glob c2, r_glob c3, r_glob c4, r_glob c5, r_glob c6, r_glob c7, r_glob c8, r_glob c9, r_glob c10, r_glob c11, r_glob c12, r_glob c13, r_glob c14, r_glob c15, r_glob c16, r_glob c17, r_glob c18, r_glob c19, r_glob c20])
variable {W k : Nat} {st : Store} {Q : U → Store → Prop}
/-! ### rows that are bent -/
def RowJ (x : D) : Prop := ∃ (w : Str) (ys : List D), x = .tuple (.str w :: ys) ∧ okS w ∧ (∀ y ∈ ys, ok 0 y) ∧ ys.length ≤ 4
theorem RowI.j {x : D} (h : RowI x) : RowJ x := by
  obtain ⟨w, is, rfl, hw, hl⟩ := h
  refine ⟨w, is.map .int, rfl, hw, fun y hy => ?_, by rw [List.length_map]; exact hl⟩
  obtain ⟨i, _, rfl⟩ := List.mem_map.mp hy
  trivial
theorem RowJ.ok {x : D} (h : RowJ x) : ok 1 x := by
  obtain ⟨w, ys, rfl, hw, hy, _⟩ := h
  intro y hy2
  rcases List.mem_cons.mp hy2 with rfl | hy2
  · exact hw
  · exact hy y hy2
def partOf (rs : List D) : List D := rs.map fun r => if headS r = "call" then .tuple [.str "call", .str "f"] else r
theorem partOf_j {rs : List D} (h : ∀ r ∈ rs, RowJ r) : ∀ r ∈ partOf rs, RowJ r := by
  intro r hr
  obtain ⟨x, hx, rfl⟩ := List.mem_map.mp hr
  split
  · refine ⟨"call", [.str "f"], rfl, okS_of (by decide +kernel), fun y hy => ?_, by decide⟩
    rw [List.mem_singleton.mp hy]
    exact okS_of (w := "f") (by decide +kernel)
  · exact h x hx
theorem r39 {n : Nat} {rs : List D} {t : Str} (hl : rs.length ≤ 300) (h : ∀ r ∈ rs, RowJ r) (q : Q (.d (.tuple [.str t, .tuple (partOf rs)])) st) : (callU G (cpK G W (k + 1)) (cmK G W (k + 1)) 39 [.m n, .d (.tuple rs), .d (.str t)] st).wp Q := by
  refine mut_wp (F := f39) rfl rfl (Q := Q) ?_
  refine call_by (F := f39) rfl rfl ?_
  show (exSs G W _ _ b39 [some (.m n), some (.d (.tuple rs)), some (.d (.str t)), none, none] st).wp _
  unfold b39
  get_elem_tactic_trivial
  rw [r_comp]
  get_elem_tactic_trivial
  refine comp_on (f := U.d) (g := fun r => some (.d (if headS r = "call" then .tuple [.str "call", .str "f"] else r))) (by unfold sizeMax; show 0 + _ ≤ _; omega) (fun z hz Q q => ?_) ?_
  · obtain ⟨w, ys, rfl, _⟩ := h z hz
    rw [turn_wp rfl]
    unfold compQ
    simp only [wipeE, setE, setEs, List.set_cons_succ, List.set_cons_zero, List.map_cons, List.map_nil]
    get_elem_tactic_trivial
    simp only [at_0]
    get_elem_tactic_trivial
    have e : headS (.tuple (.str w :: ys)) = w := rfl
    refine ⟨fun h => ?_, fun h => ?_⟩
    · rw [if_pos (e.trans h)] at q; exact q
    · rw [if_neg (fun z => h (e.symm.trans z))] at q; exact q
  · rw [List.nil_append, fm_some, toDs_of]
    get_elem_tactic_trivial
    exact q
theorem mem_sl {xs : List D} {lo hi : Option Int} {x : D} (h : x ∈ sl xs lo hi) : x ∈ xs := List.mem_of_mem_drop (List.mem_of_mem_take h)
theorem sl_len {xs : List D} {lo hi : Option Int} : (sl xs lo hi).length ≤ xs.length := by
  unfold sl
  rw [List.length_take, List.length_drop]
  omega
theorem ok_mono {n : Nat} : ∀ {d : D}, ok n d → ok (n + 1) d := by
  induction n with
  | zero =>
    intro d h
    cases d with
    | list xs => exact h.elim
    | tuple xs => exact h.elim
    | dict xs => exact h.elim
    | str s => exact h
    | _ => trivial
  | succ n ih =>
    intro d h
    cases d with
    | list xs => exact fun x hx => ih (h x hx)
    | tuple xs => exact fun x hx => ih (h x hx)
    | dict xs => exact h.elim
    | str s => exact h
    | _ => trivial
theorem bf_listT {xs : List D} : (bfD (.list false) [.d (.tuple xs)] st).wp Q = Q (.d (.list xs)) st := rfl
def w41 : Ss := sTl (sTl b41)
theorem tail41 {n : Nat} (h : Has n st) {w : Str} {ys : List D} (hw : okS w) (hy : ∀ y ∈ ys, ok 0 y) (hl : ys.length ≤ 4) {c : Int} (c0 : 0 ≤ c) (c1 : c ≤ ys.length + 1) (q : ∀ (x : D) (st1 : Store), ok 1 x → Stp n st st1 → Q (.d x) st1) : (exSs G W (cpK G W (k + 2)) (cmK G W (k + 2)) w41 [some (.m n), some (.d (.tuple (.str w :: ys))), some (.d (.int c)), none] st).wp { nx := fun _ st => Q (.d .none) st, rt := Q } := by
  simp only [w41, sTl, b41]
  get_elem_tactic_trivial
  have hin : ∀ x ∈ (.str w :: ys : List D), ok 0 x := all_c (P := ok 0) (show ok 0 (.str w) from hw) hy
  have tup : ∀ zs : List D, (∀ x ∈ zs, ok 0 x) → ok 1 (.tuple zs) := fun zs h => h
  refine ⟨fun h1 => ?_, fun h1 => ?_⟩
  · refine ⟨by omega, ?_⟩
    rw [bf_listT]
    simp only [at_0, sl_one]
    get_elem_tactic_trivial
    refine ⟨by omega, by omega, ?_⟩
    refine m25 (k := k) h _ ?_ ?_ fun x s2 hx g2 => q _ _ ?_ g2
    · show 0 < 8; decide
    · show 8 < 1073741824; decide
    simp only [List.mem_cons, List.not_mem_nil, or_false] at hx
    rcases hx with rfl | rfl | rfl | rfl | rfl | rfl | rfl | rfl
    · exact tup _ (all_app hin (all_c (P := ok 0) (show ok 0 (.int 0) from trivial) all_n))
    · exact tup _ fun x hx => hin x (mem_sl hx)
    · exact hin
    · trivial
    · exact tup _ all_n
    · exact hw
    · exact tup _ (all_app (all_c (P := ok 0) (show ok 0 (.str "halt") from okS_of (by decide +kernel)) all_n) hy)
    · exact tup _ (all_app (all_c (P := ok 0) (show ok 0 (.int 5) from trivial) all_n) hy)
  · obtain ⟨e, he, e1⟩ := at_in (xs := (.str w :: ys : List D)) c0 (by rw [List.length_cons]; omega)
    rw [e1]
    get_elem_tactic_trivial
    refine m25 (k := k) h _ ?_ ?_ fun x s2 hx g2 => ?_
    · show 0 < 9; decide
    · show 9 < 1073741824; decide
    have hx : ok 0 x := by
      simp only [List.mem_cons, List.not_mem_nil, or_false] at hx
      rcases hx with rfl | rfl | rfl | rfl | rfl | rfl | rfl | rfl | rfl
      · trivial
      · trivial
      · trivial
      · exact okS_of (w := "0") (by decide +kernel)
      · trivial
      · trivial
      · trivial
      · trivial
      · exact hin _ he
    get_elem_tactic_trivial
    have l1 := sl_len (xs := (.str w :: ys : List D)) (lo := none) (hi := some c)
    have l2 := sl_len (xs := (.str w :: ys : List D)) (lo := some (c + 1)) (hi := none)
    rw [List.length_cons] at l1 l2
    rw [List.length_append, List.length_singleton]
    refine ⟨by omega, by omega, q _ _ ?_ g2⟩
    exact tup _ (all_app (all_app (fun x hx => hin x (mem_sl hx)) (all_c (P := ok 0) hx all_n)) fun x hx => hin x (mem_sl hx))
theorem r41 {n : Nat} (h : Has n st) {r : D} (hr : RowJ r) (q : ∀ (x : D) (st1 : Store), ok 1 x → Stp n st st1 → Q (.d x) st1) : (callU G (cpK G W (k + 3)) (cmK G W (k + 3)) 41 [.m n, .d r] st).wp Q := by
  refine mut_wp (F := f41) rfl rfl (Q := Q) ?_
  refine call_by (F := f41) rfl rfl ?_
  show (exSs G W _ _ (.cons (sHd b41) (.cons (sHd (sTl b41)) w41)) [some (.m n), some (.d r), none, none] st).wp _
  simp only [sHd, sTl, b41]
  obtain ⟨w, ys, rfl, hw, hy, hl⟩ := hr
  get_elem_tactic_trivial
  refine m24 (k := k + 1) h _ (by omega) (by omega) fun a s1 a0 a1 g1 => ?_
  get_elem_tactic_trivial
  have rest : ∀ c : Int, 0 ≤ c → c ≤ ys.length + 1 → (exSs G W (cpK G W (k + 2)) (cmK G W (k + 2)) w41 [some (.m n), some (.d (.tuple (.str w :: ys))), some (.d (.int c)), none] s1).wp { nx := fun _ st' => st'.length = st.length ∧ Q (.d .none) st', rt := fun u st' => st'.length = st.length ∧ Q u st' } :=
    fun c c0 c1 => tail41 (k := k) (Q := fun u st' => st'.length = st.length ∧ Q u st') g1.has hw hy hl c0 c1 fun x s2 hx g2 => ⟨(g1.trans g2).2, q x s2 hx (g1.trans g2)⟩
  refine ⟨fun h2 => ?_, fun h2 => rest a a0 (by omega)⟩
  simp only [at_0]
  get_elem_tactic_trivial
  exact ⟨fun _ => rest 1 (by omega) (by omega), fun _ => rest a a0 (by omega)⟩
end K34
end

section
set_option maxRecDepth 100000
set_option autoImplicit false
namespace K34
open Ev PySem
/-- the evaluator's steps -/
local macro_rules | `(tactic| get_elem_tactic_trivial) => `(tactic| simp only [wps_cons, wps_nil, wp_ok, r_int, r_str, r_bool, r_none, r_var, r_bin, r_neg, r_not, r_cmp, r_chain, r_and, r_or, r_ite, r_tup, r_lst, r_alloc, r_alloc0, r_ix, r_call, r_callK, r_bcall, r_isty, r_meth0, r_meth1, r_dict, r_slice, r_rep, r_nil, r_cons, r_lam, r_fnv, r_callV, r_dm, r_isn, r_catM, r_tupX, r_trip, r_weak, r_tix, s_pass, s_ret, s_retN, s_asg, s_asgS, s_sub, s_tup, s_tgs0, s_tgs, s_tgN, s_par, s_par3, s_ex, s_aug, s_if, s_for, s_brk, s_cnt,
  var_0, var_s, fun_0, fun_s, tst_t, tst_f, tst_d, tst_n, neg_i, not_b, bin_add, bin_sub, bin_mul, bin_fdiv, bin_mod, bin_pow, bin_str, bin_lst, bin_tup, cmp_lt, cmp_le, cmp_gt, cmp_ge, cmp_eqI, cmp_neI, cmp_eqS, cmp_neS, cmp_eqB, cmp_is, cmp_isn, cmp_isB, cmp_isnB, cmp_inT, cmp_inL, cmp_ninT, cmp_ninL, cmp_inS, cmp_ninS, ty_d, ty_int, ty_bool, ty_str, ty_tup, unt_t, aug_0, aug_s, augr_add, augr_sub, opt_some, opt_map, opt_if, set_0, set_s, tupQ, toDs, Option.map_some, Option.map_none,
  wp_bind, part_0, part_1, sl_list, sl_tuple, sl_map, wk_list, wk_tuple, walk_r1, walk_r2, at1_0, at2_0, at2_1, at3_0, at3_1, at3_2, ix_list, ix_tuple, bf_int, bf_intB, bf_abs, bf_lenL, bf_lenT, bf_max, bf_min, divmod_wp, bf_repr, len_str, bf_tupL,
  str_eq, String.reduceEq, mem_str, mem_nil, flat_str, flat_int, List.all_cons, List.all_nil, Bool.and_self, Bool.or_false, decide_true, decide_false, not_true, not_false_eq_true, true_and, and_true, true_implies, false_implies, implies_true, Bool.not_true, Bool.not_false, Bool.false_or, Bool.true_or, Bool.or_true, Bool.not_not, List.length_cons, List.length_nil, sizeMax, Nat.reduceAdd, Nat.reduceLeDiff, ne_eq, pick, List.getElem?_cons_zero, List.getElem?_cons_succ,
  r_glob c0, r_glob c1, r_glob c2, r_glob c3, r_glob c4, r_glob c5, r_glob c6, r_glob c7, r_glob c8, r_glob c9, r_glob c10, r_glob c11, r_glob c12, r_glob c13, r_glob c14, r_glob c15, r_glob c16, r_glob c17, r_glob c18, r_glob c19, r_glob c20])
variable {W k : Nat} {st : Store} {Q : U → Store → Prop}
theorem m23b (ns : List Int) (lap : Int) (hl : 0 ≤ lap) (q : ∀ c, Well c → Q (.m st.length) (st ++ [c])) : (callU G (cpK G W (k + 1)) (cmK G W (k + 1)) 23 [.d (.list (ns.map .int)), .d (.int lap)] st).wp Q :=
  mut_wp_new (F := f23) rfl rfl (r23 ns lap hl fun c w => ⟨⟨_, rfl, Nat.le_refl _⟩, q c w⟩)
theorem r26 {x : D} (h : reprOk x = true) (q : Q (.d (.bool true)) st) : (callRaw G W (k + 1) 26 [.d x, .d x] st).wp Q := by
  refine call_by (F := f26) rfl rfl ?_
  show (exSs G W _ _ b26 [some (.d x), some (.d x)] st).wp _
  unfold b26
  get_elem_tactic_trivial
  exact ⟨h, h, q⟩
theorem p26 {x : D} (h : reprOk x = true) : (callU G (cpK G W (k + 1)) (cmK G W (k + 1)) 26 [.d x, .d x] st).wp Q = Q (.d (.bool true)) st := pure_eq (F := f26) rfl rfl rfl fun Q q => r26 h q
theorem four_ok (a b : Bool) : reprOk (.list [.bool a, .bool b, .bool a, .bool b]) = true := by
  cases a <;> cases b <;> exact repr_ok (by decide) (by decide) (by decide)
theorem unt_s {n : Nat} {a b : D} {xs : List D} {Q : List U → Prop} : untQ n (.s (.t3 a b xs)) Q = (n = 3 ∧ Q [.d a, .d b, .s (.x xs)]) := rfl
theorem weak_x {xs : List D} : weakU (.s (.x xs)) = .d (.tuple xs) := rfl
theorem sl_to {xs : List D} {j : Nat} (h : j ≤ xs.length) : sl xs none (some (j : Int)) = xs.take j := by
  unfold sl
  have e1 : HT.sIx xs.length 0 none = 0 := rfl
  have e2 : HT.sIx xs.length xs.length (some (j : Int)) = j := by
    simp only [HT.sIx]
    rw [if_neg (by omega)]
    simp
    omega
  rw [e1, e2]
  simp
theorem tix_wp {rs : List D} {Q : U → Prop} (h : ∀ r ∈ rs, ok 1 r) (hs : stopD ∈ rs) (q : ∀ j : Nat, j < rs.length → Q (.d (.int j))) : optQ (tixU (.s (.x rs)) (.d stopD)) Q := by
  have e1 : SeqAt.shaped (.tuple rs) = true := ok_shaped (n := 2) (by decide) h
  have e2 : SeqAt.shaped stopD = true := by decide +kernel
  have e : tixU (.s (.x rs)) (.d stopD) = (placeD rs stopD).map fun j => .d (.int (j : Nat)) := by
    show (if (SeqAt.shaped (.tuple rs) && SeqAt.shaped stopD) = true then _ else _) = _
    rw [e1, e2]
    rfl
  rw [e]
  cases hp : placeD rs stopD with
  | none =>
    have := List.findIdx?_eq_none_iff.mp hp stopD hs
    rw [show PyData.eqv stopD stopD = true from by decide +kernel] at this
    cases this
  | some j =>
    obtain ⟨hj, _⟩ := List.findIdx?_eq_some_iff_getElem.mp hp
    exact q j hj
theorem ok3 {ss : List D} {e : D} {rs : List D} (h1 : ∀ x ∈ ss, ok 1 x) (h2 : ok 2 e) (h3 : ∀ r ∈ rs, ok 1 r) : ok 3 (.tuple [.tuple ss, e, .tuple rs]) := by
  intro x hx
  simp only [List.mem_cons, List.not_mem_nil, or_false] at hx
  rcases hx with rfl | rfl | rfl
  · exact h1
  · exact h2
  · exact h3
theorem ok2 {w : String} {rs : List D} (hw : okS w) (h3 : ∀ r ∈ rs, ok 1 r) : ok 3 (.tuple [.str w, .tuple rs]) := by
  intro x hx
  simp only [List.mem_cons, List.not_mem_nil, or_false] at hx
  rcases hx with rfl | rfl
  · exact hw
  · exact h3
theorem okI {n : Nat} (ss : List Int) : ∀ x ∈ ss.map PyData.int, ok n x := by
  intro x hx
  obtain ⟨i, _, rfl⟩ := List.mem_map.mp hx
  cases n <;> trivial
/-- the values one by one -/
def w42 : Ss := match sHd b42 with
  | .for_ _ _ _ b => b
  | _ => .nil
def nTl : Nat → Ss → Ss
  | 0, s => s
  | n + 1, s => nTl n (sTl s)
def q9s : Ss := nTl 9 w42
def q7s : Ss := nTl 7 w42
def q6s : Ss := nTl 6 w42
def q3s : Ss := nTl 3 w42
section
variable {x1 x2 x3 x4 x5 x6 x7 x8 x9 x10 x11 x12 x13 x14 : Option U}
theorem vals42 {n : Nat} {vs : List D} (hv : ∀ v ∈ vs, ok 3 v) {D : Out} (q : ∀ x12 x13 x14, D.nx [some (.m n), x1, x2, x3, x4, x5, x6, x7, some (.d (.list vs)), x9, x10, x11, x12, x13, x14] st) :
    (exSs G W (cpK G W (k + 8)) (cmK G W (k + 8)) q9s [some (.m n), x1, x2, x3, x4, x5, x6, x7, some (.d (.list vs)), x9, x10, x11, x12, x13, x14] st).wp D := by
  simp only [q9s, nTl, w42, sHd, sTl, b42]
  get_elem_tactic_trivial
  refine for_wp (fun ε s => s = st ∧ ∃ x12 x13 x14, ε = [some (.m n), x1, x2, x3, x4, x5, x6, x7, some (.d (.list vs)), x9, x10, x11, x12, x13, x14]) (fun u hu ε s hI => ?_) (fun ε s hI => ?_) ⟨rfl, _, _, _, rfl⟩
  · obtain ⟨rfl, x12, x13, x14, rfl⟩ := hI
    obtain ⟨v, hm, rfl⟩ := List.mem_map.mp hu
    have h3 := hv v hm
    refine ⟨_, rfl, ?_⟩
    show (exSs G W _ _ _ [some (.m n), x1, x2, x3, x4, x5, x6, x7, some (.d (.list vs)), x9, x10, x11, some (.d v), x13, x14] _).wp _
    get_elem_tactic_trivial
    rw [p33 (k := k + 4) (n := 3) (by decide) h3, p40 (k := k + 5) (n := 0) (by decide) h3]
    get_elem_tactic_trivial
    rw [p21 (k := k + 1) (n := 3) (by decide) h3, p22 (k := k) (n := 3) (by decide) h3, p21 (k := k + 1) (n := 3) (by decide) h3, p22 (k := k) (n := 3) (by decide) h3]
    get_elem_tactic_trivial
    rw [show ([PyData.bool (imgS v), .bool (prtS v)] ++ [PyData.bool (imgS v), .bool (prtS v)]) = [.bool (imgS v), .bool (prtS v), .bool (imgS v), .bool (prtS v)] from rfl, p26 (k := k + 7) (four_ok _ _)]
    exact ⟨rfl, _, _, _, rfl⟩
  · obtain ⟨rfl, x12, x13, x14, rfl⟩ := hI
    exact q _ _ _
theorem bent_ok {rs : List D} {x : D} {i : Int} (h : ∀ r ∈ rs, ok 1 r) (hx : ok 1 x) : ∀ y ∈ sl rs none (some i) ++ [x] ++ sl rs (some (i + 1)) none, ok 1 y :=
  all_app (all_app (fun y hy => h y (mem_sl hy)) (all_c hx all_n)) fun y hy => h y (mem_sl hy)
theorem turns42 {n p : Nat} {s0 : Store} (hp : s0.length ≤ p) (g : Grw n s0 st) (hF : Flat st) {vs : List D} (hc : st[p]? = some (.lst (vs.map .d))) (hl : vs.length ≤ 30) (hv : ∀ v ∈ vs, ok 3 v) {ss : List Int} {rs cs : List D} {w : String} (hw : okS w) {c : Nat}
    (hs : ss.length ≤ 4) (hr : ∀ r ∈ rs, RowJ r) (lr0 : 0 < rs.length) (lr : rs.length ≤ 300) (hcs : ∀ r ∈ cs, RowJ r) (lc : cs.length = c) (lcr : c ≤ rs.length) {D : Out} (q : ∀ x8 x9 x10 x11 x12 x13 x14 st1, Grw n s0 st1 → Flat st1 → D.nx [some (.m n), x1, some (.d (.tuple (ss.map .int))), some (.d (.int 0)), some (.s (.x rs)), x5, some (.d (.int c)), some (.d (.tuple [.str w, .tuple cs])), x8, x9, x10, x11, x12, x13, x14] st1) :
    (exSs G W (cpK G W (k + 8)) (cmK G W (k + 8)) q7s [some (.m n), x1, some (.d (.tuple (ss.map .int))), some (.d (.int 0)), some (.s (.x rs)), x5, some (.d (.int c)), some (.d (.tuple [.str w, .tuple cs])), some (.m p), x9, x10, x11, x12, x13, x14] st).wp D := by
  show (exSs G W _ _ (.cons (sHd q7s) (.cons (.freeze 8) q9s)) _ _).wp _
  simp only [sHd, q7s, nTl, w42, sTl, b42]
  get_elem_tactic_trivial
  have hn : n < s0.length := g.1
  refine ⟨⟨by decide, by decide⟩, ?_⟩
  refine for_wp_n (fun j ε s => ∃ (vs : List Ev.D) (y9 y10 y11 : Option U), ε = [some (.m n), x1, some (.d (.tuple (ss.map .int))), some (.d (.int 0)), some (.s (.x rs)), x5, some (.d (.int c)), some (.d (.tuple [.str w, .tuple cs])), some (.m p), y9, y10, y11, x12, x13, x14] ∧ Grw n s0 s ∧ Flat s ∧ s[p]? = some (.lst (vs.map .d)) ∧ vs.length + 2 * j ≤ 100 ∧ ∀ v ∈ vs, ok 3 v) (fun u hu j ε s hI => ?_) (fun ε s hI => ?_) ⟨vs, _, _, _, rfl, g, hF, hc, ?_, hv⟩
  · obtain ⟨vs, y9, y10, y11, rfl, g, hF, hc, hl, hv⟩ := hI
    refine ⟨_, rfl, ?_⟩
    show (exSs G W _ _ _ [some (.m n), x1, some (.d (.tuple (ss.map .int))), some (.d (.int 0)), some (.s (.x rs)), x5, some (.d (.int c)), some (.d (.tuple [.str w, .tuple cs])), some (.m p), some u, y10, y11, x12, x13, x14] s).wp _
    get_elem_tactic_trivial
    simp only [weak_x]
    get_elem_tactic_trivial
    refine m24 (k := k + 7) g.has _ (by omega) (by omega) fun i s1 i0 i1 g1 => ?_
    obtain ⟨e, he, e1⟩ := at_in (xs := rs) i0 i1
    rw [show ixU (.d (.tuple rs)) (.d (.int i)) s1 = (L2.atI rs i).map .d from rfl, e1]
    get_elem_tactic_trivial
    refine r41 (k := k + 5) g1.has (hr e he) fun x s2 hx g2 => ?_
    have g12 := g1.trans g2
    have c2 := g12.cell (by omega) hc
    get_elem_tactic_trivial
    refine ⟨app_ok c2, ?_⟩
    have la := sl_len (xs := rs) (lo := none) (hi := some i)
    have lb := sl_len (xs := rs) (lo := some (i + 1)) (hi := none)
    have la' := sl_len (xs := cs) (lo := none) (hi := some i)
    have lb' := sl_len (xs := cs) (lo := some (i + 1)) (hi := none)
    refine ⟨by omega, by rw [List.length_append, List.length_singleton]; omega, ?_⟩
    refine app_wp c2 (by rw [List.length_map]; omega) ?_
    have hr1 : ∀ r ∈ rs, ok 1 r := fun r h => (hr r h).ok
    have hc1 : ∀ r ∈ cs, ok 1 r := fun r h => (hcs r h).ok
    have new1 := ok3 (okI ss) (show ok 2 (.int 0) from trivial) (bent_ok (i := i) hr1 hx)
    have g3 := (g.stp g12).put hp (.lst (vs.map .d ++ [.d (.tuple [.tuple (ss.map .int), .int 0, .tuple (sl rs none (some i) ++ [x] ++ sl rs (some (i + 1)) none)])]))
    have em : ∀ (vs : List Ev.D) (v : Ev.D), vs.map U.d ++ [.d v] = (vs ++ [v]).map .d := fun vs v => by rw [List.map_append]; rfl
    rw [em] at g3 ⊢
    have f3 := flat_set (n := p) (g12.flat hF) (low_ds (vs ++ [.tuple [.tuple (ss.map .int), .int 0, .tuple (sl rs none (some i) ++ [x] ++ sl rs (some (i + 1)) none)]]))
    have c3 := get_set (c := .lst ((vs ++ [PyData.tuple [.tuple (ss.map .int), .int 0, .tuple (sl rs none (some i) ++ [x] ++ sl rs (some (i + 1)) none)]]).map .d)) c2
    have v3 : ∀ v ∈ vs ++ [PyData.tuple [.tuple (ss.map .int), .int 0, .tuple (sl rs none (some i) ++ [x] ++ sl rs (some (i + 1)) none)]], ok 3 v := all_app hv (all_c new1 all_n)
    have l3 : (vs ++ [PyData.tuple [.tuple (ss.map .int), .int 0, .tuple (sl rs none (some i) ++ [x] ++ sl rs (some (i + 1)) none)]]).length = vs.length + 1 := List.length_append
    generalize (vs ++ [PyData.tuple [.tuple (ss.map .int), .int 0, .tuple (sl rs none (some i) ++ [x] ++ sl rs (some (i + 1)) none)]]) = us at g3 f3 c3 v3 l3 ⊢
    generalize s2.set p (.lst (us.map .d)) = s3 at g3 f3 c3 ⊢
    refine ⟨fun hi => ?_, fun _ => ⟨us, _, _, _, rfl, g3, f3, c3, by omega, v3⟩⟩
    refine ⟨app_ok c3, ?_⟩
    obtain ⟨e', he', e1'⟩ := at_in (xs := cs) i0 (by omega)
    rw [e1', opt_some]
    refine r41 (k := k + 5) g3.has (hcs e' he') fun y s4 hy g4 => ?_
    have c4 := g4.cell (by omega) c3
    get_elem_tactic_trivial
    refine ⟨by omega, by rw [List.length_append, List.length_singleton]; omega, ?_⟩
    refine app_wp c4 (by rw [List.length_map]; omega) ?_
    refine ⟨us ++ [_], _, _, _, rfl, (g3.stp g4).put hp _, ?_, ?_, ?_, all_app v3 (all_c (ok2 (w := "crowd") (okS_of (by decide +kernel)) (bent_ok (i := i) hc1 hy)) all_n)⟩
    · rw [em]; exact flat_set (g4.flat f3) (low_ds _)
    · rw [get_set c4, em]
    · rw [List.length_append, List.length_singleton]; omega
  · obtain ⟨vs, y9, y10, y11, rfl, g, hF, hc, hl, hv⟩ := hI
    show (exS G W _ _ (.freeze 8) _ _).wp _
    rw [s_freeze (n := p) rfl hc (toDs_map vs)]
    simp only [setE, List.set_cons_succ, List.set_cons_zero]
    exact vals42 hv fun _ _ _ => q _ _ _ _ _ _ _ _ (g.put hp _) (flat_set hF rfl)
  · show vs.length + 2 * 8 ≤ 100
    omega
end
end K34
end

section
set_option maxRecDepth 100000
set_option autoImplicit false
namespace K34
open Ev PySem
def q2s : Ss := nTl 2 w42
def vA (ss : List Int) (rs cs : List D) : List D := [.tuple [.tuple (ss.map .int), .int 0, .tuple rs], .tuple [.tuple (ss.map .int), .int rs.length, .tuple rs], .tuple [.list (ss.map .int), .int 0, .tuple rs], .tuple [.tuple (ss.map .int ++ [.int 17]), .int 0, .tuple rs], .tuple [.str "crowd", .tuple cs]]
def vB (ss : List Int) (rs : List D) : List D := [.tuple [.tuple (ss.map .int), .int 0], .tuple [.tuple (ss.map .int), .int (-1), .tuple rs], .tuple [.tuple (ss.map .int), .int 0, .tuple []], .none, .int 5, .tuple [.tuple [.str "a", .int 4]], .tuple [.str "crowd", .tuple []]]
def vC (cs : List D) : List D := [.tuple [.str "crowd", .tuple (sl cs none (some (-1)))], .tuple [.str "f", .tuple cs], .tuple [.str "f", .tuple (sl cs none (some (-1)) ++ [.tuple [.str "back"]])]]
/-- the evaluator's steps -/
local macro_rules | `(tactic| get_elem_tactic_trivial) => `(tactic| simp only [wps_cons, wps_nil, wp_ok, r_int, r_str, r_bool, r_none, r_var, r_bin, r_neg, r_not, r_cmp, r_chain, r_and, r_or, r_ite, r_tup, r_lst, r_alloc, r_alloc0, r_ix, r_call, r_callK, r_bcall, r_isty, r_meth0, r_meth1, r_dict, r_slice, r_rep, r_nil, r_cons, r_lam, r_fnv, r_callV, r_dm, r_isn, r_catM, r_tupX, r_trip, r_weak, r_tix, s_pass, s_ret, s_retN, s_asg, s_asgS, s_sub, s_tup, s_tgs0, s_tgs, s_tgN, s_par, s_par3, s_ex, s_aug, s_if, s_for, s_brk, s_cnt,
  var_0, var_s, fun_0, fun_s, tst_t, tst_f, tst_d, tst_n, neg_i, not_b, bin_add, bin_sub, bin_mul, bin_fdiv, bin_mod, bin_pow, bin_str, bin_lst, bin_tup, cmp_lt, cmp_le, cmp_gt, cmp_ge, cmp_eqI, cmp_neI, cmp_eqS, cmp_neS, cmp_eqB, cmp_is, cmp_isn, cmp_isB, cmp_isnB, cmp_inT, cmp_inL, cmp_ninT, cmp_ninL, cmp_inS, cmp_ninS, ty_d, ty_int, ty_bool, ty_str, ty_tup, unt_t, aug_0, aug_s, augr_add, augr_sub, opt_some, opt_map, opt_if, set_0, set_s, tupQ, toDs, Option.map_some, Option.map_none,
  wp_bind, part_0, part_1, sl_list, sl_tuple, sl_map, wk_list, wk_tuple, walk_r1, walk_r2, at1_0, at2_0, at2_1, at3_0, at3_1, at3_2, ix_list, ix_tuple, bf_int, bf_intB, bf_abs, bf_lenL, bf_lenT, bf_max, bf_min, divmod_wp, bf_repr, len_str, bf_tupL,
  str_eq, String.reduceEq, mem_str, mem_nil, flat_str, flat_int, List.all_cons, List.all_nil, Bool.and_self, Bool.or_false, decide_true, decide_false, not_true, not_false_eq_true, true_and, and_true, true_implies, false_implies, implies_true, Bool.not_true, Bool.not_false, Bool.false_or, Bool.true_or, Bool.or_true, Bool.not_not, List.length_cons, List.length_nil, sizeMax, Nat.reduceAdd, Nat.reduceLeDiff, ne_eq, pick, List.getElem?_cons_zero, List.getElem?_cons_succ,
  r_glob c0, r_glob c1, r_glob c2, r_glob c3, r_glob c4, r_glob c5, r_glob c6, r_glob c7, r_glob c8, r_glob c9, r_glob c10, r_glob c11, r_glob c12, r_glob c13, r_glob c14, r_glob c15, r_glob c16, r_glob c17, r_glob c18, r_glob c19, r_glob c20])
variable {W k : Nat} {st : Store} {Q : U → Store → Prop}
section
variable {x1 x2 x3 x4 x5 x6 x7 x8 x9 x10 x11 x12 x13 x14 : Option U}
theorem mid42 {n : Nat} {s0 : Store} (g : Grw n s0 st) (hF : Flat st) {ss : List Int} {rs : List D} {j : Nat} (hs : ss.length ≤ 4) (hr : ∀ r ∈ rs, RowJ r) (lr : rs.length ≤ 300) (hj : j < rs.length) {D : Out} (q : ∀ x1 x2 x3 x4 x5 x6 x7 x8 x9 x10 x11 x12 x13 x14 st1, Grw n s0 st1 → Flat st1 → D.nx [some (.m n), x1, x2, x3, x4, x5, x6, x7, x8, x9, x10, x11, x12, x13, x14] st1) :
    (exSs G W (cpK G W (k + 8)) (cmK G W (k + 8)) q2s [some (.m n), x1, some (.d (.tuple (ss.map .int))), some (.d (.int 0)), some (.s (.x rs)), some (.d (.tuple [.tuple (ss.map .int), .int 0, .tuple rs])), some (.d (.int (j + 1))), x7, x8, x9, x10, x11, x12, x13, x14] st).wp D := by
  show (exSs G W _ _ (.cons (sHd q2s) (.cons (sHd (nTl 1 q2s)) (.cons (sHd (nTl 2 q2s)) (.cons (sHd (nTl 3 q2s)) q6s)))) _ _).wp _
  simp only [q2s, sHd, nTl, w42, sTl, b42]
  get_elem_tactic_trivial
  simp only [weak_x]
  get_elem_tactic_trivial
  have ej : sl rs none (some ((j : Int) + 1)) = rs.take (j + 1) := sl_to (j := j + 1) (by omega)
  rw [ej]
  have lt : (rs.take (j + 1)).length = j + 1 := by rw [List.length_take]; omega
  have ht : ∀ r ∈ rs.take (j + 1), RowJ r := fun r h => hr r (List.mem_of_mem_take h)
  refine r39 (k := k + 7) (by omega) ht ?_
  have hc := partOf_j ht
  have lc : (partOf (rs.take (j + 1))).length = j + 1 := by unfold partOf; rw [List.length_map, lt]
  generalize partOf (rs.take (j + 1)) = cs at hc lc ⊢
  get_elem_tactic_trivial
  rw [bf_listT]
  get_elem_tactic_trivial
  have lb := sl_len (xs := cs) (lo := none) (hi := some (-1))
  refine ⟨by rw [List.length_map]; omega, by omega, ?_⟩
  refine cat_wp (xs := vA ss rs cs ++ vB ss rs) (ys := vC cs) (by show 12 + 3 ≤ 16777216; decide) ?_
  have hr1 : ∀ r ∈ rs, ok 1 r := fun r h => (hr r h).ok
  have hc1 : ∀ r ∈ cs, ok 1 r := fun r h => (hc r h).ok
  have hb1 : ∀ r ∈ sl cs none (some (-1)), ok 1 r := fun r h => hc1 r (mem_sl h)
  have back : ok 1 (.tuple [.str "back"]) := all_c (P := ok 0) (show ok 0 (.str "back") from okS_of (by decide +kernel)) all_n
  have s1 : ∀ {n : Nat} (xs : List Ev.D), (∀ x ∈ xs, ok n x) → ok (n + 1) (.tuple xs) := fun xs h => h
  have s2 : ∀ {n : Nat} (xs : List Ev.D), (∀ x ∈ xs, ok n x) → ok (n + 1) (.list xs) := fun xs h => h
  have hv : ∀ v ∈ (vA ss rs cs ++ vB ss rs ++ vC cs), ok 3 v := by
    refine all_app (all_app ?_ ?_) ?_
    · unfold vA
      refine all_c (ok3 (okI ss) trivial hr1) (all_c (ok3 (okI ss) trivial hr1) (all_c ?_ (all_c (ok3 (all_app (okI ss) (all_c (P := ok 1) trivial all_n)) trivial hr1) (all_c (ok2 (w := "crowd") (okS_of (by decide +kernel)) hc1) all_n))))
      exact s1 _ (all_c (P := ok 2) (s2 _ (okI ss)) (all_c (P := ok 2) trivial (all_c (P := ok 2) (s1 _ hr1) all_n)))
    · unfold vB
      refine all_c ?_ (all_c (ok3 (okI ss) trivial hr1) (all_c (ok3 (okI ss) trivial all_n) (all_c (P := ok 3) trivial (all_c (P := ok 3) trivial (all_c ?_ (all_c (ok2 (w := "crowd") (okS_of (by decide +kernel)) all_n) all_n))))))
      · exact s1 _ (all_c (P := ok 2) (s1 _ (okI ss)) (all_c (P := ok 2) trivial all_n))
      · exact s1 _ (all_c (P := ok 2) (s1 _ (all_c (P := ok 1) (show ok 1 (.str "a") from okS_of (by decide +kernel)) (all_c (P := ok 1) trivial all_n))) all_n)
    · unfold vC
      exact all_c (ok2 (w := "crowd") (okS_of (by decide +kernel)) hb1) (all_c (ok2 (w := "f") (okS_of (by decide +kernel)) hc1) (all_c (ok2 (w := "f") (okS_of (by decide +kernel)) (all_app hb1 (all_c back all_n))) all_n))
  have lv : (vA ss rs cs ++ vB ss rs ++ vC cs).length = 15 := rfl
  generalize (vA ss rs cs ++ vB ss rs ++ vC cs) = vs at hv lv ⊢
  have g2 := g.push (.lst (vs.map .d))
  have f2 := flat_app hF (low_ds vs)
  have c2 : (st ++ [Cell.lst (vs.map .d)])[st.length]? = some (.lst (vs.map .d)) := by
    rw [List.getElem?_append_right (Nat.le_refl _), Nat.sub_self]; rfl
  have hp : s0.length ≤ st.length := g.2.1
  generalize st ++ [Cell.lst (vs.map .d)] = s1 at g2 f2 c2 ⊢
  show (exSs G W _ _ (.cons (sHd q6s) q7s) _ _).wp _
  simp only [sHd, q6s, nTl, w42, sTl, b42]
  get_elem_tactic_trivial
  refine ⟨app_ok c2, ?_⟩
  simp only [weak_x]
  get_elem_tactic_trivial
  refine app_wp c2 (by rw [List.length_map]; omega) ?_
  have em : ∀ (vs : List Ev.D) (v : Ev.D), vs.map U.d ++ [.d v] = (vs ++ [v]).map .d := fun vs v => by rw [List.map_append]; rfl
  rw [em]
  refine turns42 (k := k) (p := st.length) (vs := vs ++ [.tuple [.str "let", .tuple rs]]) (c := j + 1) hp (g2.put hp _) (flat_set f2 (low_ds _)) (get_set c2) (by rw [List.length_append, List.length_singleton]; omega) (all_app hv (all_c (ok2 (w := "let") (okS_of (by decide +kernel)) hr1) all_n)) (okS_of (by decide +kernel)) hs hr (by omega) lr hc lc (by omega) ?_
  intro x8 x9 x10 x11 x12 x13 x14 s2 g3 f3
  exact q _ _ _ _ _ _ _ _ _ _ _ _ _ _ _ g3 f3
end
theorem r42 {n : Nat} (hF : Flat st) (h : Has n st) (q : ∀ st1, Stp n st st1 → Q (.d (.bool true)) st1) : (callU G (cpK G W (k + 9)) (cmK G W (k + 9)) 42 [.m n] st).wp Q := by
  refine mut_wp_low (F := f42) rfl rfl ?_
  refine call_by (F := f42) rfl rfl ?_
  show (exSs G W _ _ b42 [some (.m n), none, none, none, none, none, none, none, none, none, none, none, none, none, none] st).wp _
  have hb : b42 = .cons (.for_ (.one 1) .r1 (.cons (.con (.int 5)) .nil) w42) (.cons (.ret (.con (.bool true))) .nil) := rfl
  rw [hb]
  get_elem_tactic_trivial
  refine ⟨⟨by decide, by decide⟩, ?_⟩
  refine for_wp (fun ε s => ∃ x1 x2 x3 x4 x5 x6 x7 x8 x9 x10 x11 x12 x13 x14, ε = [some (.m n), x1, x2, x3, x4, x5, x6, x7, x8, x9, x10, x11, x12, x13, x14] ∧ Grw n st s ∧ Flat s) (fun u hu ε s hI => ?_) (fun ε s hI => ?_) ⟨_, _, _, _, _, _, _, _, _, _, _, _, _, _, rfl, h.grw, hF⟩
  · obtain ⟨x1, x2, x3, x4, x5, x6, x7, x8, x9, x10, x11, x12, x13, x14, rfl, g, hF⟩ := hI
    refine ⟨_, rfl, ?_⟩
    show (exSs G W _ _ (.cons (sHd w42) (.cons (sHd (nTl 1 w42)) q2s)) [some (.m n), some u, x2, x3, x4, x5, x6, x7, x8, x9, x10, x11, x12, x13, x14] s).wp _
    simp only [sHd, nTl, w42, sTl, b42]
    get_elem_tactic_trivial
    refine m38 (k := k + 1) hF g.has fun ss rs s1 hs hri lr hst g1 => ?_
    have hr : ∀ r ∈ rs, RowJ r := fun r h => (hri r h).j
    have hr1 : ∀ r ∈ rs, ok 1 r := fun r h => (hr r h).ok
    have g2 := g.stp g1
    have f2 := g1.flat hF
    simp only [unt_s]
    get_elem_tactic_trivial
    simp only [weak_x]
    get_elem_tactic_trivial
    refine ⟨rfl, ?_⟩
    refine tix_wp hr1 hst fun j hj => ?_
    get_elem_tactic_trivial
    simp only [setEs, set_0, set_s]
    get_elem_tactic_trivial
    refine mid42 g2 f2 hs hr lr hj fun x1 x2 x3 x4 x5 x6 x7 x8 x9 x10 x11 x12 x13 x14 s3 g3 f3 => ?_
    exact ⟨x1, x2, x3, x4, x5, x6, x7, x8, x9, x10, x11, x12, x13, x14, rfl, g3, f3⟩
  · obtain ⟨x1, x2, x3, x4, x5, x6, x7, x8, x9, x10, x11, x12, x13, x14, rfl, g, hF⟩ := hI
    get_elem_tactic_trivial
    exact ⟨_, rfl, (g.cut.flat ‹Flat st›).low _, q _ g.cut⟩
theorem r43 (ns : List Int) (hn : ns.length ≤ 63) (q : ∀ st', Q (.d (.bool true)) st') : (callRaw G W (k + 10) 43 [.d (.list (ns.map .int))] []).wp Q := by
  refine call_by (F := f43) rfl rfl ?_
  show (exSs G W _ _ b43 [some (.d (.list (ns.map .int))), none] []).wp _
  unfold b43
  get_elem_tactic_trivial
  simp only [r_comp]
  get_elem_tactic_trivial
  rw [List.length_map]
  refine ⟨⟨by split <;> split <;> omega, by split <;> split <;> omega⟩, ?_⟩
  refine comp_wp (fun acc s => Flat s ∧ ∃ m, acc = List.replicate m (.d (.bool true))) (by rw [range_len]; show 0 + _ ≤ 16777216; split <;> split <;> omega) (fun u hu acc st' hI => ?_) (fun acc st' hI => ?_) ⟨(fun _ h => (nomatch h)), 0, rfl⟩
  · obtain ⟨hF, m, rfl⟩ := hI
    obtain ⟨i, rfl, i1, i2⟩ := range_mem hu
    rw [turn_wp rfl]
    unfold compQ
    simp only [wipeE, setE, List.set_cons_succ, List.set_cons_zero]
    get_elem_tactic_trivial
    refine m23b (k := k + 8) ns i i1 fun c w => ?_
    have f2 := flat_app hF (well_low w)
    refine r42 (k := k) f2 ⟨c, by rw [List.getElem?_append_right (Nat.le_refl _), Nat.sub_self]; rfl, w⟩ fun st2 g => ?_
    exact ⟨g.flat f2, m + 1, by rw [List.replicate_succ']⟩
  · obtain ⟨_, m, rfl⟩ := hI
    have e : toDs (List.replicate m (.d (.bool true))) = some (List.replicate m (.bool true)) := by
      have := toDs_map (List.replicate m (.bool true))
      rwa [List.map_replicate] at this
    rw [e]
    get_elem_tactic_trivial
    rw [bf_all (toB_true m)]
    have : (List.replicate m true).all id = true := by simp
    rw [this]
    exact q _
theorem value (ns : List Int) (hn : ns.length ≤ 63) : ∃ st, callRaw G 0 40 43 [.d (.list (ns.map .int))] [] = .ok (.d (.bool true)) st := by
  obtain ⟨u, st, e, h⟩ := (r43 (W := 0) (k := 30) (Q := fun u _ => u = .d (.bool true)) ns hn fun _ => rfl).get
  exact ⟨st, by rw [e, h]⟩
end K34
end

section
set_option maxRecDepth 100000
open PySem PySem.W PyProof.Rows Ev
set_option maxHeartbeats 0 in
theorem PySem.Challenge.cw_stepcrowds_k34_whole_images_and_parts_by_holds : PySem.Challenge.rw_stepcrowds_k34_whole_images_and_parts_by.Holds := by
  w_on; o_law; k_head; (case hw => w_witness2)
  k_fill
  refine Ev.walk_by (l := PySem.Challenge.rw_stepcrowds_k34_whole_images_and_parts_by) (n := 63) (k := 40) (W := 0) (f := 43) (x := "script") (F := K34.f43) (G := K34.G) rfl (by decide) rfl ⟨rfl, by decide, by decide⟩ (fun w h Y => PySem.W.km_in_of Y) rfl rfl rfl (by decide) ?T ?val
  case val => exact K34.value
  case T =>
    intro w mg h Y inK atG
    refine ⟨[(258, 256, "_law_is_image.<locals>.<lambda>")], ?u, ?f, ?k⟩
    case f =>
      intro t ht
      obtain rfl := List.mem_singleton.mp ht
      refine' tab_fact (c := 258) (P := 256) (x := "_law_is_image") inK ?tq ?tn ?te (PySem.W.km_tabs_of Y _ (by simp))
      case tq => kernel_rfl
      case tn => kernel_rfl
      case te => kernel_rfl
    case u =>
      intro s hs t ht _
      rw [List.mem_singleton.mp hs, List.mem_singleton.mp ht]
    case k =>
      refine knows_of ?fn ?con ?bt
      case fn =>
        refine all_cons (fun _ => ?_) ?_
        · refine' known_plain (st := K34.t0) inK atG ?a ?l ?c ?k K34.s0 K34.k0 rfl ?m ?b ?w
          case a => k_is
          case l => k_is
          case c => k_is
          case k => k_is
          case m => exact fun h => nomatch h
          case b => exact fun us hl => match us, hl with | [v0], _ => rfl
          case w => exact all_nil
        refine all_cons (fun _ => ?_) ?_
        · refine' known_dfl (st := K34.t1) inK atG ?a ?l ?c ?k ?t K34.s1 K34.k1 ?m ?v ?b ?w
          case a => k_is
          case l => k_is
          case c => k_is
          case k => k_is
          case t => k_is
          case m => exact fun h => nomatch h
          case v => exact rfl
          case b =>
            intro j hj us hl
            match j, hj, us, hl with
            | 0, _, [v0, v1, v2], _ => exact ⟨_, rfl, rfl⟩
            | 1, _, [v0, v1], _ => exact ⟨_, rfl, rfl⟩
          case w => exact all_nil
        refine all_cons (fun _ => ?_) ?_
        · refine' known_plain (st := K34.t2) inK atG ?a ?l ?c ?k K34.s2 K34.k2 rfl ?m ?b ?w
          case a => k_is
          case l => k_is
          case c => k_is
          case k => k_is
          case m => exact fun h => nomatch h
          case b => exact fun us hl => match us, hl with | [v0, v1], _ => rfl
          case w => exact all_nil
        refine all_cons (fun _ => ?_) ?_
        · refine' known_plain (st := K34.t3) inK atG ?a ?l ?c ?k K34.s3 K34.k3 rfl ?m ?b ?w
          case a => k_is
          case l => k_is
          case c => k_is
          case k => k_is
          case m => exact fun h => nomatch h
          case b => exact fun us hl => match us, hl with | [v0, v1], _ => rfl
          case w => exact all_nil
        refine all_cons (fun _ => ?_) ?_
        · refine' known_plain (st := K34.t4) inK atG ?a ?l ?c ?k K34.s4 K34.k4 rfl ?m ?b ?w
          case a => k_is
          case l => k_is
          case c => k_is
          case k => k_is
          case m => exact fun h => nomatch h
          case b => exact fun us hl => match us, hl with | [v0], _ => rfl
          case w => exact all_nil
        refine all_cons (fun _ => ?_) ?_
        · refine' known_plain (st := K34.t5) inK atG ?a ?l ?c ?k K34.s5 K34.k5 rfl ?m ?b ?w
          case a => k_is
          case l => k_is
          case c => k_is
          case k => k_is
          case m => exact fun h => nomatch h
          case b => exact fun us hl => match us, hl with | [v0, v1], _ => rfl
          case w => exact all_nil
        refine all_cons (fun _ => ?_) ?_
        · refine' known_plain (st := K34.t6) inK atG ?a ?l ?c ?k K34.s6 K34.k6 rfl ?m ?b ?w
          case a => k_is
          case l => k_is
          case c => k_is
          case k => k_is
          case m => exact fun h => nomatch h
          case b => exact fun us hl => match us, hl with | [v0, v1, v2], _ => rfl
          case w => exact all_nil
        refine all_cons (fun _ => ?_) ?_
        · refine' known_plain (st := K34.t7) inK atG ?a ?l ?c ?k K34.s7 K34.k7 rfl ?m ?b ?w
          case a => k_is
          case l => k_is
          case c => k_is
          case k => k_is
          case m => exact fun h => nomatch h
          case b => exact fun us hl => match us, hl with | [v0, v1, v2, v3], _ => rfl
          case w => exact all_nil
        refine all_cons (fun _ => ?_) ?_
        · refine' known_plain (st := K34.t8) inK atG ?a ?l ?c ?k K34.s8 K34.k8 rfl ?m ?b ?w
          case a => k_is
          case l => k_is
          case c => k_is
          case k => k_is
          case m => exact fun h => nomatch h
          case b => exact fun us hl => match us, hl with | [v0, v1, v2, v3], _ => rfl
          case w => exact all_nil
        refine all_cons (fun _ => ?_) ?_
        · refine' known_plain (st := K34.t9) inK atG ?a ?l ?c ?k K34.s9 K34.k9 rfl ?m ?b ?w
          case a => k_is
          case l => k_is
          case c => k_is
          case k => k_is
          case m => exact fun h => nomatch h
          case b => exact fun us hl => match us, hl with | [v0], _ => rfl
          case w => exact all_nil
        refine all_cons (fun _ => ?_) ?_
        · refine' known_plain (st := K34.t10) inK atG ?a ?l ?c ?k K34.s10 K34.k10 rfl ?m ?b ?w
          case a => k_is
          case l => k_is
          case c => k_is
          case k => k_is
          case m => exact fun h => nomatch h
          case b => exact fun us hl => match us, hl with | [v0], _ => rfl
          case w => exact all_nil
        refine all_cons (fun _ => ?_) ?_
        · refine' known_plain (st := K34.t11) inK atG ?a ?l ?c ?k K34.s11 K34.k11 rfl ?m ?b ?w
          case a => k_is
          case l => k_is
          case c => k_is
          case k => k_is
          case m => exact fun h => nomatch h
          case b => exact fun us hl => match us, hl with | [v0], _ => rfl
          case w => exact all_nil
        refine all_cons (fun _ => ?_) ?_
        · refine' known_plain (st := K34.t12) inK atG ?a ?l ?c ?k K34.s12 K34.k12 rfl ?m ?b ?w
          case a => k_is
          case l => k_is
          case c => k_is
          case k => k_is
          case m => exact fun h => nomatch h
          case b => exact fun us hl => match us, hl with | [v0], _ => rfl
          case w => exact all_nil
        refine all_cons (fun _ => ?_) ?_
        · refine' known_plain (st := K34.t13) inK atG ?a ?l ?c ?k K34.s13 K34.k13 rfl ?m ?b ?w
          case a => k_is
          case l => k_is
          case c => k_is
          case k => k_is
          case m => exact fun h => nomatch h
          case b => exact fun us hl => match us, hl with | [v0, v1, v2], _ => rfl
          case w => exact all_nil
        refine all_cons (fun _ => ?_) ?_
        · refine' known_plain (st := K34.t14) inK atG ?a ?l ?c ?k K34.s14 K34.k14 rfl ?m ?b ?w
          case a => k_is
          case l => k_is
          case c => k_is
          case k => k_is
          case m => exact fun h => nomatch h
          case b => exact fun us hl => match us, hl with | [v0], _ => rfl
          case w => exact all_nil
        refine all_cons (fun _ => ?_) ?_
        · refine' known_plain (st := K34.t15) inK atG ?a ?l ?c ?k K34.s15 K34.k15 rfl ?m ?b ?w
          case a => k_is
          case l => k_is
          case c => k_is
          case k => k_is
          case m => exact fun h => nomatch h
          case b => exact fun us hl => match us, hl with | [v0], _ => rfl
          case w => exact all_nil
        refine all_cons (fun _ => ?_) ?_
        · refine' known_plain (st := K34.t16) inK atG ?a ?l ?c ?k K34.s16 K34.k16 rfl ?m ?b ?w
          case a => k_is
          case l => k_is
          case c => k_is
          case k => k_is
          case m => exact fun h => nomatch h
          case b => exact fun us hl => match us, hl with | [v0], _ => rfl
          case w => exact all_nil
        refine all_cons (fun _ => ?_) ?_
        · refine' known_plain (st := K34.t17) inK atG ?a ?l ?c ?k K34.s17 K34.k17 rfl ?m ?b ?w
          case a => k_is
          case l => k_is
          case c => k_is
          case k => k_is
          case m => exact fun h => nomatch h
          case b => exact fun us hl => match us, hl with | [v0, v1], _ => rfl
          case w => exact all_nil
        refine all_cons (fun _ => ?_) ?_
        · refine' known_plain (st := K34.t18) inK atG ?a ?l ?c ?k K34.s18 K34.k18 rfl ?m ?b ?w
          case a => k_is
          case l => k_is
          case c => k_is
          case k => k_is
          case m => exact fun h => nomatch h
          case b => exact fun us hl => match us, hl with | [v0, v1], _ => rfl
          case w => exact all_nil
        refine all_cons (fun _ => ?_) ?_
        · refine' known_plain (st := K34.t19) inK atG ?a ?l ?c ?k K34.s19 K34.k19 rfl ?m ?b ?w
          case a => k_is
          case l => k_is
          case c => k_is
          case k => k_is
          case m => exact fun h => nomatch h
          case b => exact fun us hl => match us, hl with | [v0, v1, v2], _ => rfl
          case w => exact all_nil
        refine all_cons (fun _ => ?_) ?_
        · refine' known_plain (st := K34.t20) inK atG ?a ?l ?c ?k K34.s20 K34.k20 rfl ?m ?b ?w
          case a => k_is
          case l => k_is
          case c => k_is
          case k => k_is
          case m => exact fun h => nomatch h
          case b => exact fun us hl => match us, hl with | [v0, v1], _ => rfl
          case w => exact all_nil
        refine all_cons (fun _ => ?_) ?_
        · refine' known_plain (st := K34.t21) inK atG ?a ?l ?c ?k K34.s21 K34.k21 rfl ?m ?b ?w
          case a => k_is
          case l => k_is
          case c => k_is
          case k => k_is
          case m => exact fun h => nomatch h
          case b => exact fun us hl => match us, hl with | [v0], _ => rfl
          case w => exact (all_cons (fun ws vs hl e => match ws, hl, e with | [w0], _, e => by cases e; exact rfl) all_nil)
        refine all_cons (fun _ => ?_) ?_
        · refine' known_plain (st := K34.t22) inK atG ?a ?l ?c ?k K34.s22 K34.k22 rfl ?m ?b ?w
          case a => k_is
          case l => k_is
          case c => k_is
          case k => k_is
          case m => exact fun h => nomatch h
          case b => exact fun us hl => match us, hl with | [v0], _ => rfl
          case w => exact (all_cons (fun ws vs hl e => match ws, hl, e with | [w0], _, e => by cases e; exact rfl) all_nil)
        refine all_cons (fun _ => ?_) ?_
        · refine' known_plain (st := K34.t23) inK atG ?a ?l ?c ?k K34.s23 K34.k23 rfl ?m ?b ?w
          case a => k_is
          case l => k_is
          case c => k_is
          case k => k_is
          case m => exact fun h => nomatch h
          case b => exact fun us hl => match us, hl with | [v0, v1], _ => rfl
          case w => exact all_nil
        refine all_cons (fun _ => ?_) ?_
        · refine' known_plain (st := K34.t24) inK atG ?a ?l ?c ?k K34.s24 K34.k24 rfl ?m ?b ?w
          case a => k_is
          case l => k_is
          case c => k_is
          case k => k_is
          case m => exact fun h => nomatch h
          case b => exact fun us hl => match us, hl with | [v0, v1], _ => rfl
          case w => exact all_nil
        refine all_cons (fun _ => ?_) ?_
        · refine' known_plain (st := K34.t25) inK atG ?a ?l ?c ?k K34.s25 K34.k25 rfl ?m ?b ?w
          case a => k_is
          case l => k_is
          case c => k_is
          case k => k_is
          case m => exact fun h => nomatch h
          case b => exact fun us hl => match us, hl with | [v0, v1], _ => rfl
          case w => exact all_nil
        refine all_cons (fun _ => ?_) ?_
        · refine' known_plain (st := K34.t26) inK atG ?a ?l ?c ?k K34.s26 K34.k26 rfl ?m ?b ?w
          case a => k_is
          case l => k_is
          case c => k_is
          case k => k_is
          case m => exact fun h => nomatch h
          case b => exact fun us hl => match us, hl with | [v0, v1], _ => rfl
          case w => exact all_nil
        refine all_cons (fun _ => ?_) ?_
        · refine' known_plain (st := K34.t27) inK atG ?a ?l ?c ?k K34.s27 K34.k27 rfl ?m ?b ?w
          case a => k_is
          case l => k_is
          case c => k_is
          case k => k_is
          case m => exact fun h => nomatch h
          case b => exact fun us hl => match us, hl with | [], _ => rfl
          case w => exact all_nil
        refine all_cons (fun _ => ?_) ?_
        · refine' known_plain (st := K34.t28) inK atG ?a ?l ?c ?k K34.s28 K34.k28 rfl ?m ?b ?w
          case a => k_is
          case l => k_is
          case c => k_is
          case k => k_is
          case m => exact fun h => nomatch h
          case b => exact fun us hl => match us, hl with | [v0], _ => rfl
          case w => exact all_nil
        refine all_cons (fun _ => ?_) ?_
        · refine' known_plain (st := K34.t29) inK atG ?a ?l ?c ?k K34.s29 K34.k29 rfl ?m ?b ?w
          case a => k_is
          case l => k_is
          case c => k_is
          case k => k_is
          case m => exact fun h => nomatch h
          case b => exact fun us hl => match us, hl with | [v0, v1, v2], _ => rfl
          case w => exact all_nil
        refine all_cons (fun _ => ?_) ?_
        · refine' known_plain (st := K34.t30) inK atG ?a ?l ?c ?k K34.s30 K34.k30 rfl ?m ?b ?w
          case a => k_is
          case l => k_is
          case c => k_is
          case k => k_is
          case m => exact fun h => nomatch h
          case b => exact fun us hl => match us, hl with | [v0, v1, v2, v3], _ => rfl
          case w => exact all_nil
        refine all_cons (fun _ => ?_) ?_
        · refine' known_plain (st := K34.t31) inK atG ?a ?l ?c ?k K34.s31 K34.k31 rfl ?m ?b ?w
          case a => k_is
          case l => k_is
          case c => k_is
          case k => k_is
          case m => exact fun h => nomatch h
          case b => exact fun us hl => match us, hl with | [], _ => rfl
          case w => exact all_nil
        refine all_cons (fun _ => ?_) ?_
        · refine' known_plain (st := K34.t32) inK atG ?a ?l ?c ?k K34.s32 K34.k32 rfl ?m ?b ?w
          case a => k_is
          case l => k_is
          case c => k_is
          case k => k_is
          case m => exact fun h => nomatch h
          case b => exact fun us hl => match us, hl with | [v0, v1, v2], _ => rfl
          case w => exact all_nil
        refine all_cons (fun _ => ?_) ?_
        · refine' known_plain (st := K34.t33) inK atG ?a ?l ?c ?k K34.s33 K34.k33 rfl ?m ?b ?w
          case a => k_is
          case l => k_is
          case c => k_is
          case k => k_is
          case m => exact fun _ => ⟨_, 256, rfl, List.mem_singleton.mpr (by decide)⟩
          case b => exact fun us hl => match us, hl with | [v0], _ => rfl
          case w => exact all_nil
        refine all_cons (fun _ => ?_) ?_
        · refine' known_plain (st := K34.t34) inK atG ?a ?l ?c ?k K34.s34 K34.k34 rfl ?m ?b ?w
          case a => k_is
          case l => k_is
          case c => k_is
          case k => k_is
          case m => exact fun h => nomatch h
          case b => exact fun us hl => match us, hl with | [v0, v1], _ => rfl
          case w => exact all_nil
        refine all_cons (fun _ => ?_) ?_
        · refine' known_plain (st := K34.t35) inK atG ?a ?l ?c ?k K34.s35 K34.k35 rfl ?m ?b ?w
          case a => k_is
          case l => k_is
          case c => k_is
          case k => k_is
          case m => exact fun h => nomatch h
          case b => exact fun us hl => match us, hl with | [v0, v1, v2], _ => rfl
          case w => exact all_nil
        refine all_cons (fun _ => ?_) ?_
        · refine' known_plain (st := K34.t36) inK atG ?a ?l ?c ?k K34.s36 K34.k36 rfl ?m ?b ?w
          case a => k_is
          case l => k_is
          case c => k_is
          case k => k_is
          case m => exact fun h => nomatch h
          case b => exact fun us hl => match us, hl with | [v0, v1, v2, v3], _ => rfl
          case w => exact all_nil
        refine all_cons (fun _ => ?_) ?_
        · refine' known_plain (st := K34.t37) inK atG ?a ?l ?c ?k K34.s37 K34.k37 rfl ?m ?b ?w
          case a => k_is
          case l => k_is
          case c => k_is
          case k => k_is
          case m => exact fun h => nomatch h
          case b => exact fun us hl => match us, hl with | [v0, v1, v2, v3], _ => rfl
          case w => exact all_nil
        refine all_cons (fun _ => ?_) ?_
        · refine' known_plain (st := K34.t38) inK atG ?a ?l ?c ?k K34.s38 K34.k38 rfl ?m ?b ?w
          case a => k_is
          case l => k_is
          case c => k_is
          case k => k_is
          case m => exact fun h => nomatch h
          case b => exact fun us hl => match us, hl with | [v0], _ => rfl
          case w => exact all_nil
        refine all_cons (fun _ => ?_) ?_
        · refine' known_plain (st := K34.t39) inK atG ?a ?l ?c ?k K34.s39 K34.k39 rfl ?m ?b ?w
          case a => k_is
          case l => k_is
          case c => k_is
          case k => k_is
          case m => exact fun h => nomatch h
          case b => exact fun us hl => match us, hl with | [v0, v1, v2], _ => rfl
          case w => exact all_nil
        refine all_cons (fun _ => ?_) ?_
        · refine' known_plain (st := K34.t40) inK atG ?a ?l ?c ?k K34.s40 K34.k40 rfl ?m ?b ?w
          case a => k_is
          case l => k_is
          case c => k_is
          case k => k_is
          case m => exact fun h => nomatch h
          case b => exact fun us hl => match us, hl with | [v0], _ => rfl
          case w => exact all_nil
        refine all_cons (fun _ => ?_) ?_
        · refine' known_plain (st := K34.t41) inK atG ?a ?l ?c ?k K34.s41 K34.k41 rfl ?m ?b ?w
          case a => k_is
          case l => k_is
          case c => k_is
          case k => k_is
          case m => exact fun h => nomatch h
          case b => exact fun us hl => match us, hl with | [v0, v1], _ => rfl
          case w => exact all_nil
        refine all_cons (fun _ => ?_) ?_
        · refine' known_plain (st := K34.t42) inK atG ?a ?l ?c ?k K34.s42 K34.k42 rfl ?m ?b ?w
          case a => k_is
          case l => k_is
          case c => k_is
          case k => k_is
          case m => exact fun h => nomatch h
          case b => exact fun us hl => match us, hl with | [v0], _ => rfl
          case w => exact all_nil
        refine all_cons (fun _ => ?_) ?_
        · refine' known_plain (st := K34.t43) inK atG ?a ?l ?c ?k K34.s43 K34.k43 rfl ?m ?b ?w
          case a => k_is
          case l => k_is
          case c => k_is
          case k => k_is
          case m => exact fun h => nomatch h
          case b => exact fun us hl => match us, hl with | [v0], _ => rfl
          case w => exact all_nil
        refine all_cons (fun h => absurd rfl h) ?_
        exact all_nil
      case con =>
        refine all_cons ?_ ?_
        · refine' con_scal inK atG ?a ?e
          case a => k_is
          case e => exact rfl
        refine all_cons ?_ ?_
        · refine' con_scal inK atG ?a ?e
          case a => k_is
          case e => exact rfl
        refine all_cons ?_ ?_
        · refine' con_tup inK atG ?a ?l ?e ?z
          case a => k_is
          case l => k_is
          case e => exact rfl
          case z => exact rfl
        refine all_cons ?_ ?_
        · refine' con_scal inK atG ?a ?e
          case a => k_is
          case e => exact rfl
        refine all_cons ?_ ?_
        · refine' con_scal inK atG ?a ?e
          case a => k_is
          case e => exact rfl
        refine all_cons ?_ ?_
        · refine' con_scal inK atG ?a ?e
          case a => k_is
          case e => exact rfl
        refine all_cons ?_ ?_
        · refine' con_scal inK atG ?a ?e
          case a => k_is
          case e => exact rfl
        refine all_cons ?_ ?_
        · refine' con_scal inK atG ?a ?e
          case a => k_is
          case e => exact rfl
        refine all_cons ?_ ?_
        · refine' con_scal inK atG ?a ?e
          case a => k_is
          case e => exact rfl
        refine all_cons ?_ ?_
        · refine' con_scal inK atG ?a ?e
          case a => k_is
          case e => exact rfl
        refine all_cons ?_ ?_
        · refine' con_scal inK atG ?a ?e
          case a => k_is
          case e => exact rfl
        refine all_cons ?_ ?_
        · refine' con_rows inK atG ?a ?l ?e ?z
          case a => k_is
          case l => k_is
          case e =>
            refine rows_cons (by k_is) (by exact rfl) (by exact rfl) ?_
            refine rows_cons (by k_is) (by exact rfl) (by exact rfl) ?_
            refine rows_cons (by k_is) (by exact rfl) (by exact rfl) ?_
            refine rows_cons (by k_is) (by exact rfl) (by exact rfl) ?_
            refine rows_cons (by k_is) (by exact rfl) (by exact rfl) ?_
            refine rows_cons (by k_is) (by exact rfl) (by exact rfl) ?_
            refine rows_cons (by k_is) (by exact rfl) (by exact rfl) ?_
            refine rows_cons (by k_is) (by exact rfl) (by exact rfl) ?_
            refine rows_cons (by k_is) (by exact rfl) (by exact rfl) ?_
            refine rows_cons (by k_is) (by exact rfl) (by exact rfl) ?_
            refine rows_cons (by k_is) (by exact rfl) (by exact rfl) ?_
            refine rows_cons (by k_is) (by exact rfl) (by exact rfl) ?_
            refine rows_cons (by k_is) (by exact rfl) (by exact rfl) ?_
            refine rows_cons (by k_is) (by exact rfl) (by exact rfl) ?_
            refine rows_cons (by k_is) (by exact rfl) (by exact rfl) ?_
            refine rows_cons (by k_is) (by exact rfl) (by exact rfl) ?_
            refine rows_cons (by k_is) (by exact rfl) (by exact rfl) ?_
            refine rows_cons (by k_is) (by exact rfl) (by exact rfl) ?_
            refine rows_cons (by k_is) (by exact rfl) (by exact rfl) ?_
            refine rows_cons (by k_is) (by exact rfl) (by exact rfl) ?_
            refine rows_cons (by k_is) (by exact rfl) (by exact rfl) ?_
            refine rows_cons (by k_is) (by exact rfl) (by exact rfl) ?_
            refine rows_cons (by k_is) (by exact rfl) (by exact rfl) ?_
            refine rows_cons (by k_is) (by exact rfl) (by exact rfl) ?_
            refine rows_cons (by k_is) (by exact rfl) (by exact rfl) ?_
            refine rows_cons (by k_is) (by exact rfl) (by exact rfl) ?_
            refine rows_cons (by k_is) (by exact rfl) (by exact rfl) ?_
            refine rows_cons (by k_is) (by exact rfl) (by exact rfl) ?_
            refine rows_cons (by k_is) (by exact rfl) (by exact rfl) ?_
            refine rows_cons (by k_is) (by exact rfl) (by exact rfl) ?_
            exact rows_nil
          case z => exact rfl
        refine all_cons ?_ ?_
        · refine' con_tup inK atG ?a ?l ?e ?z
          case a => k_is
          case l => k_is
          case e => exact rfl
          case z => exact rfl
        refine all_cons ?_ ?_
        · refine' con_tup inK atG ?a ?l ?e ?z
          case a => k_is
          case l => k_is
          case e => exact rfl
          case z => exact rfl
        refine all_cons ?_ ?_
        · refine' con_scal inK atG ?a ?e
          case a => k_is
          case e => exact rfl
        refine all_cons ?_ ?_
        · refine' con_scal inK atG ?a ?e
          case a => k_is
          case e => exact rfl
        refine all_cons ?_ ?_
        · refine' con_scal inK atG ?a ?e
          case a => k_is
          case e => exact rfl
        refine all_cons ?_ ?_
        · refine' con_scal inK atG ?a ?e
          case a => k_is
          case e => exact rfl
        refine all_cons ?_ ?_
        · refine' con_scal inK atG ?a ?e
          case a => k_is
          case e => exact rfl
        refine all_cons ?_ ?_
        · refine' con_scal inK atG ?a ?e
          case a => k_is
          case e => exact rfl
        refine all_cons ?_ ?_
        · refine' con_scal inK atG ?a ?e
          case a => k_is
          case e => exact rfl
        exact all_nil
      case bt =>
        refine all_cons (bt_none inK atG (by k_is)) ?_
        refine all_cons (bt_none inK atG (by k_is)) ?_
        refine all_cons (bt_none inK atG (by k_is)) ?_
        refine all_cons (bt_none inK atG (by k_is)) ?_
        refine all_cons (bt_none inK atG (by k_is)) ?_
        refine all_cons (bt_none inK atG (by k_is)) ?_
        refine all_cons (bt_none inK atG (by k_is)) ?_
        refine all_cons (bt_none inK atG (by k_is)) ?_
        refine all_cons (bt_none inK atG (by k_is)) ?_
        refine all_cons (bt_none inK atG (by k_is)) ?_
        refine all_cons (bt_none inK atG (by k_is)) ?_
        refine all_cons (bt_none inK atG (by k_is)) ?_
        refine all_cons (bt_none inK atG (by k_is)) ?_
        refine all_cons (bt_none inK atG (by k_is)) ?_
        refine all_cons (bt_none inK atG (by k_is)) ?_
        refine all_cons (bt_none inK atG (by k_is)) ?_
        exact all_nil
    all_goals trace_state
end
