import PyProof.Rows.All
import HandS.ForExc
import HandS.ForMost
import HandS.IsInst
import HandS.TupAny
import HandS.Deep
import HandS.NoneIn
import HandS.Style
import HandS.Zip
import HandS.Defaults
import PyProof.StrLawsRepr
import PySem.Challenge.RW_stepcrowds_k75_whole_normal_forms
set_option Elab.async false
set_option linter.all false
section
/-! EvA: our own small syntax, its data, its evaluator. -/
namespace Ev
open PySem

abbrev D := PyData

/-- a value at hand: data, or a thing of the store -/
inductive U where
  | d (x : D)
  | m (n : Nat)
/-- what stands in the store -/
inductive Cell where
  | lst (xs : List U)
  | dead
abbrev Store := List Cell
abbrev Env := List (Option U)

/-- what an expression comes to -/
inductive R (α : Type) where
  | ok (a : α) (st : Store)
  | exc (c : Nat) (x : D) (st : Store)
  | stuck
/-- no exception may leave -/
def R.nox {α : Type} (r : R α) : R α := match r with
  | .ok a st => .ok a st
  | _ => .stuck
def R.bind {α β : Type} (r : R α) (f : α → Store → R β) : R β := match r with
  | .ok a st => f a st
  | .exc c x st => .exc c x st
  | .stuck => .stuck
/-- what a statement comes to -/
inductive RS where
  | nx (ε : Env) (st : Store)
  | ret (u : U) (st : Store)
  | brk (ε : Env) (st : Store)
  | cnt (ε : Env) (st : Store)
  | exc (c : Nat) (x : D) (ε : Env) (st : Store)
  | stuck
def R.bindS {α : Type} (ε : Env) (r : R α) (f : α → Store → RS) : RS := match r with
  | .ok a st => f a st
  | .exc c x st => .exc c x ε st
  | .stuck => .stuck

/-- built-in types that isinstance asks -/
inductive Ty where
  | int | bool | str | tuple | list | dict
  deriving DecidableEq
def Ty.name : Ty → String
  | .int => "int" | .bool => "bool" | .str => "str" | .tuple => "tuple" | .list => "list" | .dict => "dict"
/-- built-in functions -/
inductive Bf where
  | len | int | abs | repr | divmod | tuple | list (mu : Bool) | sum | any | all | max2 | min2
  deriving DecidableEq
/-- methods of built-in types: without an argument, with one -/
inductive M0 where
  | pop
  deriving DecidableEq
inductive M1 where
  | append
  deriving DecidableEq
/-- what a loop walks -/
inductive Ik where
  | val | r1 | r2 | enum | zip
  deriving DecidableEq
/-- targets by names -/
inductive Tn where
  | one (i : Nat)
  | tup (is : List Nat)

mutual
inductive E where
  | con (c : Const)
  | var (i : Nat)
  | glob (g : Nat)
  | bin (op : Operator) (a b : E)
  | neg (a : E)
  | not_ (a : E)
  | cmp (op : CmpOp) (a b : E)
  | chain (op op2 : CmpOp) (a b c : E)
  | and_ (a b : E)
  | or_ (a b : E)
  | ite (c a b : E)
  | tup (es : Es)
  | lst (mu : Bool) (es : Es)
  | ix (a b : E)
  | slice (a : E) (lo hi : Es)
  | call (f : Nat) (es : Es)
  | callK (f : Nat) (ks js : List Nat) (es : Es)
  | bcall (b : Bf) (es : Es)
  | isty (t : Ty) (e : E)
  | meth0 (m : M0) (o : E)
  | meth1 (m : M1) (o a : E)
  | comp (mu : Bool) (elt : E) (tg : Tn) (ik : Ik) (its : Es) (ifs : Es) (own : List Nat)
  | dict (ks : List Str) (es : Es)
  | rep (es : Es) (n : Nat)
  | comp2 (mu : Bool) (elt : E) (tg : Tn) (ik : Ik) (its ifs : Es) (tg1 : Tn) (ik1 : Ik) (its1 ifs1 : Es) (own own1 : List Nat)
inductive Es where
  | nil
  | cons (e : E) (es : Es)
end

/-- targets of an assignment -/
inductive Tg where
  | name (i : Nat)
  | sub (o i : E)
mutual
inductive S where
  | pass
  | ret (e : E)
  | retN
  | asg (t : Tg) (e : E)
  | tup (ts : List Tg) (e : E)
  | par (is : List Nat) (es : Es)
  | aug (i : Nat) (op : Operator) (e : E)
  | ex (e : E)
  | ifs (c : E) (a b : Ss)
  | for_ (t : Tn) (ik : Ik) (its : Es) (body : Ss)
  | whil (c : E) (body : Ss)
  | brk
  | cnt
  | never
  | freeze (i : Nat)
inductive Ss where
  | nil
  | cons (s : S) (ss : Ss)
end

structure Fn where
  name : Str
  ps : List Str
  N : List Str
  pure : Bool
  body : Ss
  dfl : List D
  kss : List (List Nat × List Nat)
structure Gm where
  fns : List Fn
  consts : List (Str × D)
  bts : List Str
  excs : List (Str × Option Str)

/-! ### data -/
def sizeMax : Nat := 16777216
def conD : Const → Option D
  | .none => some .none
  | .bool b => some (.bool b)
  | .int i => some (.int i)
  | .str s => some (.str s)
  | _ => none
def cmulOk (i j : Int) : Bool := (decide (-(2 ^ 64) < i) && decide (i < 2 ^ 64)) || (decide (-(2 ^ 64) < j) && decide (j < 2 ^ 64))
def binD : Operator → D → D → Option D
  | .Add, .int i, .int j => some (.int (i + j))
  | .Sub, .int i, .int j => some (.int (i - j))
  | .Mult, .int i, .int j => if cmulOk i j then some (.int (i * j)) else none
  | .FloorDiv, .int i, .int j => if j ≠ 0 ∧ j.natAbs < 1073741824 then some (.int (i.fdiv j)) else none
  | .Mod, .int i, .int j => if j ≠ 0 then some (.int (i.fmod j)) else none
  | .Pow, .int i, .int j => if 0 ≤ j ∧ j ≤ 1000000 ∧ i.natAbs < 2 ^ 64 then some (.int (i ^ j.toNat)) else none
  | .Add, .str a, .str b => if a.length + b.length ≤ sizeMax then some (.str (a ++ b)) else none
  | .Add, .list a, .list b => if a.length + b.length ≤ sizeMax then some (.list (a ++ b)) else none
  | .Add, .tuple a, .tuple b => if a.length + b.length ≤ sizeMax then some (.tuple (a ++ b)) else none
  | _, _, _ => none
def augD : Operator → D → D → Option D
  | .Add, .int i, .int j => some (.int (i + j))
  | .Sub, .int i, .int j => some (.int (i - j))
  | .Mult, .int i, .int j => if cmulOk i j then some (.int (i * j)) else none
  | .Add, .str a, .str b => if a.length + b.length ≤ sizeMax then some (.str (a ++ b)) else none
  | _, _, _ => none
def scalD : D → D → Bool
  | .none, .none => true | .none, .int _ => true | .int _, .none => true | .none, .bool _ => true | .bool _, .none => true | .none, .str _ => true | .str _, .none => true
  | .int _, .int _ => true | .bool _, .bool _ => true | .str _, .str _ => true
  | .int _, .str _ => true | .str _, .int _ => true | .bool _, .str _ => true | .str _, .bool _ => true
  | _, _ => false
def eqOk (a b : D) : Bool := scalD a b || (SeqAt.shaped a && SeqAt.shaped b)
def eqD (a b : D) : Option Bool := if eqOk a b then some (PyData.eqv a b) else none
def flatD : D → Bool
  | .none | .bool _ | .int _ | .str _ => true
  | _ => false
def memD (x : D) (ys : List D) : Bool := ys.any fun y => PyData.eqv y x
def inD : D → D → Option Bool
  | .str x, .str y => some (!(Builtin.Str.occurrences y x 0 y.length 1).isEmpty)
  | x, .list ys => if flatD x && ys.all flatD then some (memD x ys) else none
  | x, .tuple ys => if flatD x && ys.all flatD then some (memD x ys) else none
  | _, _ => none
def isNoneD : D → Bool
  | .none => true
  | _ => false
def cmpD : CmpOp → D → D → Option Bool
  | .Eq, a, b => eqD a b
  | .NotEq, a, b => (eqD a b).map not
  | .Lt, .int i, .int j => some (decide (i < j))
  | .LtE, .int i, .int j => some (decide (i ≤ j))
  | .Gt, .int i, .int j => some (decide (j < i))
  | .GtE, .int i, .int j => some (decide (j ≤ i))
  | .Is, a, .none => some (isNoneD a)
  | .Is, .bool a, .bool b => some (decide (a = b))
  | .IsNot, .bool a, .bool b => some (!decide (a = b))
  | .IsNot, a, .none => some (!isNoneD a)
  | .In, a, b => inD a b
  | .NotIn, a, b => (inD a b).map not
  | _, _, _ => none
/-- the items of a sequence -/
def itemsU : U → Store → Option (List U)
  | .d (.list xs), _ => some (xs.map .d)
  | .d (.tuple xs), _ => some (xs.map .d)
  | .d (.str s), _ => if s.length ≤ sizeMax then some (s.cps.toList.map fun c => .d (.str ⟨#[c]⟩)) else none
  | _, _ => none
def isKey (k : Str) : D → Bool
  | .str s => decide (s = k)
  | _ => false
def lookD : List (D × D) → Str → Option D
  | [], _ => none
  | p :: r, k => if isKey k p.1 then some p.2 else lookD r k
def ixU : U → U → Store → Option U
  | .d (.dict kvs), .d (.str k), _ => (lookD kvs k).map .d
  | .d (.list xs), .d (.int i), _ => (L2.atI xs i).map .d
  | .d (.tuple xs), .d (.int i), _ => (L2.atI xs i).map .d
  | .d (.str s), .d (.int i), _ => if s.length ≤ sizeMax then (L2.atI s.cps.toList i).map fun c => .d (.str ⟨#[c]⟩) else none
  | .m n, .d (.int i), st => match st[n]? with
    | some (.lst xs) => L2.atI xs i
    | _ => none
  | _, _, _ => none
def toDs : List U → Option (List D)
  | [] => some []
  | .d x :: us => (toDs us).map (x :: ·)
  | .m _ :: _ => none
/-- what a dict with such keys holds -/
def dictU (ks : List Str) (us : List U) : Option U := match toDs us with
  | some ds => if ks.length = ds.length then some (.d (.dict ((ks.map PyData.str).zip ds))) else none
  | none => none
/-- a list written out, so many times -/
def repU (n : Nat) (us : List U) : Option U := match toDs us with
  | some ds => if ds.length ≤ sizeMax ∧ ds.length * n ≤ sizeMax then some (.d (.list (List.replicate n ds).flatten)) else none
  | none => none
def sl {α : Type} (xs : List α) (lo hi : Option Int) : List α := (xs.drop (HT.sIx xs.length 0 lo)).take (HT.sIx xs.length xs.length hi - HT.sIx xs.length 0 lo)
def slU (u : U) (lo hi : Option Int) (st : Store) : Option U := match u with
  | .d (.list xs) => some (.d (.list (sl xs lo hi)))
  | .d (.tuple xs) => some (.d (.tuple (sl xs lo hi)))
  | .m n => match st[n]? with
    | some (.lst us) => (toDs us).map fun xs => .d (.list (sl xs lo hi))
    | _ => none
  | _ => none
def tyName : D → String
  | .none => "NoneType" | .bool _ => "bool" | .int _ => "int" | .str _ => "str" | .list _ => "list" | .tuple _ => "tuple" | .dict _ => "dict"
def isTy (t : String) (x : D) : Option Bool := L2.kitB (tyName x) t
/-- the sum of a list of ints -/
def toInts : List D → Option (List Int)
  | [] => some []
  | .int i :: ds => (toInts ds).map (i :: ·)
  | _ :: _ => none
def toBools : List D → Option (List Bool)
  | [] => some []
  | .bool i :: ds => (toBools ds).map (i :: ·)
  | _ :: _ => none
def reprOk (d : D) : Bool := PyData.showable d && !PyData.hasDict d && decide (PyData.depth d ≤ 64) && decide ((PyData.shown d).length + 64 ≤ sizeMax)
def bfD : Bf → List U → Store → R U
  | .len, [.d (.list xs)], st => .ok (.d (.int xs.length)) st
  | .len, [.d (.tuple xs)], st => .ok (.d (.int xs.length)) st
  | .len, [.d (.str s)], st => if s.length ≤ sizeMax then .ok (.d (.int s.length)) st else .stuck
  | .len, [.m n], st => match st[n]? with
    | some (.lst xs) => .ok (.d (.int xs.length)) st
    | _ => .stuck
  | .int, [.d (.int i)], st => .ok (.d (.int i)) st
  | .int, [.d (.bool b)], st => .ok (.d (.int (if b then 1 else 0))) st
  | .abs, [.d (.int i)], st => .ok (.d (.int (if i < 0 then -i else i))) st
  | .repr, [.d x], st => if reprOk x then .ok (.d (.str (PyData.shown x))) st else .stuck
  | .divmod, [.d (.int i), .d (.int j)], st => if 0 < j ∧ j < 1073741824 then .ok (.d (.tuple [.int (i / j), .int (i % j)])) st else .stuck
  | .tuple, [.d (.list xs)], st => .ok (.d (.tuple xs)) st
  | .tuple, [.d (.tuple xs)], st => .ok (.d (.tuple xs)) st
  | .tuple, [.m n], st => match st[n]? with
    | some (.lst us) => match toDs us with
      | some ds => .ok (.d (.tuple ds)) st
      | none => .stuck
    | _ => .stuck
  | .list mu, [.d (.list xs)], st => if mu then .ok (.m st.length) (st ++ [.lst (xs.map .d)]) else .ok (.d (.list xs)) st
  | .list mu, [.d (.tuple xs)], st => if mu then .ok (.m st.length) (st ++ [.lst (xs.map .d)]) else .ok (.d (.list xs)) st
  | .sum, [.d (.list xs)], st => match toInts xs with
    | some ns => .ok (.d (.int ns.sum)) st
    | none => .stuck
  | .any, [.d (.list xs)], st => match toBools xs with
    | some bs => .ok (.d (.bool (bs.any id))) st
    | none => .stuck
  | .all, [.d (.list xs)], st => match toBools xs with
    | some bs => .ok (.d (.bool (bs.all id))) st
    | none => .stuck
  | .max2, [.d (.int i), .d (.int j)], st => .ok (.d (.int (if j > i then j else i))) st
  | .min2, [.d (.int i), .d (.int j)], st => .ok (.d (.int (if j < i then j else i))) st
  | _, _, _ => .stuck
def m0D : M0 → U → Store → R U
  | .pop, .m n, st => match st[n]? with
    | some (.lst us) => match us[us.length - 1]? with
      | some u => .ok u (st.set n (.lst us.dropLast))
      | none => .stuck
    | _ => .stuck
  | .pop, .d _, _ => .stuck
/-- the receiver is of the method's type, ahead of the argument -/
def r1Ok : M1 → U → Store → Bool
  | .append, .m n, st => match st[n]? with
    | some (.lst _) => true
    | _ => false
  | .append, .d _, _ => false
def m1D : M1 → U → U → Store → R U
  | .append, .m n, u, st => match st[n]? with
    | some (.lst us) => if us.length < sizeMax then .ok (.d .none) (st.set n (.lst (us ++ [u]))) else .stuck
    | _ => .stuck
  | .append, .d _, _, _ => .stuck

/-! ### environments -/
def setE (i : Nat) (u : U) (ε : Env) : Env := ε.set i (some u)
def setEs : List Nat → List U → Env → Option Env
  | [], [], ε => some ε
  | i :: is, u :: us, ε => setEs is us (setE i u ε)
  | _, _, _ => none
def setTn : Tn → U → Env → Option Env
  | .one i, u, ε => some (setE i u ε)
  | .tup is, .d (.tuple xs), ε => if xs.length = is.length then setEs is (xs.map .d) ε else none
  | _, _, _ => none
def wipeE (ε : Env) : List Nat → Env
  | [] => ε
  | v :: vs => (wipeE ε vs).set v none

/-! ### loops -/
/-- what an iterable yields -/
def enumD : Nat → List D → List D
  | _, [] => []
  | n, x :: xs => .tuple [.int n, x] :: enumD (n + 1) xs
def zipD : List D → List D → List D
  | x :: xs, y :: ys => .tuple [x, y] :: zipD xs ys
  | _, _ => []
def rangeU (lo : Int) : Nat → List U
  | 0 => []
  | n + 1 => .d (.int lo) :: rangeU (lo + 1) n
def wVal : List U → Store → Option (List U)
  | [u], st => itemsU u st
  | _, _ => none
def wR1 : List U → Option (List U)
  | [.d (.int j)] => if -(2 ^ 62) ≤ j ∧ j < 2 ^ 62 then some (rangeU 0 j.toNat) else none
  | _ => none
def wR2 : List U → Option (List U)
  | [.d (.int i), .d (.int j)] => if -(2 ^ 62) ≤ i ∧ i < 2 ^ 62 ∧ -(2 ^ 62) ≤ j ∧ j < 2 ^ 62 then some (rangeU i (j - i).toNat) else none
  | _ => none
def wEnum : List U → Option (List U)
  | [.d (.list xs)] => some ((enumD 0 xs).map .d)
  | _ => none
def wZip : List U → Option (List U)
  | [.d (.list xs), .d (.list ys)] => some ((zipD xs ys).map .d)
  | [.d (.tuple xs), .d (.tuple ys)] => some ((zipD xs ys).map .d)
  | _ => none
def walkU (ik : Ik) (us : List U) (st : Store) : Option (List U) := match ik with
  | .val => wVal us st
  | .r1 => wR1 us
  | .r2 => wR2 us
  | .enum => wEnum us
  | .zip => wZip us
/-- a for -/
def forLoop (set : U → Env → Option Env) (body : Env → Store → RS) : List U → Env → Store → RS
  | [], ε, st => .nx ε st
  | u :: us, ε, st => match set u ε with
    | none => .stuck
    | some ε1 => match body ε1 st with
      | .nx ε2 st2 => forLoop set body us ε2 st2
      | .cnt ε2 st2 => forLoop set body us ε2 st2
      | .brk ε2 st2 => .nx ε2 st2
      | r => r
/-- a while, with so many turns at most -/
def whileLoop (c : Env → Store → R U) (body : Env → Store → RS) : Nat → Env → Store → RS
  | 0, _, _ => .stuck
  | n + 1, ε, st => (c ε st).bindS ε fun u st1 => match u with
    | .d (.bool true) => match body ε st1 with
      | .nx ε2 st2 => whileLoop c body n ε2 st2
      | .cnt ε2 st2 => whileLoop c body n ε2 st2
      | .brk ε2 st2 => .nx ε2 st2
      | r => r
    | .d (.bool false) => .nx ε st1
    | _ => .stuck
/-- a comprehension: the items made, from the left -/
def compLoop (f : U → Store → R (Option U)) : List U → List U → Store → R (List U)
  | [], acc, st => .ok acc st
  | u :: us, acc, st => (f u st).bind fun o st1 => match o with
    | none => compLoop f us acc st1
    | some x => if acc.length < sizeMax then compLoop f us (acc ++ [x]) st1 else .stuck

/-- a comprehension's outer turns -/
def compLoopA (f : U → List U → Store → R (List U)) : List U → List U → Store → R (List U)
  | [], acc, st => .ok acc st
  | u :: us, acc, st => (f u acc st).bind fun acc1 st1 => compLoopA f us acc1 st1
/-- what a comprehension's tests say -/
def tstB : List U → Option Bool
  | [] => some true
  | [.d (.bool b)] => some b
  | _ => none

/-- builtins by their names -/
def bfName : Bf → Str
  | .len => "len" | .int => "int" | .abs => "abs" | .repr => "repr" | .divmod => "divmod" | .tuple => "tuple" | .list _ => "list" | .sum => "sum" | .any => "any" | .all => "all"
  | .max2 => "max" | .min2 => "min"
def m0Name : M0 → Str
  | .pop => "pop"
def m1Name : M1 → Str
  | .append => "append"

/-- no thing of the store from k on -/
def lowU (k : Nat) : U → Bool
  | .d _ => true
  | .m n => decide (n < k)
def lowC (k : Nat) : Cell → Bool
  | .lst us => us.all (lowU k)
  | .dead => true
/-- behind a def's call the store is as long as it was -/
def cutStore (k : Nat) : R U → R U
  | .ok u st => if st.length = k then .ok u st else if lowU k u && (st.take k).all (lowC k) then .ok u (st.take k) else .ok u st
  | .exc c x st => if st.length = k then .exc c x st else if (st.take k).all (lowC k) then .exc c x (st.take k) else .exc c x st
  | .stuck => .stuck

section
variable (G : Gm) (W : Nat) (cp : Nat → List D → R D) (cm : Nat → List U → Store → R U)

/-- a call of a def: pure ones see data alone -/
def callU (f : Nat) (us : List U) (st : Store) : R U := match G.fns[f]? with
  | none => .stuck
  | some F => if F.pure then match toDs us with
      | none => .stuck
      | some ds => match cp f ds with
        | .ok x _ => .ok (.d x) st
        | .exc c x _ => .exc c x st
        | .stuck => .stuck
    else cm f us st

def allocL (mu : Bool) (us : List U) (st : Store) : R U :=
  if mu then .ok (.m st.length) (st ++ [.lst us]) else match toDs us with
    | some ds => .ok (.d (.list ds)) st
    | none => .stuck
def ofO {α : Type} (o : Option α) (st : Store) : R α := match o with
  | some a => .ok a st
  | none => .stuck
def b2 (o : Option Bool) (st : Store) : R U := match o with
  | some b => .ok (.d (.bool b)) st
  | none => .stuck
def partI (us : List U) (st : Store) : R (Option Int) := match us with
  | [] => .ok none st
  | [.d (.int i)] => .ok (some i) st
  | _ => .stuck
/-- the arguments in the parameters' order: js tells for each parameter which of the keywords it is -/
def pick {α : Type} (us : List α) : List Nat → Option (List α)
  | [] => some []
  | j :: js => match us[j]?, pick us js with
    | some a, some r => some (a :: r)
    | _, _ => none
mutual
def evE : E → Env → Store → R U
  | .con c, _, st => match conD c with
    | some x => .ok (.d x) st
    | none => .stuck
  | .var i, ε, st => match ε[i]? with
    | some (some u) => .ok u st
    | _ => .stuck
  | .glob g, _, st => match G.consts[g]? with
    | some p => .ok (.d p.2) st
    | none => .stuck
  | .bin op a b, ε, st => (evE a ε st).bind fun x st1 => (evE b ε st1).bind fun y st2 => match x, y with
    | .d x, .d y => ofO ((binD op x y).map .d) st2
    | _, _ => .stuck
  | .neg a, ε, st => (evE a ε st).bind fun x st1 => match x with
    | .d (.int i) => .ok (.d (.int (-i))) st1
    | _ => .stuck
  | .not_ a, ε, st => (evE a ε st).bind fun x st1 => match x with
    | .d (.bool b) => .ok (.d (.bool (!b))) st1
    | _ => .stuck
  | .cmp op a b, ε, st => (evE a ε st).bind fun x st1 => (evE b ε st1).bind fun y st2 => match x, y with
    | .d x, .d y => b2 (cmpD op x y) st2
    | _, _ => .stuck
  | .chain op op2 a b c, ε, st => (evE a ε st).bind fun x st1 => (evE b ε st1).bind fun y st2 => match x, y with
    | .d x, .d y => match cmpD op x y with
      | some true => (evE c ε st2).bind fun z st3 => match z with
        | .d z => b2 (cmpD op2 y z) st3
        | _ => .stuck
      | some false => .ok (.d (.bool false)) st2
      | none => .stuck
    | _, _ => .stuck
  | .and_ a b, ε, st => (evE a ε st).bind fun x st1 => match x with
    | .d (.bool true) => evE b ε st1
    | .d (.bool false) => .ok (.d (.bool false)) st1
    | _ => .stuck
  | .or_ a b, ε, st => (evE a ε st).bind fun x st1 => match x with
    | .d (.bool true) => .ok (.d (.bool true)) st1
    | .d (.bool false) => evE b ε st1
    | _ => .stuck
  | .ite c a b, ε, st => (evE c ε st).bind fun x st1 => match x with
    | .d (.bool true) => evE a ε st1
    | .d (.bool false) => evE b ε st1
    | _ => .stuck
  | .tup es, ε, st => (evEs es ε st).bind fun us st1 => match toDs us with
    | some ds => if ds.length ≤ sizeMax then .ok (.d (.tuple ds)) st1 else .stuck
    | none => .stuck
  | .lst mu es, ε, st => (evEs es ε st).bind fun us st1 => if us.length ≤ sizeMax then allocL mu us st1 else .stuck
  | .ix a b, ε, st => (evE a ε st).bind fun x st1 => (evE b ε st1).bind fun y st2 => ofO (ixU x y st2) st2
  | .slice a lo hi, ε, st => (evE a ε st).bind fun x st1 => ((evEs lo ε st1).bind partI).bind fun l st2 => ((evEs hi ε st2).bind partI).bind fun h st3 => ofO (slU x l h st3) st3
  | .call f es, ε, st => (evEs es ε st).bind fun us st1 => callU G cp cm f us st1
  | .callK f ks js es, ε, st => (evEs es ε st).bind fun us st1 => match pick us js with
    | some vs => callU G cp cm f vs st1
    | none => .stuck
  | .bcall b es, ε, st => (evEs es ε st).bind fun us st1 => bfD b us st1
  | .isty t e, ε, st => (evE e ε st).bind fun u st1 => match u with
    | .d x => b2 (isTy t.name x) st1
    | _ => .stuck
  | .meth0 m o, ε, st => (evE o ε st).bind fun x st1 => m0D m x st1
  | .meth1 m o a, ε, st => (evE o ε st).bind fun x st1 => if r1Ok m x st1 then (evE a ε st1).bind fun u st2 => m1D m x u st2 else .stuck
  | .comp mu elt tg ik its ifs own, ε, st => ((evEs its ε st).bind fun us st1 => ofO (walkU ik us st1) st1).bind fun items st1 => (compLoop (fun u st2 => match setTn tg u (wipeE ε own) with
        | none => .stuck
        | some ε1 => (evEs ifs ε1 st2).nox.bind fun bs st3 => match bs with
          | [] => (evE elt ε1 st3).nox.bind fun x st4 => .ok (some x) st4
          | [.d (.bool true)] => (evE elt ε1 st3).nox.bind fun x st4 => .ok (some x) st4
          | [.d (.bool false)] => .ok none st3
          | _ => .stuck) items [] st1).bind fun acc st5 => allocL mu acc st5
  | .dict ks es, ε, st => (evEs es ε st).bind fun us st1 => ofO (dictU ks us) st1
  | .rep es n, ε, st => (evEs es ε st).bind fun us st1 => ofO (repU n us) st1
  | .comp2 mu elt tg ik its ifs tg1 ik1 its1 ifs1 own own1, ε, st => ((evEs its ε st).bind fun us st1 => ofO (walkU ik us st1) st1).bind fun items st1 => (compLoopA (fun u acc st2 => match setTn tg u (wipeE ε own) with
        | none => .stuck
        | some ε1 => (evEs ifs ε1 st2).nox.bind fun bs st3 => match tstB bs with
          | some true => ((evEs its1 ε1 st3).bind fun us st4 => ofO (walkU ik1 us st4) st4).nox.bind fun items1 st5 => compLoop (fun u st2 => match setTn tg1 u (wipeE ε1 own1) with
            | none => .stuck
            | some ε2 => (evEs ifs1 ε2 st2).nox.bind fun bs st3 => match bs with
              | [] => (evE elt ε2 st3).nox.bind fun x st4 => .ok (some x) st4
              | [.d (.bool true)] => (evE elt ε2 st3).nox.bind fun x st4 => .ok (some x) st4
              | [.d (.bool false)] => .ok none st3
              | _ => .stuck) items1 acc st5
          | some false => .ok acc st3
          | none => .stuck) items [] st1).bind fun acc st5 => allocL mu acc st5
def evEs : Es → Env → Store → R (List U)
  | .nil, _, st => .ok [] st
  | .cons e es, ε, st => (evE e ε st).bind fun u st1 => (evEs es ε st1).bind fun us st2 => .ok (u :: us) st2
end

def setSub (o i v : U) (st : Store) : R Unit := match o, i with
  | .m n, .d (.int k) => match st[n]? with
    | some (.lst us) => match L2.ixN us.length k with
      | some j => .ok () (st.set n (.lst (us.set j v)))
      | none => .stuck
    | _ => .stuck
  | _, _ => .stuck
def asgTg (t : Tg) (u : U) (ε : Env) (st : Store) : RS := match t with
  | .name i => .nx (setE i u ε) st
  | .sub o i => (evE G cp cm o ε st).bindS ε fun ov st1 => (evE G cp cm i ε st1).bindS ε fun iv st2 => (setSub ov iv u st2).bindS ε fun _ st3 => .nx ε st3
def asgTgs : List Tg → List U → Env → Store → RS
  | [], [], ε, st => .nx ε st
  | t :: ts, u :: us, ε, st => match asgTg G cp cm t u ε st with
    | .nx ε1 st1 => asgTgs ts us ε1 st1
    | r => r
  | _, _, _, _ => .stuck

mutual
def exS : S → Env → Store → RS
  | .pass, ε, st => .nx ε st
  | .ret e, ε, st => (evE G cp cm e ε st).bindS ε fun u st1 => .ret u st1
  | .retN, _, st => .ret (.d .none) st
  | .asg t e, ε, st => (evE G cp cm e ε st).bindS ε fun u st1 => asgTg G cp cm t u ε st1
  | .tup ts e, ε, st => (evE G cp cm e ε st).bindS ε fun u st1 => match u with
    | .d (.tuple xs) => if xs.length = ts.length then asgTgs G cp cm ts (xs.map .d) ε st1 else .stuck
    | _ => .stuck
  | .par is es, ε, st => (evEs G cp cm es ε st).bindS ε fun us st1 => match setEs is us ε with
    | some ε1 => .nx ε1 st1
    | none => .stuck
  | .aug i op e, ε, st => match ε[i]? with
    | some (some (.d x)) => (evE G cp cm e ε st).bindS ε fun u st1 => match u with
      | .d y => match augD op x y with
        | some z => .nx (setE i (.d z) ε) st1
        | none => .stuck
      | _ => .stuck
    | _ => .stuck
  | .ex e, ε, st => (evE G cp cm e ε st).bindS ε fun _ st1 => .nx ε st1
  | .ifs c a b, ε, st => (evE G cp cm c ε st).bindS ε fun u st1 => match u with
    | .d (.bool true) => exSs a ε st1
    | .d (.bool false) => exSs b ε st1
    | _ => .stuck
  | .for_ t ik its body, ε, st => ((evEs G cp cm its ε st).bind fun us st1 => ofO (walkU ik us st1) st1).bindS ε fun items st1 => forLoop (setTn t) (fun ε1 st2 => exSs body ε1 st2) items ε st1
  | .whil c body, ε, st => whileLoop (fun ε1 st1 => evE G cp cm c ε1 st1) (fun ε1 st1 => exSs body ε1 st1) W ε st
  | .brk, ε, st => .brk ε st
  | .cnt, ε, st => .cnt ε st
  | .never, _, _ => .stuck
  | .freeze i, ε, st => match ε[i]? with
    | some (some (.m n)) => match st[n]? with
      | some (.lst us) => match toDs us with
        | some ds => .nx (setE i (.d (.list ds)) ε) (st.set n .dead)
        | none => .stuck
      | _ => .stuck
    | _ => .stuck
def exSs : Ss → Env → Store → RS
  | .nil, ε, st => .nx ε st
  | .cons s ss, ε, st => match exS s ε st with
    | .nx ε1 st1 => exSs ss ε1 st1
    | r => r
end
end

/-- a def's run -/
def fin (r : RS) : R U := match r with
  | .nx _ st => .ok (.d .none) st
  | .ret u st => .ok u st
  | .exc c x _ st => .exc c x st
  | _ => .stuck
def fill (F : Fn) (us : List U) : List U := us ++ (F.dfl.drop (F.dfl.length - (F.ps.length - us.length))).map .d
def startE (F : Fn) (us : List U) : Env := us.map some ++ List.replicate (F.N.length - us.length) none
def lowR : R U → R D
  | .ok (.d x) st => .ok x st
  | .ok (.m _) _ => .stuck
  | .exc c x st => .exc c x st
  | .stuck => .stuck
def callRaw (G : Gm) (W : Nat) : Nat → Nat → List U → Store → R U
  | 0, _, _, _ => .stuck
  | k + 1, f, us, st => match G.fns[f]? with
    | none => .stuck
    | some F => if (fill F us).length = F.ps.length then
        fin (exSs G W (fun g ds => lowR (callRaw G W k g (ds.map .d) [])) (fun g vs st1 => cutStore st1.length (callRaw G W k g vs st1)) F.body (startE F (fill F us)) st)
      else .stuck
/-- a pure def upon data; any def upon things at hand -/
def callP (G : Gm) (W k f : Nat) (ds : List D) : R D := lowR (callRaw G W k f (ds.map .d) [])
def callM (G : Gm) (W k f : Nat) (us : List U) (st : Store) : R U := cutStore st.length (callRaw G W k f us st)
/-! ### the given text is this syntax -/
structure Ct where
  N : List Str
  sc : Scope
  sv : Str → Bool
def visB (sc : Scope) (x : Str) : Bool := match sc.names.lookup x with
  | some .local => true | some .cell => true | some .free => true
  | _ => false
def locB (sc : Scope) (x : Str) : Bool := match sc.names.lookup x with
  | some .local => true | some .cell => true
  | _ => false
def glB (sc : Scope) (x : Str) : Bool := match sc.names.lookup x with
  | some .globalImplicit => true
  | _ => false
def isE {α : Type} [DecidableEq α] (o : Option α) (x : α) : Bool := decide (o = some x)
def nmOk (x : Str) : Bool := decide ((x == ("__debug__" : Str)) = false) && decide ((x == ("__classdict__" : Str)) = false)
def chkName (c : Ct) (i : Nat) (x : Str) : Bool := isE c.N[i]? x && visB c.sc x && nmOk x
def stName (c : Ct) (i : Nat) (x : Str) : Bool := isE c.N[i]? x && c.sv x
def chkTns (c : Ct) : List Nat → List Expr → Bool
  | [], [] => true
  | i :: is, .Name x _ :: es => stName c i x && chkTns c is es
  | _, _ => false
def chkTn (c : Ct) : Tn → Expr → Bool
  | .one i, .Name x _ => stName c i x
  | .tup is, .Tuple es _ _ => chkTns c is es
  | _, _ => false
def tnSlots : Tn → List Nat
  | .one i => [i]
  | .tup is => is
def blkCt (c : Ct) (scope : Scope) : Ct := ⟨c.N, L2.relS scope c.sc, fun x => locB scope x⟩
def ownOf (c : Ct) (own : List Nat) : List (Str × Nat) := own.map fun i => (c.N.getD i ⟨#[]⟩, i)
/-- keyword names: of the parameters ks of a def -/
def chkKw (ps : List Str) : List Nat → List Keyword → Bool
  | [], [] => true
  | k :: ks, ⟨some n, _, _⟩ :: r => isE ps[k]? n && chkKw ps ks r
  | _, _ => false
def kwVals : List Keyword → List Expr
  | [] => []
  | ⟨_, v, _⟩ :: r => v :: kwVals r

/-- keys that are texts written out -/
def keysB : List Str → List (Option Expr) → Bool
  | [], [] => true
  | k :: ks, some (.Constant (.str k') _ _) :: r => decide (k = k') && keysB ks r
  | _, _ => false
def repShape (n : Nat) : Expr → Bool
  | .BinOp (.List _ _) .Mult (.Constant (.int k) _ _) _ => decide (k = (n : Int)) && decide (n ≤ 1000)
  | _ => false
def repItems : Expr → List Expr
  | .BinOp (.List xs _) _ _ _ => xs
  | _ => []
def gen2 : Expr → Option (Expr × Comprehension × Comprehension × Scope)
  | .ListComp el [g, g1] scope _ => some (el, g, g1, scope)
  | _ => none
def dictShape (ks : List Str) : Expr → Bool
  | .Dict keys vals _ => keysB ks keys && decide (ks ≠ []) && decide (ks.length ≤ 15) && decide ks.Nodup && decide (keys.length = vals.length)
  | _ => false
def dictVals : Expr → List Expr
  | .Dict _ vals _ => vals
  | _ => []
/-- the arguments of an iterable -/
def itArgs : Ik → Expr → List Expr
  | .val, a => [a]
  | _, .Call _ xs _ _ => xs
  | _, _ => []
def itName : Ik → Str
  | .r1 => "range" | .r2 => "range" | .enum => "enumerate" | .zip => "zip" | .val => ""
def isTupE : Expr → Bool
  | .Tuple .. => true
  | _ => false
/-- its outward shape -/
def itShape (ik : Ik) (iter t : Expr) (sc : Scope) (bts : List Str) : Bool := match ik, iter with
  | .val, _ => true
  | .r1, .Call (.Name x _) [_] [] _ => decide (x = "range") && glB sc x && bts.contains x
  | .r2, .Call (.Name x _) [_, _] [] _ => decide (x = "range") && glB sc x && bts.contains x
  | .enum, .Call (.Name x _) [_] [] _ => decide (x = "enumerate") && glB sc x && bts.contains x && isTupE t
  | .zip, .Call (.Name x _) [_, _] [] _ => decide (x = "zip") && glB sc x && bts.contains x && isTupE t
  | _, _ => false
section
variable (G : Gm)
def chkF (c : Ct) (f : Nat) (x : Str) : Bool := (match G.fns[f]? with
  | some F => decide (F.name = x)
  | none => false) && glB c.sc x && nmOk x && decide (x ≠ "super")
mutual
def chkE : Ct → E → Expr → Bool
  | _, .con k, .Constant k' _ _ => decide (k = k')
  | c, .var i, .Name x _ => chkName c i x
  | c, .glob g, .Name x _ => isE (G.consts[g]?.map (·.1)) x && glB c.sc x && nmOk x
  | c, .bin op a b, .BinOp l o r _ => decide (o = op) && chkE c a l && chkE c b r
  | c, .neg a, .UnaryOp .USub x _ => chkE c a x
  | c, .not_ a, .UnaryOp .Not x _ => chkE c a x
  | c, .cmp op a b, .Compare l [o] [r] _ => decide (o = op) && chkE c a l && chkE c b r
  | c, .chain op op2 a b d, .Compare l [o, o2] [r, r2] _ => decide (o = op) && decide (o2 = op2) && chkE c a l && chkE c b r && chkE c d r2
  | c, .and_ a b, .BoolOp .And [x, y] _ => chkE c a x && chkE c b y
  | c, .and_ a b, .BoolOp .And (x :: y :: z :: r) pos => chkE c a x && chkE c b (.BoolOp .And (y :: z :: r) pos)
  | c, .or_ a b, .BoolOp .Or [x, y] _ => chkE c a x && chkE c b y
  | c, .or_ a b, .BoolOp .Or (x :: y :: z :: r) pos => chkE c a x && chkE c b (.BoolOp .Or (y :: z :: r) pos)
  | c, .ite t a b, .IfExp t' a' b' _ => chkE c t t' && chkE c a a' && chkE c b b'
  | c, .tup es, .Tuple xs _ _ => chkEs c es xs
  | c, .lst _ es, .List xs _ => chkEs c es xs
  | c, .slice a lo hi, .Subscript x (.Slice l h none _) _ => chkE c a x && chkEs c lo l.toList && chkEs c hi h.toList
  | c, .ix a b, .Subscript x y _ => chkE c a x && chkE c b y
  | c, .call f es, .Call (.Name x _) xs [] _ => chkF G c f x && chkEs c es xs
  | c, .callK f ks js es, .Call (.Name x _) [] kws _ => chkF G c f x && (match G.fns[f]? with
    | some F => chkKw F.ps ks kws && F.kss.contains (ks, js) && decide (js.length = F.ps.length)
    | none => false) && chkEs c es (kwVals kws)
  | c, .isty t e, .Call (.Name x _) [a, .Name y _] [] _ => decide (x = "isinstance") && glB c.sc x && G.bts.contains x && chkE c e a && decide (y = Str.ofString t.name) && glB c.sc y && G.bts.contains y
  | c, .bcall b es, .Call (.Name x _) xs [] _ => decide (x = bfName b) && decide (xs ≠ []) && glB c.sc x && G.bts.contains x && chkEs c es xs
  | c, .meth0 m o, .Call (.Attribute x n apos) [] [] cpos => decide (n = m0Name m) && (apos.endLine == cpos.line) && chkE c o x
  | c, .meth1 m o a, .Call (.Attribute x n apos) [y] [] cpos => decide (n = m1Name m) && (apos.endLine == cpos.line) && chkE c o x && chkE c a y
  | c, .comp _ elt tg ik its ifs own, .ListComp el [⟨t, iter, fs, k⟩] scope _ => decide (k = 0) && L2.blkC c.N c.sc scope (ownOf c own) && chkTn (blkCt c scope) tg t && chkE (blkCt c scope) elt el && chkEs (blkCt c scope) ifs fs && decide (fs.length ≤ 1) && (tnSlots tg).all (own.contains ·) &&
      itShape ik iter t c.sc G.bts && chkEs c its (itArgs ik iter)
  | c, .dict ks es, x => dictShape ks x && chkEs c es (dictVals x)
  | c, .rep es n, x => repShape n x && chkEs c es (repItems x)
  | c, .comp2 _ elt tg ik its ifs tg1 ik1 its1 ifs1 own own1, x => match gen2 x with
    | none => false
    | some (el, g, g1, scope) => decide (g.is_async = 0) && decide (g1.is_async = 0) && L2.blkC c.N c.sc scope (ownOf c own) && chkTn (blkCt c scope) tg g.target && chkTn (blkCt c scope) tg1 g1.target && chkE (blkCt c scope) elt el && chkEs (blkCt c scope) ifs g.ifs && chkEs (blkCt c scope) ifs1 g1.ifs &&
      decide (g.ifs.length ≤ 1) && decide (g1.ifs.length ≤ 1) && (tnSlots tg).all (own.contains ·) && (tnSlots tg1).all (own1.contains ·) && own1.all (own.contains ·) &&
      itShape ik g.iter g.target c.sc G.bts && chkEs c its (itArgs ik g.iter) && itShape ik1 g1.iter g1.target (blkCt c scope).sc G.bts && chkEs (blkCt c scope) its1 (itArgs ik1 g1.iter)
  | _, _, _ => false
def chkEs : Ct → Es → List Expr → Bool
  | _, .nil, [] => true
  | c, .cons e es, x :: xs => chkE c e x && chkEs c es xs
  | _, _, _ => false
end

/-! statements -/
def isLC : Expr → Bool
  | .ListComp .. => true
  | _ => false
/-- names that the machine stores from the right: two or three different locals on one line, the values not all constants -/
def parNames (sc : Scope) (line : Nat) : List Expr → Option (List Str)
  | [] => some []
  | .Name x p :: es => if sc.names.lookup x = some .local ∧ p.line = line then (parNames sc line es).map (x :: ·) else none
  | _ :: _ => none
def chkTg (c : Ct) : Tg → Expr → Bool
  | .name i, .Name x _ => stName c i x
  | .sub o i, .Subscript a b _ => chkE G c o a && chkE G c i b
  | _, _ => false
def chkTgs (c : Ct) : List Tg → List Expr → Bool
  | [], [] => true
  | t :: ts, x :: xs => chkTg G c t x && chkTgs c ts xs
  | _, _ => false
def isNotTup (x : Expr) : Bool := !isTupE x
def chkAsg (c : Ct) (t : Tg) (e : E) (tgs : List Expr) (v : Expr) : Bool := match tgs with
  | [tg] => chkTg G c t tg && chkE G c e v && !isTupE tg
  | _ => false
def chkTup (c : Ct) (ts : List Tg) (e : E) (tgs : List Expr) (v : Expr) : Bool := match tgs with
  | [.Tuple es _ _] => chkTgs G c ts es && chkE G c e v && !isTupE v
  | _ => false
def par2 (c : Ct) (i j : Nat) (es : Es) : List Expr → List Expr → Bool
  | [.Name x px, .Name y py], [a, b] => chkEs G c es [a, b] && isE c.N[i]? x && isE c.N[j]? y && decide (i ≠ j) && decide (c.sc.names.lookup x = some .local) && decide (c.sc.names.lookup y = some .local) &&
      decide (x ≠ y) && decide (px.line = py.line) && !([a, b].all (foldedForSure 8)) && !([a, b].all (constantsAlone 8))
  | _, _ => false
def chkPar (c : Ct) (is : List Nat) (es : Es) (tgs : List Expr) (v : Expr) : Bool := match is, tgs, v with
  | [i, j], [.Tuple ts _ _], .Tuple vs _ _ => par2 G c i j es ts vs
  | _, _, _ => false
def isGhost : S → Bool
  | .freeze _ => true
  | _ => false
mutual
def chkS : Ct → S → Stmt → Bool
  | _, .pass, .Pass _ => true
  | c, .ret e, .Return (some x) _ => chkE G c e x
  | _, .retN, .Return none _ => true
  | c, .asg t e, .Assign tgs v _ => chkAsg G c t e tgs v
  | c, .tup ts e, .Assign tgs v _ => chkTup G c ts e tgs v
  | c, .par is es, .Assign tgs v _ => chkPar G c is es tgs v
  | c, .aug i op e, .AugAssign (.Name x _) o v _ => decide (o = op) && stName c i x && chkE G c e v
  | c, .ex e, .Expr v _ => chkE G c e v && !isLC v
  | c, .ifs t a b, .If t' a' b' _ => chkE G c t t' && chkSs c a a' && chkSs c b b'
  | c, .for_ t ik its body, .For tg iter b [] _ => chkTn c t tg && itShape ik iter tg c.sc G.bts && chkEs G c its (itArgs ik iter) && chkSs c body b
  | c, .whil t body, .While t' b [] _ => chkE G c t t' && chkSs c body b
  | _, .brk, .Break _ => true
  | _, .cnt, .Continue _ => true
  | _, .never, _ => true
  | _, _, _ => false
def chkSs : Ct → Ss → List Stmt → Bool
  | _, .nil, [] => true
  | c, .cons s ss, xs => if isGhost s then chkSs c ss xs else match xs with
    | x :: r => chkS c s x && chkSs c ss r
    | [] => false
  | _, _, _ => false
end
end
end Ev
end

section
set_option maxRecDepth 10000
set_option autoImplicit false
/-! EvB: what stands for what: data and things of the store beside the hand layer's values and heaps; the weakest wishes. -/
namespace Ev
open PySem PySem.Spec PyProof.Rows L2

section
variable {K : PySem.W.Frag}

/-! ### data beside values -/
def keyD : Key → D
  | .inl i => .int i
  | .inr s => .str s
mutual
inductive Rep (K : PySem.W.Frag) (P : Hp) : V → D → Prop
  | non : Rep K P .non .none
  | bl (b : Bool) : Rep K P (.bl b) (.bool b)
  | int (i : Int) : Rep K P (.int i) (.int i)
  | str (x : Str) : Rep K P (.str x) (.str x)
  | lst {a : Addr} {xs : List V} {ds : List D} : SqL K P a xs → RepAll K P xs ds → Rep K P (.ref a) (.list ds)
  | tup {a : Addr} {xs : List V} {ds : List D} : SqT K P a xs → RepAll K P xs ds → Rep K P (.ref a) (.tuple ds)
  | dct {a : Addr} {kvs : List (Key × V)} {ds : List (D × D)} : Rd P a (.dK kvs) → RepKv K P kvs ds → Rep K P (.ref a) (.dict ds)
inductive RepAll (K : PySem.W.Frag) (P : Hp) : List V → List D → Prop
  | nil : RepAll K P [] []
  | cons {v : V} {vs : List V} {d : D} {ds : List D} : Rep K P v d → RepAll K P vs ds → RepAll K P (v :: vs) (d :: ds)
inductive RepKv (K : PySem.W.Frag) (P : Hp) : List (Key × V) → List (D × D) → Prop
  | nil : RepKv K P [] []
  | cons {k : Key} {v : V} {vs : List (Key × V)} {d : D} {ds : List (D × D)} : Rep K P v d → RepKv K P vs ds → RepKv K P ((k, v) :: vs) ((keyD k, d) :: ds)
end

theorem Same.sqt {H H' : Hp} {a : Addr} {xs : List V} (e : Same H H') (h : SqT K H a xs) : SqT K H' a xs := by
  rcases h with (h | ⟨o, h⟩) | h
  · exact .inl (.inl (e _ _ h))
  · exact .inl (.inr ⟨o, e _ _ h⟩)
  · exact .inr h
theorem Same.sql {H H' : Hp} {a : Addr} {xs : List V} (e : Same H H') (h : SqL K H a xs) : SqL K H' a xs := by
  rcases h with (h | ⟨o, h⟩) | h
  · exact .inl (.inl (e _ _ h))
  · exact .inl (.inr ⟨o, e _ _ h⟩)
  · exact .inr h
theorem Same.rd {H H' : Hp} {a : Addr} {u : HO} (e : Same H H') (h : Rd H a u) : Rd H' a u := by
  rcases h with h | ⟨o, h⟩
  · exact .inl (e _ _ h)
  · exact .inr ⟨o, e _ _ h⟩

mutual
theorem Rep.mono {P P' : Hp} (e : Same P P') : ∀ {v : V} {d : D}, Rep K P v d → Rep K P' v d
  | _, _, .non => .non
  | _, _, .bl b => .bl b
  | _, _, .int i => .int i
  | _, _, .str x => .str x
  | _, _, .lst h r => .lst (Same.sql e h) (RepAll.mono e r)
  | _, _, .tup h r => .tup (Same.sqt e h) (RepAll.mono e r)
  | _, _, .dct h r => .dct (Same.rd e h) (RepKv.mono e r)
theorem RepAll.mono {P P' : Hp} (e : Same P P') : ∀ {vs : List V} {ds : List D}, RepAll K P vs ds → RepAll K P' vs ds
  | _, _, .nil => .nil
  | _, _, .cons h r => .cons (Rep.mono e h) (RepAll.mono e r)
theorem RepKv.mono {P P' : Hp} (e : Same P P') : ∀ {vs : List (Key × V)} {ds : List (D × D)}, RepKv K P vs ds → RepKv K P' vs ds
  | _, _, .nil => .nil
  | _, _, .cons h r => .cons (Rep.mono e h) (RepKv.mono e r)
end
theorem RepAll.length {P : Hp} : ∀ {vs : List V} {ds : List D}, RepAll K P vs ds → vs.length = ds.length
  | _, _, .nil => rfl
  | _, _, .cons _ r => by simp [RepAll.length r]
theorem RepAll.get {P : Hp} : ∀ {vs : List V} {ds : List D} {i : Nat} {d : D}, RepAll K P vs ds → ds[i]? = some d → ∃ v, vs[i]? = some v ∧ Rep K P v d
  | _, _, _, _, .nil, h => by simp at h
  | _, _, 0, _, .cons h r, e => by simp at e; subst e; exact ⟨_, rfl, h⟩
  | _, _, i + 1, _, .cons h r, e => by
    obtain ⟨v, e1, e2⟩ := RepAll.get (i := i) r (by simpa using e)
    exact ⟨v, by simpa using e1, e2⟩
theorem RepAll.get' {P : Hp} : ∀ {vs : List V} {ds : List D} {i : Nat} {v : V}, RepAll K P vs ds → vs[i]? = some v → ∃ d, ds[i]? = some d ∧ Rep K P v d
  | _, _, _, _, .nil, h => by simp at h
  | _, _, 0, _, .cons h r, e => by simp at e; subst e; exact ⟨_, rfl, h⟩
  | _, _, i + 1, _, .cons h r, e => by
    obtain ⟨v, e1, e2⟩ := RepAll.get' (i := i) r (by simpa using e)
    exact ⟨v, by simpa using e1, e2⟩
theorem RepAll.append {P : Hp} : ∀ {vs ws : List V} {ds es : List D}, RepAll K P vs ds → RepAll K P ws es → RepAll K P (vs ++ ws) (ds ++ es)
  | _, _, _, _, .nil, s => s
  | _, _, _, _, .cons h r, s => .cons h (RepAll.append r s)
theorem RepAll.take {P : Hp} : ∀ {vs : List V} {ds : List D} (n : Nat), RepAll K P vs ds → RepAll K P (vs.take n) (ds.take n)
  | _, _, 0, _ => .nil
  | _, _, _ + 1, .nil => .nil
  | _, _, n + 1, .cons h r => .cons h (RepAll.take n r)
theorem RepAll.drop {P : Hp} : ∀ {vs : List V} {ds : List D} (n : Nat), RepAll K P vs ds → RepAll K P (vs.drop n) (ds.drop n)
  | _, _, 0, r => r
  | _, _, _ + 1, .nil => .nil
  | _, _, n + 1, .cons h r => RepAll.drop n r

/-- things at hand -/
inductive RepU (K : PySem.W.Frag) (P : Hp) (α : List Addr) : V → U → Prop
  | d {v : V} {x : D} : Rep K P v x → RepU K P α v (.d x)
  | m {n : Nat} {a : Addr} : α[n]? = some a → RepU K P α (.ref a) (.m n)
theorem RepU.mono {P P' : Hp} {α α' : List Addr} (e : Same P P') (p : α <+: α') {v : V} {u : U} (h : RepU K P α v u) : RepU K P' α' v u := by
  cases h with
  | d r => exact .d (r.mono e)
  | m r =>
    obtain ⟨t, rfl⟩ := p
    refine .m ?_
    rw [List.getElem?_append_left]
    · exact r
    · exact (List.getElem?_eq_some_iff.mp r).1
abbrev RepUs (K : PySem.W.Frag) (P : Hp) (α : List Addr) := Paired (RepU K P α)
theorem pmono {α β : Type} {F F' : α → β → Prop} (h : ∀ a b, F a b → F' a b) : ∀ {l : List α} {l' : List β}, Paired F l l' → Paired F' l l'
  | _, _, .nil => .nil
  | _, _, .cons p r => .cons (h _ _ p) (pmono h r)
theorem RepUs.mono {P P' : Hp} {α α' : List Addr} (e : Same P P') (p : α <+: α') {vs : List V} {us : List U} (h : RepUs K P α vs us) : RepUs K P' α' vs us := pmono (fun _ _ => RepU.mono e p) h
theorem pget {α β : Type} {F : α → β → Prop} : ∀ {l : List α} {l' : List β} {i : Nat} {b : β}, Paired F l l' → l'[i]? = some b → ∃ a, l[i]? = some a ∧ F a b
  | _, _, _, _, .nil, h => by simp at h
  | _, _, 0, _, .cons h r, e => by simp at e; subst e; exact ⟨_, rfl, h⟩
  | _, _, i + 1, _, .cons h r, e => by
    obtain ⟨v, e1, e2⟩ := pget (i := i) r (by simpa using e)
    exact ⟨v, by simpa using e1, e2⟩
theorem pget' {α β : Type} {F : α → β → Prop} : ∀ {l : List α} {l' : List β} {i : Nat} {a : α}, Paired F l l' → l[i]? = some a → ∃ b, l'[i]? = some b ∧ F a b
  | _, _, _, _, .nil, h => by simp at h
  | _, _, 0, _, .cons h r, e => by simp at e; subst e; exact ⟨_, rfl, h⟩
  | _, _, i + 1, _, .cons h r, e => by
    obtain ⟨v, e1, e2⟩ := pget' (i := i) r (by simpa using e)
    exact ⟨v, by simpa using e1, e2⟩
theorem pappend {α β : Type} {F : α → β → Prop} : ∀ {l m : List α} {l' m' : List β}, Paired F l l' → Paired F m m' → Paired F (l ++ m) (l' ++ m')
  | _, _, _, _, .nil, s => s
  | _, _, _, _, .cons h r, s => .cons h (pappend r s)
theorem pset {α β : Type} {F : α → β → Prop} {a : α} {b : β} (h : F a b) : ∀ {l : List α} {l' : List β} (i : Nat), Paired F l l' → Paired F (l.set i a) (l'.set i b)
  | _, _, _, .nil => .nil
  | _, _, 0, .cons _ t => .cons h t
  | _, _, i + 1, .cons q t => .cons q (pset h i t)
theorem pdropLast {α β : Type} {F : α → β → Prop} : ∀ {l : List α} {l' : List β}, Paired F l l' → Paired F l.dropLast l'.dropLast
  | _, _, .nil => .nil
  | _, _, .cons _ .nil => .nil
  | _, _, .cons h (.cons h2 r) => .cons h (pdropLast (.cons h2 r))
theorem RepUs.of_all {P : Hp} {α : List Addr} : ∀ {vs : List V} {ds : List D}, RepAll K P vs ds → RepUs K P α vs (ds.map .d)
  | _, _, .nil => .nil
  | _, _, .cons h r => .cons (.d h) (RepUs.of_all r)
theorem RepUs.toDs {P : Hp} {α : List Addr} : ∀ {vs : List V} {us : List U} {ds : List D}, RepUs K P α vs us → toDs us = some ds → RepAll K P vs ds
  | _, _, _, .nil, e => by simp [Ev.toDs] at e; subst e; exact .nil
  | _, _, _, .cons (.d h) r, e => by
    simp only [Ev.toDs, Option.map_eq_some_iff] at e
    obtain ⟨t, e1, rfl⟩ := e
    exact .cons h (RepUs.toDs r e1)
  | _, _, _, .cons (.m h) r, e => by simp [Ev.toDs] at e
theorem toDs_map : ∀ ds : List D, toDs (ds.map U.d) = some ds
  | [] => rfl
  | d :: ds => by simp [toDs, toDs_map ds]
theorem toDs_some : ∀ {us : List U} {ds : List D}, toDs us = some ds → us = ds.map U.d
  | [], ds, e => by simp [toDs] at e; subst e; rfl
  | .d x :: us, ds, e => by
    simp only [toDs, Option.map_eq_some_iff] at e
    obtain ⟨t, e1, rfl⟩ := e
    rw [toDs_some e1]; rfl
  | .m _ :: us, ds, e => by simp [toDs] at e

/-- the heap H is: what is lasting (P), the things of the store (α, st), the frame that is left alone (Fr), and what does not matter -/
structure Rel (K : PySem.W.Frag) (P : Hp) (α : List Addr) (Fr : Hp) (st : Store) (H : Hp) : Prop where
  sub : Same P H
  fr : Same Fr H
  len : α.length = st.length
  nd : α.Nodup
  cell : ∀ (n : Nat) (a : Addr) (us : List U), α[n]? = some a → st[n]? = some (Cell.lst us) → P a = none ∧ Fr a = none ∧ ∃ vs, H a = some (.lst vs) ∧ RepUs K P α vs us
  dis : ∀ b o, Fr b = some o → P b = none
  gone : ∀ (n : Nat) (a : Addr), α[n]? = some a → st[n]? = some Cell.dead → ∃ o, P a = some o
theorem Rel.there {P : Hp} {α : List Addr} {Fr : Hp} {st : Store} {H : Hp} (r : Rel K P α Fr st H) {a : Addr} (h : a ∈ α) : ∃ o, H a = some o := by
  obtain ⟨n, hn, e⟩ := List.mem_iff_getElem.mp h
  have h1 : α[n]? = some a := by rw [List.getElem?_eq_getElem hn, e]
  have hs : n < st.length := by rw [← r.len]; exact hn
  cases q : st[n] with
  | dead =>
    obtain ⟨o, z⟩ := r.gone n a h1 (by rw [List.getElem?_eq_getElem hs, q])
    exact ⟨o, r.sub _ _ z⟩
  | lst us =>
    obtain ⟨_, _, vs, z, _⟩ := r.cell n a us h1 (by rw [List.getElem?_eq_getElem hs, q])
    exact ⟨_, z⟩
theorem Rel.notin {P : Hp} {α : List Addr} {Fr : Hp} {st : Store} {H : Hp} (r : Rel K P α Fr st H) {p : Addr} (h : H p = none) : p ∉ α := fun z => by
  obtain ⟨o, e⟩ := r.there z
  rw [h] at e; cases e

/-- behind it: more may last, the store may have grown -/
structure Aft (K : PySem.W.Frag) (P : Hp) (α : List Addr) (Fr : Hp) (st' : Store) (H' : Hp) (P' : Hp) (α' : List Addr) : Prop where
  rel : Rel K P' α' Fr st' H'
  same : Same P P'
  pre : α <+: α'
theorem Aft.refl {P : Hp} {α : List Addr} {Fr : Hp} {st : Store} {H : Hp} (r : Rel K P α Fr st H) : Aft K P α Fr st H P α := ⟨r, Same.refl _, List.prefix_rfl⟩
theorem Aft.trans {P P' P2 : Hp} {α α' α2 : List Addr} {Fr : Hp} {st' st2 : Store} {H' H2 : Hp} (a : Aft K P α Fr st' H' P' α') (b : Aft K P' α' Fr st2 H2 P2 α2) : Aft K P α Fr st2 H2 P2 α2 :=
  ⟨b.rel, a.same.trans b.same, a.pre.trans b.pre⟩

structure EnvOk (K : PySem.W.Frag) (P : Hp) (α : List Addr) (σ : L2.St) (ε : Env) : Prop where
  len : σ.length = ε.length
  at_ : ∀ (i : Nat) (u : U), ε[i]? = some (some u) → ∃ v, σ[i]? = some (some v) ∧ RepU K P α v u
theorem EnvOk.mono {P P' : Hp} {α α' : List Addr} (e : Same P P') (p : α <+: α') {σ : L2.St} {ε : Env} (h : EnvOk K P α σ ε) : EnvOk K P' α' σ ε :=
  ⟨h.len, fun i u q => let ⟨v, a, b⟩ := h.at_ i u q; ⟨v, a, b.mono e p⟩⟩
theorem EnvOk.set {P : Hp} {α : List Addr} {σ : L2.St} {ε : Env} (h : EnvOk K P α σ ε) {v : V} {u : U} (r : RepU K P α v u) (i : Nat) : EnvOk K P α (σ.set i (some v)) (setE i u ε) := by
  refine ⟨by simp [setE, h.len], fun j w q => ?_⟩
  unfold setE at q
  by_cases hj : i = j
  · subst hj
    by_cases hi : i < ε.length
    · rw [List.getElem?_set_self hi] at q
      cases q
      exact ⟨v, by rw [List.getElem?_set_self (by rw [h.len]; exact hi)], r⟩
    · rw [List.getElem?_eq_none (by simpa using hi)] at q; cases q
  · rw [List.getElem?_set_ne hj] at q
    obtain ⟨w', a, b⟩ := h.at_ j w q
    exact ⟨w', by rw [List.getElem?_set_ne hj]; exact a, b⟩
theorem EnvOk.unset {P : Hp} {α : List Addr} {σ : L2.St} {ε : Env} (h : EnvOk K P α σ ε) (i : Nat) : EnvOk K P α (σ.set i none) (ε.set i none) := by
  refine ⟨by simp [h.len], fun j w q => ?_⟩
  by_cases hj : i = j
  · subst hj
    by_cases hi : i < ε.length
    · rw [List.getElem?_set_self hi] at q; cases q
    · rw [List.getElem?_eq_none (by simpa using hi)] at q; cases q
  · rw [List.getElem?_set_ne hj] at q
    obtain ⟨w', a, b⟩ := h.at_ j w q
    exact ⟨w', by rw [List.getElem?_set_ne hj]; exact a, b⟩
theorem EnvOk.wipe {P : Hp} {α : List Addr} {σ : L2.St} {ε : Env} (h : EnvOk K P α σ ε) : ∀ vs : List Nat, EnvOk K P α (wipe σ vs) (wipeE ε vs)
  | [] => h
  | v :: vs => (EnvOk.wipe h vs).unset v

/-! ### growing -/
/-- a new object that lasts -/
theorem Rel.new {P : Hp} {α : List Addr} {Fr : Hp} {st : Store} {H : Hp} (r : Rel K P α Fr st H) {p : Addr} (hp : H p = none) (o : HO) : Aft K P α Fr st (upd H p o) (upd P p o) α := by
  have hP : P p = none := r.sub.free hp
  have hF : Fr p = none := r.fr.free hp
  have s1 : Same P (upd P p o) := fun b x e => by
    rw [upd_ne (ne_of_none e hP)]; exact e
  refine ⟨⟨fun b x e => ?_, fun b x e => ?_, r.len, r.nd, fun n a us h1 h2 => ?_, fun b x e => ?_, fun n a h1 h2 => (r.gone n a h1 h2).imp fun x e => s1 _ _ e⟩, s1, List.prefix_rfl⟩
  · by_cases hb : b = p
    · subst hb; rw [upd_same] at e ⊢; exact e
    · rw [upd_ne hb] at e ⊢; exact r.sub b x e
  · rw [upd_ne (ne_of_none e hF)]; exact r.fr b x e
  · obtain ⟨c1, c2, vs, c3, c4⟩ := r.cell n a us h1 h2
    have na : a ≠ p := ne_of_none c3 hp
    exact ⟨by rw [upd_ne na]; exact c1, c2, vs, by rw [upd_ne na]; exact c3, c4.mono s1 List.prefix_rfl⟩
  · rw [upd_ne (ne_of_none e hF)]; exact r.dis b x e
/-- a new thing of the store -/
theorem Rel.alloc {P : Hp} {α : List Addr} {Fr : Hp} {st : Store} {H : Hp} (r : Rel K P α Fr st H) {p : Addr} (hp : H p = none) {vs : List V} {us : List U} (h : RepUs K P α vs us) :
    Aft K P α Fr (st ++ [.lst us]) (upd H p (.lst vs)) P (α ++ [p]) := by
  have hP : P p = none := r.sub.free hp
  have hF : Fr p = none := r.fr.free hp
  have hα := r.notin hp
  have pre : α <+: α ++ [p] := List.prefix_append _ _
  refine ⟨⟨fun b x e => ?_, fun b x e => ?_, by simp [r.len], ?_, fun n a us' h1 h2 => ?_, r.dis, fun n a h1 h2 => ?_⟩, Same.refl _, pre⟩
  · rw [upd_ne (ne_of_none e hP)]; exact r.sub b x e
  · rw [upd_ne (ne_of_none e hF)]; exact r.fr b x e
  · rw [List.nodup_append]
    refine ⟨r.nd, by simp, fun a ha b hb => ?_⟩
    have e : b = p := by simpa using hb
    rintro rfl
    exact hα (e ▸ ha)
  · by_cases hn : n < α.length
    · rw [List.getElem?_append_left hn] at h1
      rw [List.getElem?_append_left (by rw [← r.len]; exact hn)] at h2
      obtain ⟨c1, c2, ws, c3, c4⟩ := r.cell n a us' h1 h2
      exact ⟨c1, c2, ws, by rw [upd_ne (ne_of_none c3 hp)]; exact c3, c4.mono (Same.refl _) pre⟩
    · have hn' : n = α.length := by
        have := (List.getElem?_eq_some_iff.mp h1).1
        rw [List.length_append, List.length_singleton] at this
        omega
      subst hn'
      rw [List.getElem?_append_right (Nat.le_refl _), Nat.sub_self] at h1
      rw [r.len, List.getElem?_append_right (Nat.le_refl _), Nat.sub_self] at h2
      have e1 : p = a := by simpa using h1
      have e2 : us = us' := by simpa using h2
      subst e1 e2
      exact ⟨hP, hF, vs, upd_same, h.mono (Same.refl _) pre⟩
  · by_cases hn : n < α.length
    · rw [List.getElem?_append_left hn] at h1
      rw [List.getElem?_append_left (by rw [← r.len]; exact hn)] at h2
      exact r.gone n a h1 h2
    · rw [List.getElem?_append_right (by rw [← r.len]; omega)] at h2
      rcases Nat.eq_zero_or_pos (n - st.length) with z | z
      · rw [z] at h2; cases h2
      · rw [List.getElem?_eq_none (by rw [List.length_singleton]; exact z)] at h2; cases h2
/-- a thing of the store is changed -/
theorem Rel.put {P : Hp} {α : List Addr} {Fr : Hp} {st : Store} {H : Hp} (r : Rel K P α Fr st H) {n : Nat} {a : Addr} {us : List U} (h1 : α[n]? = some a) (h2 : st[n]? = some (.lst us)) {ws : List V} {us' : List U} (h : RepUs K P α ws us') :
    Aft K P α Fr (st.set n (.lst us')) (upd H a (.lst ws)) P α := by
  obtain ⟨c1, c2, vs, c3, c4⟩ := r.cell n a us h1 h2
  have hst : n < st.length := (List.getElem?_eq_some_iff.mp h2).1
  refine ⟨⟨fun b x e => ?_, fun b x e => ?_, by simp [r.len], r.nd, fun m b us2 q1 q2 => ?_, r.dis, fun m b q1 q2 => ?_⟩, Same.refl _, List.prefix_rfl⟩
  · rw [upd_ne (ne_of_none e c1)]; exact r.sub b x e
  · rw [upd_ne (ne_of_none e c2)]; exact r.fr b x e
  · by_cases hm : n = m
    · subst hm
      rw [h1] at q1; cases q1
      rw [List.getElem?_set_self hst] at q2
      cases q2
      exact ⟨c1, c2, ws, upd_same, h⟩
    · rw [List.getElem?_set_ne hm] at q2
      obtain ⟨d1, d2, vs2, d3, d4⟩ := r.cell m b us2 q1 q2
      have nb : b ≠ a := by
        rintro rfl
        exact hm (nd_ix r.nd h1 q1)
      exact ⟨d1, d2, vs2, by rw [upd_ne nb]; exact d3, d4⟩
  · by_cases hm : n = m
    · subst hm
      rw [List.getElem?_set_self hst] at q2
      cases q2
    · rw [List.getElem?_set_ne hm] at q2
      exact r.gone m b q1 q2
/-- a thing of the store becomes data -/
theorem Rel.freeze {P : Hp} {α : List Addr} {Fr : Hp} {st : Store} {H : Hp} (r : Rel K P α Fr st H) {n : Nat} {a : Addr} {us : List U} {ds : List D} (h1 : α[n]? = some a) (h2 : st[n]? = some (.lst us)) (h3 : toDs us = some ds) :
    ∃ vs, H a = some (.lst vs) ∧ Aft K P α Fr (st.set n .dead) H (upd P a (.lst vs)) α ∧ Rep K (upd P a (.lst vs)) (.ref a) (.list ds) := by
  obtain ⟨c1, c2, vs, c3, c4⟩ := r.cell n a us h1 h2
  have hst : n < st.length := (List.getElem?_eq_some_iff.mp h2).1
  have s1 : Same P (upd P a (.lst vs)) := fun b x e => by
    rw [upd_ne (ne_of_none e c1)]; exact e
  refine ⟨vs, c3, ⟨⟨fun b x e => ?_, r.fr, by simp [r.len], r.nd, fun m b us2 q1 q2 => ?_, fun b x e => ?_, fun m b q1 q2 => ?_⟩, s1, List.prefix_rfl⟩, .lst (.inl (.inl upd_same)) ((c4.toDs h3).mono s1)⟩
  · by_cases hb : b = a
    · subst hb; rw [upd_same] at e; rw [c3]; exact e
    · rw [upd_ne hb] at e; exact r.sub b x e
  · by_cases hm : n = m
    · subst hm
      rw [List.getElem?_set_self hst] at q2
      cases q2
    · rw [List.getElem?_set_ne hm] at q2
      obtain ⟨d1, d2, vs2, d3, d4⟩ := r.cell m b us2 q1 q2
      have nb : b ≠ a := by
        rintro rfl
        exact hm (nd_ix r.nd h1 q1)
      exact ⟨by rw [upd_ne nb]; exact d1, d2, vs2, d3, d4.mono s1 List.prefix_rfl⟩
  · rw [upd_ne (ne_of_none e c2)]; exact r.dis b x e
  · by_cases hm : n = m
    · subst hm
      rw [h1] at q1; cases q1
      exact ⟨_, upd_same⟩
    · rw [List.getElem?_set_ne hm] at q2
      exact (r.gone m b q1 q2).imp fun x e => s1 _ _ e
end
end Ev
end

section
set_option maxRecDepth 10000
set_option autoImplicit false
/-! EvC: the weakest wishes of the hand layer's judgements; what is fixed of a context; what a result must meet. -/
namespace Ev
open PySem PySem.Spec PyProof.Rows L2

/-! ### the weakest wishes -/
section
variable (X : Cx)
def WE (e : Expr) (σ : L2.St) (H : Hp) (Q : VK) : Prop := ∀ (pins : List (Addr × Obj)) (s : Shared), Inv X pins σ H s → wpAny (model X.prog X.w) X.A (eval e X.env) (EP X pins σ Q) X.xe s
def WT (e : Expr) (σ : L2.St) (H : Hp) (Q : Bool → Hp → Prop) : Prop := ∀ (pins : List (Addr × Obj)) (s : Shared), Inv X pins σ H s → wpAny (model X.prog X.w) X.A (isTrue e X.env (eval e X.env)) (TP X pins σ Q) X.xe s
def WW (e : Expr) (σ : L2.St) (H : Hp) (Q : Bool → Hp → Prop) : Prop := ∀ (whole : Sem Value) (pins : List (Addr × Obj)) (s : Shared), Inv X pins σ H s → wpAny (model X.prog X.w) X.A (isTrue e X.env whole) (TP X pins σ Q) X.xe s
def WA (es : List Expr) (σ : L2.St) (H : Hp) (Q : List V → Hp → Prop) : Prop := ∀ (pos : Pos) (pins : List (Addr × Obj)) (s : Shared), Inv X pins σ H s → wpAny (model X.prog X.w) X.A (spliced (backTo pos (starEach es X.env))) (AP X pins σ Q) X.xe s
def WK (kws : List Keyword) (σ : L2.St) (H : Hp) (Q : List V → Hp → Prop) : Prop := ∀ (pos : Pos) (pins : List (Addr × Obj)) (s : Shared), Inv X pins σ H s → wpAny (model X.prog X.w) X.A (evalAll ((backToKw pos (keywordEach kws X.env)).map (·.2))) (AP X pins σ Q) X.xe s
def WS (st : Stmt) (D : Ends) (σ : L2.St) (H : Hp) : Prop := ∀ (pins : List (Addr × Obj)) (s : Shared), Inv X pins σ H s → wpAny (model X.prog X.w) X.A (exec st X.env) (SP X pins D) X.xe s
def WSs (st : List Stmt) (D : Ends) (σ : L2.St) (H : Hp) : Prop := ∀ (pins : List (Addr × Obj)) (s : Shared), Inv X pins σ H s → wpAny (model X.prog X.w) X.A (execs st X.env) (SP X pins D) X.xe s
def WG (tg : Expr) (v : V) (σ : L2.St) (H : Hp) (Q : L2.St → Hp → Prop) : Prop := ∀ (pins : List (Addr × Obj)) (s : Shared) (u : Value), Inv X pins σ H s → RelV v u →
    wpAny (model X.prog X.w) X.A (assign tg X.env u) (fun _ s' => ∃ σ' H', Inv X pins σ' H' s' ∧ Q σ' H') X.xe s
def WGs (ts : List Expr) (vs : List V) (σ : L2.St) (H : Hp) (Q : L2.St → Hp → Prop) : Prop := ∀ (pins : List (Addr × Obj)) (s : Shared) (us : List Value), Inv X pins σ H s → Vals vs us →
    wpAny (model X.prog X.w) X.A (assignInOrder ((assignEach ts X.env).map (·.2)) us) (fun _ s' => ∃ σ' H', Inv X pins σ' H' s' ∧ Q σ' H') X.xe s
def WI (tg iter : Expr) (σ : L2.St) (H : Hp) (Rr : It → Hp → Prop) : Prop := ∀ (pins : List (Addr × Obj)) (s : Shared), Inv X pins σ H s →
    wpAny (model X.prog X.w) X.A (eval iter X.env) (fun v s1 => wpAny (model X.prog X.w) X.A (pyIter v) (PIE X pins σ tg Rr) X.xe s1) X.xe s
def WTs (ifs : List Expr) (σ : L2.St) (H : Hp) (Q : Bool → Hp → Prop) : Prop := ∃ t, PTs X ifs t ∧ t σ H Q
end
section
variable {X : Cx}
theorem pe_W {e : Expr} : PE X e (WE X e) := ⟨fun pins s _ _ _ I h => h pins s I⟩
theorem pt_W {e : Expr} : PT X e (WT X e) := ⟨fun pins s _ _ _ I h => h pins s I⟩
theorem pw_W {e : Expr} : PW X e (WW X e) := ⟨fun wh pins s _ _ _ I h => h wh pins s I⟩
theorem pa_W {es : List Expr} : PA X es (WA X es) := ⟨fun pos pins s _ _ _ I h => h pos pins s I⟩
theorem pk_W {es : List Keyword} : PK X es (WK X es) := ⟨fun pos pins s _ _ _ I h => h pos pins s I⟩
theorem ps_W {st : Stmt} : PS X st (WS X st) := ⟨fun pins s _ _ _ I h => h pins s I⟩
theorem pss_W {st : List Stmt} : PSs X st (WSs X st) := ⟨fun pins s _ _ _ I h => h pins s I⟩
theorem pg_W {tg : Expr} : PG X tg (WG X tg) := ⟨fun pins s _ _ _ u _ I r h => h pins s u I r⟩
theorem pgs_W {ts : List Expr} : PGs X ts (WGs X ts) := ⟨fun pins s _ _ _ us _ I r h => h pins s us I r⟩
theorem pi_W {tg iter : Expr} : PI X tg iter (WI X tg iter) := ⟨fun pins s _ _ _ I h => h pins s I⟩
theorem WE.of {e : Expr} {t : TE} {σ : L2.St} {H : Hp} {Q : VK} (h : PE X e t) (q : t σ H Q) : WE X e σ H Q := fun pins s I => h.run pins s σ H Q I q
theorem WT.of {e : Expr} {t : TT} {σ : L2.St} {H : Hp} {Q : Bool → Hp → Prop} (h : PT X e t) (q : t σ H Q) : WT X e σ H Q := fun pins s I => h.run pins s σ H Q I q
theorem WW.of {e : Expr} {t : TT} {σ : L2.St} {H : Hp} {Q : Bool → Hp → Prop} (h : PW X e t) (q : t σ H Q) : WW X e σ H Q := fun wh pins s I => h.run wh pins s σ H Q I q
theorem WA.of {e : List Expr} {t : TA} {σ : L2.St} {H : Hp} {Q : List V → Hp → Prop} (h : PA X e t) (q : t σ H Q) : WA X e σ H Q := fun pos pins s I => h.run pos pins s σ H Q I q
theorem WK.of {e : List Keyword} {t : TA} {σ : L2.St} {H : Hp} {Q : List V → Hp → Prop} (h : PK X e t) (q : t σ H Q) : WK X e σ H Q := fun pos pins s I => h.run pos pins s σ H Q I q
theorem WS.of {st : Stmt} {t : TS} {σ : L2.St} {H : Hp} {D : Ends} (h : PS X st t) (q : t D σ H) : WS X st D σ H := fun pins s I => h.run pins s σ H D I q
theorem WSs.of {st : List Stmt} {t : TS} {σ : L2.St} {H : Hp} {D : Ends} (h : PSs X st t) (q : t D σ H) : WSs X st D σ H := fun pins s I => h.run pins s σ H D I q
theorem WG.of {tg : Expr} {t : TG} {v : V} {σ : L2.St} {H : Hp} {Q : L2.St → Hp → Prop} (h : PG X tg t) (q : t v σ H Q) : WG X tg v σ H Q := fun pins s u I r => h.run pins s σ H v u Q I r q
theorem WGs.of {ts : List Expr} {t : TGs} {vs : List V} {σ : L2.St} {H : Hp} {Q : L2.St → Hp → Prop} (h : PGs X ts t) (q : t vs σ H Q) : WGs X ts vs σ H Q := fun pins s us I r => h.run pins s σ H vs us Q I r q
theorem WI.of {tg iter : Expr} {t : TI} {σ : L2.St} {H : Hp} {Rr : It → Hp → Prop} (h : PI X tg iter t) (q : t σ H Rr) : WI X tg iter σ H Rr := fun pins s I => h.run pins s σ H Rr I q
end

/-! ### what a result must meet -/
section
variable {K : PySem.W.Frag} (G : Gm) (cl : Nat → Value)
/-- an exception of the program's own, beside its class and value -/
def XR (K : PySem.W.Frag) (P : Hp) (c : Nat) (x : D) (d : Option Addr) : Prop := match G.excs[c]? with
  | some (_, some f) => ∃ dx v, d = some dx ∧ P dx = some (.xd [(f, v)]) ∧ Rep K P v x
  | some (_, none) => True
  | none => False
variable (K) in
def FitR {β γ : Type} (P : Hp) (α : List Addr) (Fr : Hp) (Wx : Value → Option Addr → Hp → Prop) (rep : Hp → List Addr → β → γ → Prop) (r : R γ) (Q : β → Hp → Prop) : Prop := match r with
  | .ok u st' => ∀ v H' P' α', Aft K P α Fr st' H' P' α' → rep P' α' v u → Q v H'
  | .exc c x st' => ∀ H' P' α' d, Aft K P α Fr st' H' P' α' → XR G K P' c x d → Wx (cl c) d H'
  | .stuck => False
variable {G} {cl}
theorem FitR.weak {β γ : Type} {P P1 : Hp} {α α1 : List Addr} {Fr : Hp} {st1 : Store} {H1 : Hp} {Wx : Value → Option Addr → Hp → Prop} {rep : Hp → List Addr → β → γ → Prop} {r : R γ} {Q : β → Hp → Prop}
    (h : FitR K G cl P α Fr Wx rep r Q) (a : Aft K P α Fr st1 H1 P1 α1) : FitR K G cl P1 α1 Fr Wx rep r Q := by
  cases r with
  | ok u st' => exact fun v H' P' α' b q => h v H' P' α' (a.trans b) q
  | exc c x st' => exact fun H' P' α' d b q => h H' P' α' d (a.trans b) q
  | stuck => exact h
theorem FitR.bind {β γ β' γ' : Type} {P : Hp} {α : List Addr} {Fr : Hp} {Wx : Value → Option Addr → Hp → Prop} {repA : Hp → List Addr → β → γ → Prop} {rep : Hp → List Addr → β' → γ' → Prop} {r : R γ} {f : γ → Store → R γ'} {Q : β' → Hp → Prop} {Qa : β → Hp → Prop}
    (h : FitR K G cl P α Fr Wx rep (r.bind f) Q)
    (k : ∀ u st1 v H1 P1 α1, r = .ok u st1 → Aft K P α Fr st1 H1 P1 α1 → repA P1 α1 v u → FitR K G cl P1 α1 Fr Wx rep (f u st1) Q → Qa v H1) : FitR K G cl P α Fr Wx repA r Qa := by
  cases r with
  | ok u st' => exact fun v H' P' α' b q => k u st' v H' P' α' rfl b q (FitR.weak h b)
  | exc c x st' => exact fun H' P' α' d b q => h H' P' α' d b q
  | stuck => exact h
theorem FitR.imp {β γ : Type} {P : Hp} {α : List Addr} {Fr : Hp} {Wx : Value → Option Addr → Hp → Prop} {rep : Hp → List Addr → β → γ → Prop} {r : R γ} {Q Q' : β → Hp → Prop}
    (h : FitR K G cl P α Fr Wx rep r Q) (k : ∀ v H, Q v H → Q' v H) : FitR K G cl P α Fr Wx rep r Q' := by
  cases r with
  | ok u st' => exact fun v H' P' α' b q => k _ _ (h v H' P' α' b q)
  | exc c x st' => exact h
  | stuck => exact h
end

/-! ### what is fixed of a context -/
/-- what a def promises: the run of its syntax -/
def spec (K : PySem.W.Frag) (G : Gm) (cl : Nat → Value) (k f : Nat) (ps : List Str) : Sp := fun vs H Q E => vs.length = ps.length ∧ ∃ (W : Nat) (P : Hp) (α : List Addr) (Fr : Hp) (st : Store) (us : List U),
  Rel K P α Fr st H ∧ RepUs K P α vs us ∧ FitR K G cl P α Fr E (RepU K) (callRaw G W k f us st) Q
/-- a def at f keeps a promise, wherever it is called with so much room and nothing being shown around it -/
structure FnG (P : Program) (w : World) (K : PySem.W.Frag) (mg : Str → Option Value) (base : Heap) (k : Nat) (f : Addr) (fd : FuncData) (ps : List Str) (sp : Sp) : Prop where
  len : ∀ vs H Q E, sp vs H Q E → vs.length = ps.length
  run : ∀ (A : Around) (outer : List PySem.Env) (s : Shared) (H : Hp) (args : Args) (us : List Value) (vs : List V) (Q : VK) (E : XK), Room k A → A.guards = some [] → Env0 P w K mg base A outer s H →
    BindsTo s fd args (ps.zip us) → Vals vs us → sp vs H Q E → codeAny (model P w) A (.call (.ref f) args) (CR (CX P w) outer P w H s Q E) s
structure FnIn (P : Program) (w : World) (K : PySem.W.Frag) (mg : Str → Option Value) (base : Heap) (G : Gm) (cl : Nat → Value) (k f : Nat) (F : Fn) : Prop where
  ex : ∃ (a : Addr) (fd : FuncData), mg F.name = some (.ref a) ∧ PySem.W.keepIn K (.ref a) = true ∧ FnG P w K mg base k a fd F.ps (spec K G cl k f F.ps) ∧
    (∀ j, j ≤ F.dfl.length → ∃ (ds : List Value) (vs : List V), Binds K fd F.ps ds ∧ Vals vs ds ∧ RepAll K (fun _ => none) vs (F.dfl.drop (F.dfl.length - j))) ∧
    ∀ p ∈ F.kss, ∀ (s : Shared) (ws vs : List Value), K.In s.heap → ws.length = p.1.length → pick ws p.2 = some vs → BindsTo s fd ⟨[], (p.1.filterMap (F.ps[·]?)).zip ws⟩ (F.ps.zip vs)
structure Sta (G : Gm) (cl : Nat → Value) (k : Nat) (X : Cx) (c : Ct) : Prop where
  hN : X.N = c.N
  nd : c.N.Nodup
  sc : X.env.scope = c.sc
  kind : c.sc.kind = .function
  calm : X.calm = true
  room : Room k X.A
  guards : X.A.guards = some []
  sv : ∀ x, c.sv x = true → Loc c.sc x ∧ (X.fn x = true ∨ c.sc.names.lookup x = some .local)
  fn : ∀ f F, G.fns[f]? = some F → FnIn X.prog X.w X.K X.mg X.base G cl k f F
  con : ∀ (g : Nat) p, G.consts[g]? = some p → ∃ u v, X.mg p.1 = some u ∧ RelV v u ∧ Rep X.K (fun _ => none) v p.2
  bt : ∀ x ∈ G.bts, X.mg x = none

theorem same_none (P : Hp) : Same (fun _ => none) P := fun _ _ e => nomatch e

section
variable {G : Gm} {cl : Nat → Value} {k : Nat} {X : Cx} {c : Ct}
theorem vis_of {sc : Scope} {x : Str} (h : visB sc x = true) : Vis sc x := by
  unfold visB at h
  split at h
  · exact .inl (by assumption)
  · exact .inr (.inl (by assumption))
  · exact .inr (.inr (by assumption))
  · cases h
theorem loc_of {sc : Scope} {x : Str} (h : locB sc x = true) : Loc sc x := by
  unfold locB at h
  split at h
  · exact .inl (by assumption)
  · exact .inr (by assumption)
  · cases h
theorem gl_of {sc : Scope} {x : Str} (h : glB sc x = true) : sc.names.lookup x = some .globalImplicit := by
  unfold glB at h
  split at h
  · assumption
  · cases h
theorem isE_of {α : Type} [DecidableEq α] {o : Option α} {x : α} (h : isE o x = true) : o = some x := of_decide_eq_true h
theorem nm_of {x : Str} (h : nmOk x = true) : (x == ("__debug__" : Str)) = false ∧ (x == ("__classdict__" : Str)) = false := by
  unfold nmOk at h
  rw [Bool.and_eq_true] at h
  exact ⟨of_decide_eq_true h.1, of_decide_eq_true h.2⟩
theorem Sta.hu (S : Sta G cl k X c) : X.A.units + 80 < cLine := by have := S.room.un; omega
theorem Sta.gl (S : Sta G cl k X c) {x : Str} (h : glB c.sc x = true) : Gl X x := by
  show X.env.scope.names.lookup x = _
  rw [S.sc]; exact gl_of h

/-! ### a name, a constant -/
theorem we_var (S : Sta G cl k X c) {i : Nat} {x : Str} {pos : Pos} (h : chkName c i x = true) {P : Hp} {α : List Addr} {σ : L2.St} {ε : Env} (ev : EnvOk X.K P α σ ε) {u : U} (e : ε[i]? = some (some u)) {H : Hp} {Q : VK} (q : ∀ v, RepU X.K P α v u → Q v H) : WE X (.Name x pos) σ H Q := by
  simp only [chkName, Bool.and_eq_true] at h
  obtain ⟨⟨h1, h2⟩, h3⟩ := h
  obtain ⟨v, e1, r⟩ := ev.at_ i u e
  exact WE.of (pe_var (i := i) (by rw [S.hN]; exact isE_of h1) (by rw [S.sc]; exact vis_of h2) (nm_of h3).1 (nm_of h3).2) ⟨v, e1, q v r⟩
theorem we_con {kc : Const} {j : Nat} {pos : Pos} {d : D} (h : conD kc = some d) {σ : L2.St} {H : Hp} {Q : VK} (q : ∀ v, (∀ P, Rep X.K P v d) → Q v H) : WE X (.Constant kc j pos) σ H Q := by
  cases kc with
  | none => cases h; exact WE.of pe_non (q _ fun _ => .non)
  | bool b => cases h; exact WE.of pe_bl (q _ fun _ => .bl b)
  | int i => cases h; exact WE.of pe_int (q _ fun _ => .int i)
  | str x => cases h; exact WE.of pe_str (q _ fun _ => .str x)
  | _ => cases h
theorem we_glob (S : Sta G cl k X c) {g : Nat} {p : Str × D} {pos : Pos} (hg : glB c.sc p.1 = true) (hn : nmOk p.1 = true) (e : G.consts[g]? = some p) {σ : L2.St} {H : Hp} {Q : VK} (q : ∀ v, (∀ P, Rep X.K P v p.2) → Q v H) : WE X (.Name p.1 pos) σ H Q := by
  obtain ⟨u, v, h1, h2, h3⟩ := S.con g p e
  exact WE.of (pe_glob (S.gl hg) h1 h2 (nm_of hn).1) (q v fun P => h3.mono (same_none P))
end
end Ev
end

section
set_option maxRecDepth 10000
set_option autoImplicit false
/-! EvD: operators, comparisons, subscripts and built-in functions by values. -/
namespace Ev
open PySem PySem.Spec PyProof.Rows L2

section
variable {X : Cx}
/-- xs + ys of lists that may be read alone -/
def rCatL (K : PySem.W.Frag) : R2 := fun x y H Q => ∃ l b xs zs, x = .ref l ∧ y = .ref b ∧ SqL K H l xs ∧ SqL K H b zs ∧ xs.length + zs.length ≤ sizeLine ∧ ∀ p, H p = none → Q (.ref p) (upd H p (.lst (xs ++ zs)))
theorem op_catL : OpR X (binaryOp .Add) (rCatL X.K) := by
  intro pins s σ H x y v u Q I rx ry h
  obtain ⟨l, b, xs, zs, rfl, rfl, hH, hB, hz, q⟩ := h
  cases rx
  cases ry
  obtain ⟨its, r, ⟨o1, n1, e1, c1, d1, s1⟩, z1⟩ := I.list hH
  obtain ⟨its2, r2, ⟨o2, n2, e2, c2, d2, s2⟩, z2⟩ := I.list hB
  have hl := r.length
  have hl2 := r2.length
  obtain ⟨cls1, dict1, data1, slots1⟩ := o1
  obtain ⟨cls2, dict2, data2, slots2⟩ := o2
  simp only at c1 d1 s1 c2 d2 s2
  subst c1 d1 s1 c2 d2 s2
  have e : its.toArray ++ its2.toArray = (its ++ its2).toArray := by simp
  refine concat_meets ⟨_, e1, rfl⟩ ⟨_, e2, rfl⟩ noFill_list_add seq_list_add PySem.F.slot_list_add PySem.F.entry_list_add (PySem.F.args_list_add_2 _ _) (list_addW l b its.toArray its2.toArray n1 n2 none none slots1 slots2 (by simp only [List.size_toArray]; omega)) ⟨e1, e2, ?_⟩
  rw [e]
  exact ⟨.ref _, _, I.lnew (t' := s.toks) (r.append r2) (by rw [List.length_append]; omega), rfl, q _ I.fresh⟩
end
theorem sizeMax_eq : sizeMax = sizeLine := by rw [sizeLine_eq]; rfl
theorem cmul_of {i j : Int} (h : cmulOk i j = true) : CMul i j := by
  unfold cmulOk at h
  simp only [Bool.or_eq_true, Bool.and_eq_true, decide_eq_true_eq] at h
  exact h
theorem sq_up {H : Hp} {p : Addr} (hp : H p = none) {o : HO} : Same H (upd H p o) := fun b x e => by
  rw [upd_ne (ne_of_none e hp)]; exact e

section
variable {K : PySem.W.Frag} {P : Hp}
mutual
theorem Rep.dp : ∀ {v : V} {d : D}, PyData.hasDict d = false → Rep K P v d → Dp K P v d
  | _, _, _, .non => .non
  | _, _, _, .bl b => .bl b
  | _, _, _, .int i => .int i
  | _, _, _, .str x => .str x
  | _, _, h, .lst hs r => .lst hs (RepAll.dp (by simpa [PyData.hasDict] using h) r)
  | _, _, h, .tup hs r => .tup hs (RepAll.dp (by simpa [PyData.hasDict] using h) r)
  | _, _, h, .dct _ _ => by simp [PyData.hasDict] at h
theorem RepAll.dp : ∀ {vs : List V} {ds : List D}, PyData.hasDictAll ds = false → RepAll K P vs ds → DpAll K P vs ds
  | _, _, _, .nil => .nil
  | _, _, h, .cons r rs => by
    have h' := by simpa [PyData.hasDictAll] using h
    exact .cons (Rep.dp h'.1 r) (RepAll.dp h'.2 rs)
end
theorem flat_of {v : V} {d : D} (h : flatD d = true) (r : Rep K P v d) : flatV v = true := by
  cases r <;> first | rfl | cases h
theorem flats_of : ∀ {vs : List V} {ds : List D}, ds.all flatD = true → RepAll K P vs ds → vs.all flatV = true
  | _, _, _, .nil => rfl
  | _, _, h, .cons r rs => by
    rw [List.all_cons, Bool.and_eq_true] at h ⊢
    exact ⟨flat_of h.1 r, flats_of h.2 rs⟩
theorem eqV_of {v w : V} {d e : D} (hd : flatD d = true) (he : flatD e = true) (r : Rep K P v d) (q : Rep K P w e) : eqV v w = PyData.eqv d e := by
  cases r <;> cases q <;> first | rfl | (simp [flatD] at hd he; done) | (simp [eqV, PyData.eqv]; done) | skip
theorem memV_of {v : V} {d : D} (hd : flatD d = true) (r : Rep K P v d) : ∀ {vs : List V} {ds : List D}, ds.all flatD = true → RepAll K P vs ds → inV v vs = memD d ds
  | _, _, _, .nil => rfl
  | _, _, h, .cons r' rs => by
    rw [List.all_cons, Bool.and_eq_true] at h
    unfold inV memD
    rw [List.any_cons, List.any_cons, eqV_of h.1 hd r' r]
    have ih := memV_of hd r h.2 rs
    unfold inV memD at ih
    rw [ih]
theorem Rep.non_iff {v : V} {d : D} (r : Rep K P v d) : decide (v = .non) = isNoneD d := by
  cases r <;> first | rfl | exact decide_eq_false (fun z => nomatch z)
theorem scal_of {v w : V} {d e : D} (h : scalD d e = true) (r : Rep K P v d) (q : Rep K P w e) : scal v w = true ∧ decide (v = w) = PyData.eqv d e := by
  cases r <;> cases q <;> first | (simp [scalD] at h; done) | exact ⟨rfl, by simp [PyData.eqv, Bool.beq_eq_decide_eq]⟩
end

section
variable {X : Cx} {P : Hp} {α : List Addr} {Fr : Hp} {st : Store} {H : Hp}
/-- wishes of a value made without a change of the store -/
abbrev Gives (K : PySem.W.Frag) (P : Hp) (α : List Addr) (Fr : Hp) (st : Store) (z : D) (Q : VK) : Prop := ∀ v H' P' α', Aft K P α Fr st H' P' α' → RepU K P' α' v (.d z) → Q v H'
theorem gives_new (r : Rel X.K P α Fr st H) {z : D} {Q : VK} (q : Gives X.K P α Fr st z Q) {o : HO} (h : ∀ p, Same P (upd P p o) → Rep X.K (upd P p o) (.ref p) z) (p : Addr) (hp : H p = none) : Q (.ref p) (upd H p o) :=
  q _ _ _ _ (r.new hp o) (.d (h p (sq_up (r.sub.free hp))))
theorem gives_now (r : Rel X.K P α Fr st H) {z : D} {v : V} {Q : VK} (q : Gives X.K P α Fr st z Q) (h : Rep X.K P v z) : Q v H := q _ _ _ _ (Aft.refl r) (.d h)
theorem rep_lst {K : PySem.W.Frag} {p : Addr} {vs : List V} {ds : List D} (s : Same P (upd P p (.lst vs))) (r : RepAll K P vs ds) : Rep K (upd P p (.lst vs)) (.ref p) (.list ds) := .lst (.inl (.inl upd_same)) (r.mono s)
theorem rep_tup {K : PySem.W.Frag} {p : Addr} {vs : List V} {ds : List D} (s : Same P (upd P p (.tup vs))) (r : RepAll K P vs ds) : Rep K (upd P p (.tup vs)) (.ref p) (.tuple ds) := .tup (.inl (.inl upd_same)) (r.mono s)

theorem bin_sound (r : Rel X.K P α Fr st H) {op : Operator} {x y z : D} {vx vy : V} (hx : Rep X.K P vx x) (hy : Rep X.K P vy y) (e : binD op x y = some z) {Q : VK} (q : Gives X.K P α Fr st z Q) : ∃ rr, OpR X (binaryOp op) rr ∧ rr vx vy H Q := by
  unfold binD at e
  split at e
  · cases hx; cases hy; cases e
    exact ⟨_, op_add, _, _, rfl, rfl, gives_now r q (.int _)⟩
  · cases hx; cases hy; cases e
    exact ⟨_, op_sub, _, _, rfl, rfl, gives_now r q (.int _)⟩
  · cases hx; cases hy
    split at e
    · rename_i h
      cases e
      exact ⟨_, op_mul, _, _, rfl, rfl, cmul_of h, gives_now r q (.int _)⟩
    · cases e
  · cases hx; cases hy
    split at e
    · rename_i h
      cases e
      exact ⟨_, op_fdivN, _, _, rfl, rfl, h, gives_now r q (.int _)⟩
    · cases e
  · cases hx; cases hy
    split at e
    · rename_i h
      cases e
      exact ⟨_, op_modN, _, _, rfl, rfl, h, gives_now r q (.int _)⟩
    · cases e
  · cases hx; cases hy
    split at e
    · rename_i h
      cases e
      exact ⟨_, op_pow, _, _, rfl, rfl, h, gives_now r q (.int _)⟩
    · cases e
  · cases hx; cases hy
    split at e
    · rename_i h
      cases e
      exact ⟨_, op_add_str, _, _, rfl, rfl, by rw [← sizeMax_eq]; exact h, gives_now r q (.str _)⟩
    · cases e
  · cases hx with | lst hl ra =>
    cases hy with | lst hl2 ra2 =>
    split at e
    · rename_i h
      cases e
      exact ⟨_, op_catL, _, _, _, _, rfl, rfl, Same.sql r.sub hl, Same.sql r.sub hl2, by rw [ra.length, ra2.length, ← sizeMax_eq]; exact h, fun p hp => gives_new r q (fun p s => rep_lst s (ra.append ra2)) p hp⟩
    · cases e
  · cases hx with | @tup a1 vs1 _ hl ra =>
    cases hy with | @tup a2 vs2 _ hl2 ra2 =>
    split at e
    · rename_i h
      cases e
      refine ⟨_, op_catA, _, _, _, _, rfl, rfl, Same.sqt r.sub hl, Same.sqt r.sub hl2, by rw [ra.length, ra2.length, ← sizeMax_eq]; exact h, fun z => gives_now r q ?_, fun _ z => gives_now r q ?_, fun _ _ p hp => gives_new r q (fun p s => rep_tup s (ra.append ra2)) p hp⟩
      · subst z
        cases ra
        exact .tup hl2 ra2
      · subst z
        cases ra2
        rw [List.append_nil]
        exact .tup hl ra
    · cases e
  · cases e

theorem eq_sound (r : Rel X.K P α Fr st H) (hu : X.A.units + 64 < cLine) {x y : D} {b : Bool} {vx vy : V} (hx : Rep X.K P vx x) (hy : Rep X.K P vy y) (e : eqD x y = some b) {Q : VK} (q : Q (.bl b) H) : ∃ rr, OpR X (compareOp .Eq) rr ∧ rr vx vy H Q := by
  unfold eqD at e
  split at e
  · rename_i h
    cases e
    unfold eqOk at h
    rw [Bool.or_eq_true, Bool.and_eq_true] at h
    rcases h with h | ⟨h1, h2⟩
    · obtain ⟨a1, a2⟩ := scal_of h hx hy
      exact ⟨_, op_eq, a1, by rw [a2]; exact q⟩
    · exact ⟨_, op_eqD hu, _, _, (hx.mono r.sub).dp (PyData.hasDict_of_canLay _ (SeqAt.canLay_of_shaped h1)), (hy.mono r.sub).dp (PyData.hasDict_of_canLay _ (SeqAt.canLay_of_shaped h2)), h1, h2, q⟩
  · cases e
theorem ne_sound (r : Rel X.K P α Fr st H) (hu : X.A.units + 64 < cLine) {x y : D} {b : Bool} {vx vy : V} (hx : Rep X.K P vx x) (hy : Rep X.K P vy y) (e : eqD x y = some b) {Q : VK} (q : Q (.bl (!b)) H) : ∃ rr, OpR X (compareOp .NotEq) rr ∧ rr vx vy H Q := by
  unfold eqD at e
  split at e
  · rename_i h
    cases e
    unfold eqOk at h
    rw [Bool.or_eq_true, Bool.and_eq_true] at h
    rcases h with h | ⟨h1, h2⟩
    · obtain ⟨a1, a2⟩ := scal_of h hx hy
      exact ⟨_, op_ne, a1, by rw [a2]; exact q⟩
    · exact ⟨_, op_neD hu, _, _, (hx.mono r.sub).dp (PyData.hasDict_of_canLay _ (SeqAt.canLay_of_shaped h1)), (hy.mono r.sub).dp (PyData.hasDict_of_canLay _ (SeqAt.canLay_of_shaped h2)), h1, h2, q⟩
  · cases e
theorem in_sound (r : Rel X.K P α Fr st H) {x y : D} {b : Bool} {vx vy : V} (hx : Rep X.K P vx x) (hy : Rep X.K P vy y) (e : inD x y = some b) {Q : VK} (q : Q (.bl b) H) : ∃ rr, OpR X (compareOp .In) rr ∧ rr vx vy H Q := by
  unfold inD at e
  split at e
  · cases hx; cases hy; cases e
    exact ⟨_, op_in_str, _, _, rfl, rfl, q⟩
  · cases hy with | lst hl ra =>
    split at e
    · rename_i h
      rw [Bool.and_eq_true] at h
      cases e
      exact ⟨_, op_in_seq, _, _, rfl, .inl (Same.sql r.sub hl), flat_of h.1 hx, flats_of h.2 ra, by rw [if_neg (by decide), memV_of h.1 hx h.2 ra]; exact q⟩
    · cases e
  · cases hy with | tup hl ra =>
    split at e
    · rename_i h
      rw [Bool.and_eq_true] at h
      cases e
      exact ⟨_, op_in_seq, _, _, rfl, .inr (Same.sqt r.sub hl), flat_of h.1 hx, flats_of h.2 ra, by rw [if_neg (by decide), memV_of h.1 hx h.2 ra]; exact q⟩
    · cases e
  · cases e
theorem notin_sound (r : Rel X.K P α Fr st H) {x y : D} {b : Bool} {vx vy : V} (hx : Rep X.K P vx x) (hy : Rep X.K P vy y) (e : inD x y = some b) {Q : VK} (q : Q (.bl (!b)) H) : ∃ rr, OpR X (compareOp .NotIn) rr ∧ rr vx vy H Q := by
  unfold inD at e
  split at e
  · cases hx; cases hy; cases e
    exact ⟨_, L2.op_notIn_str, _, _, rfl, rfl, q⟩
  · cases hy with | lst hl ra =>
    split at e
    · rename_i h
      rw [Bool.and_eq_true] at h
      cases e
      exact ⟨_, op_notIn_seq, _, _, rfl, .inl (Same.sql r.sub hl), flat_of h.1 hx, flats_of h.2 ra, by rw [if_pos rfl, memV_of h.1 hx h.2 ra]; exact q⟩
    · cases e
  · cases hy with | tup hl ra =>
    split at e
    · rename_i h
      rw [Bool.and_eq_true] at h
      cases e
      exact ⟨_, op_notIn_seq, _, _, rfl, .inr (Same.sqt r.sub hl), flat_of h.1 hx, flats_of h.2 ra, by rw [if_pos rfl, memV_of h.1 hx h.2 ra]; exact q⟩
    · cases e
  · cases e
theorem cmp_sound (r : Rel X.K P α Fr st H) (hu : X.A.units + 64 < cLine) {op : CmpOp} {x y : D} {b : Bool} {vx vy : V} (hx : Rep X.K P vx x) (hy : Rep X.K P vy y) (e : cmpD op x y = some b) {Q : VK} (q : Q (.bl b) H) : ∃ rr, OpR X (compareOp op) rr ∧ rr vx vy H Q := by
  unfold cmpD at e
  split at e
  · exact eq_sound r hu hx hy e q
  · rw [Option.map_eq_some_iff] at e
    obtain ⟨b', e, rfl⟩ := e
    exact ne_sound r hu hx hy e q
  · cases hx; cases hy; cases e
    exact ⟨_, op_lt, _, _, rfl, rfl, q⟩
  · cases hx; cases hy; cases e
    exact ⟨_, op_le, _, _, rfl, rfl, q⟩
  · cases hx; cases hy; cases e
    exact ⟨_, op_gt, _, _, rfl, rfl, q⟩
  · cases hx; cases hy; cases e
    exact ⟨_, op_ge, _, _, rfl, rfl, q⟩
  · cases hy
    refine ⟨_, op_isN, rfl, ?_⟩
    rw [hx.non_iff]
    cases e
    exact q
  · cases hx; cases hy; cases e
    exact ⟨_, op_isBl, _, _, rfl, rfl, q⟩
  · cases hx; cases hy; cases e
    exact ⟨_, op_notBl, _, _, rfl, rfl, q⟩
  · cases hy
    refine ⟨_, op_notN, rfl, ?_⟩
    rw [hx.non_iff]
    cases e
    exact q
  · exact in_sound r hx hy e q
  · rw [Option.map_eq_some_iff] at e
    obtain ⟨b', e, rfl⟩ := e
    exact notin_sound r hx hy e q
  · cases e
end
end Ev
end

section
set_option maxRecDepth 10000
set_option autoImplicit false
/-! EvE: subscripts, slices, built-in functions, by values. -/
namespace Ev
open PySem PySem.Spec PyProof.Rows L2

theorem atI_map {α β : Type} (f : α → β) (xs : List α) (i : Int) : atI (xs.map f) i = (atI xs i).map f := by
  unfold atI
  rw [List.length_map]
  cases ixN xs.length i with
  | none => rfl
  | some j => simp
theorem atI_rel {α β : Type} {F : α → β → Prop} {xs : List α} {ys : List β} (hl : xs.length = ys.length) (hg : ∀ (j : Nat) y, ys[j]? = some y → ∃ x, xs[j]? = some x ∧ F x y) {i : Int} {y : β} (e : atI ys i = some y) : ∃ x, atI xs i = some x ∧ F x y := by
  unfold atI at e ⊢
  rw [hl]
  cases h : ixN ys.length i with
  | none => rw [h] at e; cases e
  | some j =>
    rw [h] at e
    obtain ⟨x, e1, e2⟩ := hg j y e
    exact ⟨x, by rw [Option.bind_some]; exact e1, e2⟩

section
variable {X : Cx} {P : Hp} {α : List Addr} {Fr : Hp} {st : Store} {H : Hp}
abbrev GivesU (K : PySem.W.Frag) (P : Hp) (α : List Addr) (Fr : Hp) (st : Store) (z : U) (Q : VK) : Prop := ∀ v H' P' α', Aft K P α Fr st H' P' α' → RepU K P' α' v z → Q v H'

theorem strsz {K : PySem.W.Frag} {s : Str} (h : s.length ≤ sizeMax) : s.length ≤ sizeLine := by rw [← sizeMax_eq]; exact h

/-- a dict's value at a key, as a subscript -/
theorem ix_dget {X : Cx} (hu : X.A.units + 1 < cLine) : IxR X (fun x y H Q => ∃ a v, x = .ref a ∧ DGet H a y (some v) ∧ Q v H) := by
  intro value slice pins s σ H x y v u Q I rx ry h hs
  obtain ⟨a, z, rfl, g, q⟩ := h
  obtain rfl : v = Value.ref a := rx
  have got : wpAny (model X.prog X.w) X.A (getItem (.ref a) u) (EP X pins σ Q) X.xe s := d_getItem hu I g ry fun w' s' I' rw' => ⟨z, H, I', rw', q⟩
  have ty := dict_typeIs I g
  unfold subscriptTail
  refine wpAny_bind ?_
  rw [getitemInPython_of_ne ty.not_modules]
  refine wpAny_bind (wpAny_specialOf ty PySem.F.slot_dict_getitem.lookup ?_)
  have last : wpAny (model X.prog X.w) X.A (subscripted slice false (.ref a) u) (fun r s₃ => wpAny (model X.prog X.w) X.A (letTemporaryGo value (.ref a) r >>= fun _ => pure r) (EP X pins σ Q) X.xe s₃) X.xe s := by
    rw [hs]
    exact wpAny_operating (wpAny_mono got (fun r s₃ h₃ => wpAny_bind (wpAny_letTemporaryGo (wpAny_pure h₃))) fun _ _ x => x)
  first
    | exact wpAny_pure (wpAny_bind last)
    | exact wpAny_bind last
    | exact wpAny_pure last
    | exact last
theorem look_val {K : PySem.W.Frag} {P : Hp} {k : Str} : ∀ {kvs : List (Key × V)} {ps : List (D × D)} {d : D}, RepKv K P kvs ps → lookD ps k = some d → ∃ v, valV kvs (.inr k) = some v ∧ Rep K P v d
  | _, _, _, .nil, e => nomatch e
  | _, _, _, .cons (k := k2) (v := v) (d := d2) h r, e => by
    unfold lookD at e
    cases k2 with
    | inl i =>
      obtain ⟨v', e1, e2⟩ := look_val r (show lookD _ k = _ from e)
      exact ⟨v', by unfold valV at e1 ⊢; rw [List.find?_cons_of_neg (by simp)]; exact e1, e2⟩
    | inr s =>
      by_cases hk : s = k
      · subst hk
        rw [if_pos (by simp [keyD, isKey])] at e
        cases e
        exact ⟨v, by unfold valV; rw [List.find?_cons_of_pos (by simp)]; rfl, h⟩
      · rw [if_neg (by simp [keyD, isKey, hk])] at e
        obtain ⟨v', e1, e2⟩ := look_val r e
        exact ⟨v', by unfold valV at e1 ⊢; rw [List.find?_cons_of_neg (by simpa using hk)]; exact e1, e2⟩
theorem ix_sound (hu : X.A.units + 80 < cLine) (r : Rel X.K P α Fr st H) {x y z : U} {vx vy : V} (hx : RepU X.K P α vx x) (hy : RepU X.K P α vy y) (e : ixU x y st = some z) {Q : VK} (q : GivesU X.K P α Fr st z Q) : ∃ rr, IxR X rr ∧ rr vx vy H Q := by
  unfold ixU at e
  split at e
  · cases hx with | d hx =>
    cases hy with | d hy =>
    cases hy
    cases hx with | dct hd ra =>
    rw [Option.map_eq_some_iff] at e
    obtain ⟨d, e, rfl⟩ := e
    obtain ⟨v, e1, e2⟩ := look_val ra e
    exact ⟨_, ix_dget (by omega), _, v, rfl, .inl ⟨_, .inr _, Same.rd r.sub hd, rfl, e1.symm⟩, q _ _ _ _ (Aft.refl r) (.d e2)⟩
  · cases hx with | d hx =>
    cases hy with | d hy =>
    cases hy
    cases hx with | lst hl ra =>
    rw [Option.map_eq_some_iff] at e
    obtain ⟨d, e, rfl⟩ := e
    obtain ⟨v, e1, e2⟩ := atI_rel (F := Rep X.K P) ra.length (fun j y h => ra.get h) e
    exact ⟨_, ix_list, _, _, _, _, rfl, rfl, Same.sql r.sub hl, e1, q _ _ _ _ (Aft.refl r) (.d e2)⟩
  · cases hx with | d hx =>
    cases hy with | d hy =>
    cases hy
    cases hx with | tup hl ra =>
    rw [Option.map_eq_some_iff] at e
    obtain ⟨d, e, rfl⟩ := e
    obtain ⟨v, e1, e2⟩ := atI_rel (F := Rep X.K P) ra.length (fun j y h => ra.get h) e
    exact ⟨_, ix_tup, _, _, _, _, rfl, rfl, Same.sqt r.sub hl, e1, q _ _ _ _ (Aft.refl r) (.d e2)⟩
  · cases hx with | d hx =>
    cases hy with | d hy =>
    cases hy
    cases hx
    split at e
    · rename_i h
      rw [Option.map_eq_some_iff] at e
      obtain ⟨c, e, rfl⟩ := e
      exact ⟨_, ix_str, _, _, _, rfl, rfl, by rw [← sizeMax_eq]; exact h, e, q _ _ _ _ (Aft.refl r) (.d (.str _))⟩
    · cases e
  · cases hx with | m hx =>
    cases hy with | d hy =>
    cases hy
    split at e
    · rename_i xs h
      obtain ⟨_, _, vs, c3, c4⟩ := r.cell _ _ _ hx h
      obtain ⟨v, e1, e2⟩ := atI_rel (F := RepU X.K P α) (Paired.length c4) (fun j y h => pget c4 h) e
      exact ⟨_, ix_list, _, _, _, _, rfl, rfl, .inl (.inl c3), e1, q _ _ _ _ (Aft.refl r) e2⟩
    · cases e
  · cases e

theorem cut_sl {K : PySem.W.Frag} {vs : List V} {ds : List D} (ra : RepAll K P vs ds) (lo hi : Option Int) : RepAll K P (cutV vs lo hi) (sl ds lo hi) := by
  unfold cutV sl
  rw [ra.length]
  exact (ra.drop _).take _
theorem cut_whole {vs : List V} {lo hi : Option Int} (h : HT.sIx vs.length 0 lo = 0 ∧ HT.sIx vs.length vs.length hi = vs.length) : cutV vs lo hi = vs := by
  unfold cutV
  rw [h.1, h.2]
  simp
theorem sl_sound (r : Rel X.K P α Fr st H) {x z : U} {vx : V} (hx : RepU X.K P α vx x) {lo hi : Option Int} (e : slU x lo hi st = some z) {Q : VK} (q : GivesU X.K P α Fr st z Q) : ∃ rr, SlR X rr ∧ rr vx lo hi H Q := by
  unfold slU at e
  split at e
  · cases e
    cases hx with | d hx =>
    cases hx with | lst hl ra =>
    exact ⟨_, sl_list, _, _, rfl, Same.sql r.sub hl, fun p hp => gives_new r q (fun p s => rep_lst s (cut_sl ra lo hi)) p hp⟩
  · cases e
    cases hx with | d hx =>
    cases hx with | tup hl ra =>
    refine ⟨_, sl_tupA, _, _, rfl, Same.sqt r.sub hl, fun hw => gives_now r q ?_, fun _ p hp => gives_new r q (fun p s => rep_tup s (cut_sl ra lo hi)) p hp⟩
    have := cut_sl ra lo hi
    rw [cut_whole hw] at this
    exact .tup hl this
  · rename_i xs
    cases hx with | m hx =>
    split at e
    · rename_i us h
      rw [Option.map_eq_some_iff] at e
      obtain ⟨ds, e, rfl⟩ := e
      obtain ⟨_, _, vs, c3, c4⟩ := r.cell _ _ _ hx h
      exact ⟨_, sl_list, _, _, rfl, .inl (.inl c3), fun p hp => gives_new r q (fun p s => rep_lst s (cut_sl (c4.toDs e) lo hi)) p hp⟩
    · cases e
  · cases e

/-! ### built-in functions -/
theorem ints_of : ∀ {vs : List V} {ds : List D} {ns : List Int}, RepAll X.K P vs ds → toInts ds = some ns → vs = ns.map V.int
  | _, _, _, .nil, e => by simp [toInts] at e; subst e; rfl
  | _, _, _, .cons (.int i) r, e => by
    simp only [toInts, Option.map_eq_some_iff] at e
    obtain ⟨t, e, rfl⟩ := e
    rw [ints_of r e]; rfl
  | _, _, _, .cons .non r, e => by simp [toInts] at e
  | _, _, _, .cons (.bl _) r, e => by simp [toInts] at e
  | _, _, _, .cons (.str _) r, e => by simp [toInts] at e
  | _, _, _, .cons (.lst _ _) r, e => by simp [toInts] at e
  | _, _, _, .cons (.tup _ _) r, e => by simp [toInts] at e
  | _, _, _, .cons (.dct _ _) r, e => by simp [toInts] at e
theorem bools_of : ∀ {vs : List V} {ds : List D} {ns : List Bool}, RepAll X.K P vs ds → toBools ds = some ns → vs = ns.map V.bl
  | _, _, _, .nil, e => by simp [toBools] at e; subst e; rfl
  | _, _, _, .cons (.bl i) r, e => by
    simp only [toBools, Option.map_eq_some_iff] at e
    obtain ⟨t, e, rfl⟩ := e
    rw [bools_of r e]; rfl
  | _, _, _, .cons .non r, e => by simp [toBools] at e
  | _, _, _, .cons (.int _) r, e => by simp [toBools] at e
  | _, _, _, .cons (.str _) r, e => by simp [toBools] at e
  | _, _, _, .cons (.lst _ _) r, e => by simp [toBools] at e
  | _, _, _, .cons (.tup _ _) r, e => by simp [toBools] at e
  | _, _, _, .cons (.dct _ _) r, e => by simp [toBools] at e

/-- repr of data -/
theorem call_reprD (hg : X.A.guards = some []) (hu : X.A.units + 80 < cLine) : CallR X (.builtin "repr") (fun xs H Q => ∃ x d, xs = [x] ∧ Dp X.K H x d ∧ reprOk d = true ∧ Q (.str (PyData.shown d)) H) := by
  intro pins s σ H xs us Q I r h
  obtain ⟨x, d, rfl, hd, ok, q⟩ := h
  obtain ⟨u, rfl, rx⟩ := vals1 r
  unfold reprOk at ok
  simp only [Bool.and_eq_true, decide_eq_true_eq, Bool.not_eq_true'] at ok
  obtain ⟨⟨⟨h1, h2⟩, h3⟩, h4⟩ := ok
  rw [sizeMax_eq] at h4
  obtain ⟨as, rd⟩ := Dp.reads I d x u hd rx
  cases hd with
  | non =>
    cases rx
    exact PySem.P.repr_of_none ⟨.str _, H, I.tok _, ⟨_, rfl⟩, q⟩
  | bl b =>
    cases rx
    exact PySem.P.repr_of_bool ⟨.str _, H, I.tok _, ⟨_, by cases b <;> rfl⟩, q⟩
  | int i =>
    obtain ⟨t, rfl⟩ := rx
    exact PySem.P.repr_of_int (by simpa [PyData.showable] using h1) ⟨.str _, H, I.tok _, ⟨_, rfl⟩, q⟩
  | str y =>
    obtain ⟨t, rfl⟩ := rx
    exact PySem.P.repr_of_str ⟨.str _, H, I.tok _, ⟨_, rfl⟩, q⟩ (by
      have : (reprText y).length + 64 ≤ sizeLine := h4
      omega)
  | lst hs ha =>
    cases rx
    exact repr_of_reads' rd h1 (PyData.noDict_hsm h2) hg (by omega) (fun _ _ e => e) (fun h' u tk hk => ⟨.str _, H, I.kept hk, ⟨_, rfl⟩, q⟩) (by omega)
  | tup hs ha =>
    cases rx
    exact repr_of_reads' rd h1 (PyData.noDict_hsm h2) hg (by omega) (fun _ _ e => e) (fun h' u tk hk => ⟨.str _, H, I.kept hk, ⟨_, rfl⟩, q⟩) (by omega)

/-- what a builtin's name stands for -/
def bfVal : Bf → Value
  | .len => .builtin "len" | .int => .type "int" | .abs => .builtin "abs" | .repr => .builtin "repr" | .divmod => .builtin "divmod" | .tuple => .type "tuple" | .list _ => .type "list" | .sum => .builtin "sum" | .any => .builtin "any" | .all => .builtin "all"
  | .max2 => .builtin "max" | .min2 => .builtin "min"
theorem repus1 {K : PySem.W.Frag} {P : Hp} {α : List Addr} {vs : List V} {u : U} (h : RepUs K P α vs [u]) : ∃ v, vs = [v] ∧ RepU K P α v u := by
  cases h with | cons a b =>
  cases b
  exact ⟨_, rfl, a⟩
theorem repus2 {K : PySem.W.Frag} {P : Hp} {α : List Addr} {vs : List V} {u w : U} (h : RepUs K P α vs [u, w]) : ∃ v x, vs = [v, x] ∧ RepU K P α v u ∧ RepU K P α x w := by
  cases h with | cons a b =>
  cases b with | cons b c =>
  cases c
  exact ⟨_, _, rfl, a, b⟩
theorem repd {K : PySem.W.Frag} {P : Hp} {α : List Addr} {v : V} {x : D} (h : RepU K P α v (.d x)) : Rep K P v x := by
  cases h; assumption
theorem repus_d {K : PySem.W.Frag} {P : Hp} {α : List Addr} {v : V} {d : D} (h : Rep K P v d) : RepU K P α v (.d d) := .d h

variable {G : Gm} {cl : Nat → Value} {Wx : Value → Option Addr → Hp → Prop}
theorem bf_sound (hc : X.calm = true) (hg : X.A.guards = some []) (hu : X.A.units + 80 < cLine) (r : Rel X.K P α Fr st H) {b : Bf} {us : List U} {vs : List V} (hs : RepUs X.K P α vs us) {Q : VK}
    (q : FitR X.K G cl P α Fr Wx (RepU X.K) (bfD b us st) Q) : ∃ rr, CallR X (bfVal b) rr ∧ rr vs H Q := by
  unfold bfD at q
  split at q
  · obtain ⟨v, rfl, h⟩ := repus1 hs
    cases repd h with | lst hl ra =>
    exact ⟨_, call_len_seq, _, _, rfl, .inl (Same.sql r.sub hl), q _ _ _ _ (Aft.refl r) (.d (by rw [ra.length]; exact .int _))⟩
  · obtain ⟨v, rfl, h⟩ := repus1 hs
    cases repd h with | tup hl ra =>
    exact ⟨_, call_len_seq, _, _, rfl, .inr (Same.sqt r.sub hl), q _ _ _ _ (Aft.refl r) (.d (by rw [ra.length]; exact .int _))⟩
  · obtain ⟨v, rfl, h⟩ := repus1 hs
    cases repd h
    split at q
    · rename_i hz
      exact ⟨_, call_len_str, _, rfl, by rw [← sizeMax_eq]; exact hz, q _ _ _ _ (Aft.refl r) (.d (.int _))⟩
    · exact q.elim
  · obtain ⟨v, rfl, h⟩ := repus1 hs
    cases h with | m hx =>
    split at q
    · rename_i xs h
      obtain ⟨_, _, vs, c3, c4⟩ := r.cell _ _ _ hx h
      exact ⟨_, call_len_seq, _, _, rfl, .inl (.inl (.inl c3)), q _ _ _ _ (Aft.refl r) (.d (by rw [Paired.length c4]; exact .int _))⟩
    · exact q.elim
  · obtain ⟨v, rfl, h⟩ := repus1 hs
    cases repd h
    exact ⟨_, call_int1, .inl ⟨_, rfl, q _ _ _ _ (Aft.refl r) (.d (.int _))⟩⟩
  · obtain ⟨v, rfl, h⟩ := repus1 hs
    cases repd h
    exact ⟨_, call_int1, .inr ⟨_, rfl, q _ _ _ _ (Aft.refl r) (.d (.int _))⟩⟩
  · obtain ⟨v, rfl, h⟩ := repus1 hs
    cases repd h
    exact ⟨_, call_abs, _, rfl, q _ _ _ _ (Aft.refl r) (.d (.int _))⟩
  · rename_i x
    obtain ⟨v, rfl, h⟩ := repus1 hs
    split at q
    · rename_i ok
      have nd : PyData.hasDict x = false := by
        have ok' := ok
        unfold reprOk at ok'
        simp only [Bool.and_eq_true, Bool.not_eq_true'] at ok'
        exact ok'.1.1.2
      exact ⟨_, call_reprD hg hu, _, _, rfl, ((repd h).mono r.sub).dp nd, ok, q _ _ _ _ (Aft.refl r) (.d (.str _))⟩
    · exact q.elim
  · obtain ⟨v, x, rfl, h, h2⟩ := repus2 hs
    cases repd h
    cases repd h2
    split at q
    · rename_i hz
      exact ⟨_, call_divmod, _, _, rfl, hz, fun p hp => q _ _ _ _ (r.new hp _) (.d (rep_tup (sq_up (r.sub.free hp)) (.cons (.int _) (.cons (.int _) .nil))))⟩
    · exact q.elim
  · obtain ⟨v, rfl, h⟩ := repus1 hs
    cases repd h with | lst hl ra =>
    exact ⟨_, call_tuple_of, _, _, rfl, .inl ⟨Same.sql r.sub hl, fun p hp => q _ _ _ _ (r.new hp _) (.d (rep_tup (sq_up (r.sub.free hp)) ra))⟩⟩
  · obtain ⟨v, rfl, h⟩ := repus1 hs
    cases repd h with | tup hl ra =>
    exact ⟨_, call_tuple_of, _, _, rfl, .inr ⟨Same.sqt r.sub hl, q _ _ _ _ (Aft.refl r) (.d (.tup hl ra))⟩⟩
  · obtain ⟨v, rfl, h⟩ := repus1 hs
    cases h with | m hx =>
    split at q
    · rename_i xs h
      obtain ⟨_, _, vs, c3, c4⟩ := r.cell _ _ _ hx h
      split at q
      · rename_i ds hd
        exact ⟨_, call_tuple_of, _, _, rfl, .inl ⟨.inl (.inl c3), fun p hp => q _ _ _ _ (r.new hp _) (.d (rep_tup (sq_up (r.sub.free hp)) (c4.toDs hd)))⟩⟩
      · exact q.elim
    · exact q.elim
  · obtain ⟨v, rfl, h⟩ := repus1 hs
    cases repd h with | lst hl ra =>
    refine ⟨_, call_list_of, _, _, rfl, .inl (Same.sql r.sub hl), fun p hp => ?_⟩
    split at q
    · exact q _ _ _ _ (r.alloc hp (RepUs.of_all ra)) (.m (by rw [← r.len, List.getElem?_append_right (Nat.le_refl _), Nat.sub_self]; rfl))
    · exact q _ _ _ _ (r.new hp _) (.d (rep_lst (sq_up (r.sub.free hp)) ra))
  · obtain ⟨v, rfl, h⟩ := repus1 hs
    cases repd h with | tup hl ra =>
    refine ⟨_, call_list_of, _, _, rfl, .inr (Same.sqt r.sub hl), fun p hp => ?_⟩
    split at q
    · exact q _ _ _ _ (r.alloc hp (RepUs.of_all ra)) (.m (by rw [← r.len, List.getElem?_append_right (Nat.le_refl _), Nat.sub_self]; rfl))
    · exact q _ _ _ _ (r.new hp _) (.d (rep_lst (sq_up (r.sub.free hp)) ra))
  · obtain ⟨v, rfl, h⟩ := repus1 hs
    cases repd h with | lst hl ra =>
    split at q
    · rename_i ns hn
      have e := ints_of ra hn
      subst e
      exact ⟨_, cr_sum hc, _, _, rfl, Same.sql r.sub hl, q _ _ _ _ (Aft.refl r) (.d (.int _))⟩
    · exact q.elim
  · obtain ⟨v, rfl, h⟩ := repus1 hs
    cases repd h with | lst hl ra =>
    split at q
    · rename_i ns hn
      have e := bools_of ra hn
      subst e
      exact ⟨_, cr_any hc, _, _, rfl, Same.sql r.sub hl, q _ _ _ _ (Aft.refl r) (.d (.bl _))⟩
    · exact q.elim
  · obtain ⟨v, rfl, h⟩ := repus1 hs
    cases repd h with | lst hl ra =>
    split at q
    · rename_i ns hn
      have e := bools_of ra hn
      subst e
      exact ⟨_, cr_all hc, _, _, rfl, Same.sql r.sub hl, q _ _ _ _ (Aft.refl r) (.d (.bl _))⟩
    · exact q.elim
  · obtain ⟨v, x, rfl, h, h2⟩ := repus2 hs
    cases repd h
    cases repd h2
    exact ⟨_, call_max2 hc, _, _, rfl, q _ _ _ _ (Aft.refl r) (.d (.int _))⟩
  · obtain ⟨v, x, rfl, h, h2⟩ := repus2 hs
    cases repd h
    cases repd h2
    exact ⟨_, call_min2 hc, _, _, rfl, q _ _ _ _ (Aft.refl r) (.d (.int _))⟩
  · exact q.elim
/-- isinstance(x, a built-in type) -/
theorem ty_of {v : V} {x : D} (r : Rel X.K P α Fr st H) (h : Rep X.K P v x) : ∃ t : String, TyX X.K H v (.type t) ∧ t = tyName x := by
  cases h with
  | non => exact ⟨_, .base .non, rfl⟩
  | bl b => exact ⟨_, .base (.bl b), rfl⟩
  | int i => exact ⟨_, .base (.int i), rfl⟩
  | str s => exact ⟨_, .base (.str s), rfl⟩
  | lst hl ra =>
    rcases Same.sql r.sub hl with (z | ⟨o, z⟩) | ⟨o, its, n, z, c, _⟩
    · exact ⟨_, .base (.lst z), rfl⟩
    · exact ⟨_, .base (.frz z), rfl⟩
    · exact ⟨_, .kList z c, rfl⟩
  | tup hl ra =>
    rcases Same.sqt r.sub hl with (z | ⟨o, z⟩) | ⟨o, its, n, z, c, _⟩
    · exact ⟨_, .base (.tup z), rfl⟩
    · exact ⟨_, .fTuple z, rfl⟩
    · exact ⟨_, .kTuple z c, rfl⟩
  | dct hl ra =>
    rcases Same.rd r.sub hl with z | ⟨o, z⟩
    · exact ⟨_, .base (.dK z), rfl⟩
    · exact ⟨_, .fDict z, rfl⟩
theorem isty_sound (r : Rel X.K P α Fr st H) {t : String} {x : D} {v : V} (h : Rep X.K P v x) {b : Bool} (e : isTy t x = some b) {Q : VK} (q : Q (.bl b) H) : ∃ rr, CallR X (.builtin "isinstance") rr ∧ rr [v, .ty t] H Q := by
  obtain ⟨t', ty, rfl⟩ := ty_of r h
  exact ⟨_, call_isi, v, .ty t, _, .type t, b, rfl, .ty t, ty, kit_ty e, q⟩
end
end Ev
end

section
set_option maxRecDepth 10000
set_option autoImplicit false
/-! EvF: calls of defs. -/
namespace Ev
open PySem PySem.Spec PyProof.Rows L2

section
variable {X : Cx} {k : Nat} {f : Addr} {fd : FuncData} {ps : List Str} {sp : Sp} {Wx : WX}
/-- the callee runs, from a body -/
theorem run_g {pins : List (Addr × Obj)} {σ : L2.St} {H : Hp} {s : Shared} {Q : VK} {pos : List Value} {kw : List (Str × Value)} {us : List Value} {vs : List V} (F : FnG X.prog X.w X.K X.mg X.base k f fd ps sp) (hr : Room k X.A) (hg : X.A.guards = some [])
    (tk : Takes X Wx) (I : Inv X pins σ H s) (hb : BindsTo s fd ⟨pos, kw⟩ (ps.zip us)) (r : Vals vs us) (h : sp vs H Q (fun cls d H' => Wx cls d σ H')) : wpAny (model X.prog X.w) X.A (call (.ref f) pos kw) (EP X pins σ Q) X.xe s := by
  have go := F.run X.A X.stack s H ⟨pos, kw⟩ us vs Q _ hr hg I.env0 hb r h
  refine wpAny_call (codeAny_mono go fun res s' hq => ?_)
  match res, hq with
  | .error e, hq => exact tk e s' (XE.of_call I (fun _ _ _ z => z) hq)
  | .ok (.ret u), hq => exact I.after hq
end

section
variable {K : PySem.W.Frag}
/-- what a pure def must leave alone: the store's things, and what its caller leaves alone -/
def frameOf (P : Hp) (α : List Addr) (Fr H : Hp) : Hp := fun b => if P b = none ∧ b ∈ α then H b else Fr b
theorem Rel.inner {P : Hp} {α : List Addr} {Fr : Hp} {st : Store} {H : Hp} (r : Rel K P α Fr st H) : Rel K P [] (frameOf P α Fr H) [] H := by
  refine ⟨r.sub, fun b o e => ?_, rfl, List.nodup_nil, fun n a us e => by simp at e, fun b o e => ?_, fun n a e => by simp at e⟩
  · unfold frameOf at e
    split at e
    · exact e
    · exact r.fr b o e
  · unfold frameOf at e
    split at e
    · rename_i h; exact h.1
    · exact r.dis b o e
theorem Rel.outer {P : Hp} {α : List Addr} {Fr : Hp} {st : Store} {H : Hp} (r : Rel K P α Fr st H) {st' : Store} {H' P' : Hp} {α' : List Addr} (a : Aft K P [] (frameOf P α Fr H) st' H' P' α') : Aft K P α Fr st H' P' α := by
  have hf : Same Fr (frameOf P α Fr H) := fun b o e => by
    unfold frameOf
    split
    · exact r.fr b o e
    · exact e
  refine ⟨⟨a.rel.sub, hf.trans a.rel.fr, r.len, r.nd, fun n b us h1 h2 => ?_, fun b o e => a.rel.dis b o (hf b o e), fun n b h1 h2 => (r.gone n b h1 h2).imp fun o e => a.same b o e⟩, a.same, List.prefix_rfl⟩
  obtain ⟨c1, c2, vs, c3, c4⟩ := r.cell n b us h1 h2
  have hb : frameOf P α Fr H b = some (.lst vs) := by
    unfold frameOf
    rw [if_pos ⟨c1, List.mem_of_getElem? h1⟩]
    exact c3
  exact ⟨a.rel.dis b _ hb, c2, vs, a.rel.fr b _ hb, c4.mono a.same List.prefix_rfl⟩
theorem RepU.low {P : Hp} {α α' : List Addr} (p : α <+: α') {v : V} {u : U} (h : RepU K P α' v u) (l : lowU α.length u = true) : RepU K P α v u := by
  cases h with
  | d r => exact .d r
  | m r =>
    obtain ⟨t, rfl⟩ := p
    rw [List.getElem?_append_left (of_decide_eq_true l)] at r
    exact .m r
theorem RepUs.low {P : Hp} {α α' : List Addr} (p : α <+: α') : ∀ {vs : List V} {us : List U}, RepUs K P α' vs us → us.all (lowU α.length) = true → RepUs K P α vs us
  | _, _, .nil, _ => .nil
  | _, _, .cons h r, l => by
    rw [List.all_cons, Bool.and_eq_true] at l
    exact .cons (h.low p l.1) (RepUs.low p r l.2)
/-- the store is cut -/
theorem Aft.cut {P : Hp} {α : List Addr} {Fr : Hp} {st' : Store} {H' P' : Hp} {α' : List Addr} (a : Aft K P α Fr st' H' P' α') (l : (st'.take α.length).all (lowC α.length) = true) : Aft K P α Fr (st'.take α.length) H' P' α := by
  have hl : α.length ≤ α'.length := a.pre.length_le
  have nx : ∀ (n : Nat) (b : Addr), α[n]? = some b → α'[n]? = some b ∧ n < α.length := fun n b e => by
    have hn := (List.getElem?_eq_some_iff.mp e).1
    refine ⟨?_, hn⟩
    obtain ⟨t, rfl⟩ := a.pre
    rw [List.getElem?_append_left hn]; exact e
  refine ⟨⟨a.rel.sub, a.rel.fr, by rw [List.length_take, ← a.rel.len]; omega, ?_, fun n b us h1 h2 => ?_, a.rel.dis, fun n b h1 h2 => ?_⟩, a.same, List.prefix_rfl⟩
  · obtain ⟨t, rfl⟩ := a.pre
    exact (List.nodup_append.mp a.rel.nd).1
  · obtain ⟨h3, hn⟩ := nx n b h1
    have hm := List.all_eq_true.mp l _ (List.mem_of_getElem? h2)
    rw [List.getElem?_take_of_lt hn] at h2
    obtain ⟨c1, c2, vs, c3, c4⟩ := a.rel.cell n b us h3 h2
    exact ⟨c1, c2, vs, c3, c4.low a.pre hm⟩
  · obtain ⟨h3, hn⟩ := nx n b h1
    rw [List.getElem?_take_of_lt hn] at h2
    exact a.rel.gone n b h3 h2
theorem Aft.same_len {P : Hp} {α : List Addr} {Fr : Hp} {st' : Store} {H' P' : Hp} {α' : List Addr} (a : Aft K P α Fr st' H' P' α') (l : st'.length = α.length) : α' = α := by
  obtain ⟨t, rfl⟩ := a.pre
  have := a.rel.len
  rw [List.length_append, l] at this
  have : t = [] := List.eq_nil_of_length_eq_zero (by omega)
  rw [this, List.append_nil]
end

theorem fill_full {F : Fn} {us : List U} (h : us.length = F.ps.length) : fill F us = us := by
  unfold fill
  rw [h, Nat.sub_self, Nat.sub_zero, List.drop_length]
  simp
theorem raw_fill (G : Gm) (W k f : Nat) {F : Fn} (e : G.fns[f]? = some F) (us : List U) (st : Store) (h : (fill F us).length = F.ps.length) : callRaw G W k f (fill F us) st = callRaw G W k f us st := by
  cases k with
  | zero => rfl
  | succ k =>
    unfold callRaw
    rw [e]
    simp only [fill_full h]
theorem raw_len {G : Gm} {W k f : Nat} {F : Fn} (e : G.fns[f]? = some F) {us : List U} {st : Store} (h : callRaw G W k f us st ≠ .stuck) : (fill F us).length = F.ps.length := by
  cases k with
  | zero => exact absurd rfl h
  | succ k =>
    unfold callRaw at h
    rw [e] at h
    simp only at h
    split at h
    · assumption
    · exact absurd rfl h

/-! ### a call's meaning meets the promise -/
abbrev cpK (G : Gm) (W k : Nat) : Nat → List D → R D := fun g ds => lowR (callRaw G W k g (ds.map .d) [])
abbrev cmK (G : Gm) (W k : Nat) : Nat → List U → Store → R U := fun g vs st => cutStore st.length (callRaw G W k g vs st)

section
variable {K : PySem.W.Frag} {G : Gm} {cl : Nat → Value} {W k f : Nat} {F : Fn} {P : Hp} {α : List Addr} {Fr : Hp} {st : Store} {H : Hp} {Wx : Value → Option Addr → Hp → Prop}
/-- the promise of a def at the values of the parameters, from the wish of the call -/
theorem call_spec (e : G.fns[f]? = some F) (r : Rel K P α Fr st H) {us : List U} {vs : List V} (hl : (fill F us).length = F.ps.length) (hs : RepUs K P α vs us) {dvs : List V} (hd : RepAll K (fun _ => none) dvs (F.dfl.drop (F.dfl.length - (F.ps.length - us.length)))) {Q : VK}
    (q : FitR K G cl P α Fr Wx (RepU K) (callU G (cpK G W k) (cmK G W k) f us st) Q) : spec K G cl k f F.ps (vs ++ dvs) H Q Wx := by
  have full : RepUs K P α (vs ++ dvs) (fill F us) := pappend hs (RepUs.of_all (hd.mono (same_none P)))
  refine ⟨by rw [← hl, ← Paired.length full], ?_⟩
  unfold callU at q
  rw [e] at q
  simp only at q
  split at q
  · -- a pure def
    cases hds : toDs us with
    | none => rw [hds] at q; exact q.elim
    | some ds =>
      rw [hds] at q
      have eu := toDs_some hds
      have full0 : RepUs K P [] (vs ++ dvs) (fill F us) := by
        unfold fill
        rw [eu] at hs ⊢
        exact pappend (RepUs.of_all (hs.toDs (toDs_map ds))) (by
          rw [eu] at hd
          exact RepUs.of_all (hd.mono (same_none P)))
      refine ⟨W, P, [], frameOf P α Fr H, [], fill F us, r.inner, full0, ?_⟩
      rw [raw_fill G W k f e us [] hl, eu]
      simp only at q
      cases hr : callRaw G W k f (ds.map .d) [] with
      | ok u st' =>
        simp only [cpK, hr, lowR] at q
        cases u with
        | d x => exact fun v H' P' α' a h => q v H' P' α (r.outer a) (by cases h with | d h => exact .d h)
        | m n => exact q.elim
      | exc c x st' =>
        simp only [cpK, hr, lowR] at q
        exact fun H' P' α' d a h => q H' P' α d (r.outer a) h
      | stuck =>
        simp only [cpK, hr, lowR] at q
        exact q.elim
  · refine ⟨W, P, α, Fr, st, fill F us, r, full, ?_⟩
    rw [raw_fill G W k f e us st hl]
    simp only [cmK] at q
    cases hr : callRaw G W k f us st with
    | ok u st' =>
      rw [hr] at q
      unfold cutStore at q
      simp only at q
      split at q
      · exact q
      · split at q
        · rename_i h1 h2
          rw [Bool.and_eq_true] at h2
          rw [← r.len] at h2 q
          exact fun v H' P' α' a h => q v H' P' α (a.cut h2.2) (h.low a.pre h2.1)
        · exact q
    | exc c x st' =>
      rw [hr] at q
      unfold cutStore at q
      simp only at q
      split at q
      · exact q
      · split at q
        · rename_i h1 h2
          rw [← r.len] at h2 q
          exact fun H' P' α' d a h => q H' P' α d (a.cut h2) h
        · exact q
    | stuck =>
      rw [hr] at q
      exact q.elim
theorem callU_len (e : G.fns[f]? = some F) {us : List U} {rep : Hp → List Addr → V → U → Prop} {Q : VK} (q : FitR K G cl P α Fr Wx rep (callU G (cpK G W k) (cmK G W k) f us st) Q) : (fill F us).length = F.ps.length := by
  refine raw_len (G := G) (W := W) (k := k) (f := f) (us := us) (st := if F.pure then [] else st) e fun z => ?_
  unfold callU at q
  rw [e] at q
  simp only at q
  split at q
  · rename_i hp
    rw [if_pos hp] at z
    cases hds : toDs us with
    | none => rw [hds] at q; exact q
    | some ds =>
      rw [hds] at q
      rw [toDs_some hds] at z
      simp only [cpK, z, lowR] at q
      exact q
  · rename_i hp
    rw [if_neg hp] at z
    simp only [cmK, z, cutStore] at q
    exact q
end
end Ev
end

section
set_option maxRecDepth 10000
set_option autoImplicit false
/-! EvG: expressions' syntax meets the machine's: all but comprehensions. -/
namespace Ev
open PySem PySem.Spec PyProof.Rows L2

/-! ### the given syntax -/
theorem star_cons {e : Expr} {es : List Expr} {env : PySem.Env} (h : ∀ x p, e ≠ .Starred x p) : starEach (e :: es) env = (false, eval e env) :: starEach es env := by
  cases e <;> first | rfl | exact absurd rfl (h _ _)
section
variable {G : Gm}
theorem chk_nostar {c : Ct} {e : E} {x : Expr} {p : Pos} : chkE G c e (.Starred x p) = false := by
  cases e with
  | _ => first | rfl | simp [chkE, dictShape, repShape, gen2]
theorem chk_ns {c : Ct} {e : E} {a : Expr} (h : chkE G c e a = true) : ∀ x p, a ≠ .Starred x p := fun x p z => by
  subst z
  rw [chk_nostar] at h; cases h
theorem chk_noslice {c : Ct} {e : E} {x y z : Option Expr} {p : Pos} : chkE G c e (.Slice x y z p) = false := by
  cases e with
  | _ => first | rfl | simp [chkE, dictShape, repShape, gen2]
theorem chk_plainIx {c : Ct} {e : E} {a : Expr} (h : chkE G c e a = true) : PlainIx a := by
  cases a <;> first | exact fun _ _ => rfl | (rw [chk_noslice] at h; cases h)
theorem chk_noset {c : Ct} {e : E} {x : List Expr} {n : Nat} {p : Pos} : chkE G c e (.Set x n p) = false := by
  cases e with
  | _ => first | rfl | simp [chkE, dictShape, repShape, gen2]
theorem chk_nomark {c : Ct} {e : E} {a : Expr} (h : chkE G c e a = true) (op : CmpOp) : behindInMarks op a = false := by
  cases a <;> first | rfl | (rw [chk_noset] at h; cases h)
theorem chk_nofold {c : Ct} {e : E} {a : Expr} (h : chkE G c e a = true) (env : PySem.Env) : ∀ x, foldedSetIterable a env x = pure x := by
  cases a <;> first | exact fun _ => rfl | (rw [chk_noset] at h; cases h)
theorem chkEs_len : ∀ {es : Es} {xs : List Expr} {c : Ct}, chkEs G c es xs = true → ∀ (env : PySem.Env), (starEach xs env).length = xs.length
  | .nil, [], _, _, _ => rfl
  | .nil, _ :: _, _, h, _ => by simp [chkEs] at h
  | .cons _ _, [], _, h, _ => by simp [chkEs] at h
  | .cons e es, x :: xs, c, h, env => by
    simp only [chkEs, Bool.and_eq_true] at h
    rw [star_cons (chk_ns h.1)]
    simp [chkEs_len h.2 env]
theorem chkEs_plain : ∀ {es : Es} {xs : List Expr} {c : Ct}, chkEs G c es xs = true → ∀ (pos : Pos) (env : PySem.Env), (backTo pos (starEach xs env)).any (·.1) = false
  | .nil, [], _, _, _, _ => rfl
  | .nil, _ :: _, _, h, _, _ => by simp [chkEs] at h
  | .cons _ _, [], _, h, _, _ => by simp [chkEs] at h
  | .cons e es, x :: xs, c, h, pos, env => by
    simp only [chkEs, Bool.and_eq_true] at h
    rw [star_cons (chk_ns h.1)]
    show (false || (backTo pos (starEach xs env)).any (·.1)) = false
    rw [chkEs_plain h.2 pos env]
    rfl
theorem chkEs_all {es : Es} {xs : List Expr} {c : Ct} (h : chkEs G c es xs = true) (pos : Pos) (env : PySem.Env) : (backTo pos (starEach xs env)).all (fun x => !x.1) = true := by
  have := chkEs_plain h pos env
  rw [List.all_eq_true]
  intro x hx
  have := List.any_eq_false.mp this x hx
  simpa using this
theorem chk_nosuper {c : Ct} {e : E} {p q : Pos} : chkE G c e (.Call (.Name "super" p) [] [] q) = false := by
  cases e with
  | _ => simp [chkE, chkF, dictShape, repShape, gen2]
theorem chk_base {c : Ct} {e : E} {a : Expr} (h : chkE G c e a = true) (n : Str) (env : PySem.Env) : attributeBase a n env (eval a env) = eval a env := by
  unfold attributeBase
  split
  · rename_i id q pos
    split
    · rfl
    · rename_i z
      exfalso
      simp only [Bool.or_eq_true, bne_iff_ne, ne_eq, beq_iff_eq, not_or, Decidable.not_not] at z
      rw [z.1.1.1, chk_nosuper] at h
      cases h
  · rfl
end

/-! ### what is shown of each expression -/
section
variable (G : Gm) (W k : Nat) (cl : Nat → Value)
def SndE (e : E) : Prop := ∀ (X : Cx) (c : Ct) (a : Expr) (Wx : WX), Sta G cl k X c → Takes X Wx → chkE G c e a = true → ∀ (σ : L2.St) (H P : Hp) (α : List Addr) (Fr : Hp) (st : Store) (ε : Env), Rel X.K P α Fr st H → EnvOk X.K P α σ ε → ∀ Q : VK,
  FitR X.K G cl P α Fr (fun v d H' => Wx v d σ H') (RepU X.K) (evE G (cpK G W k) (cmK G W k) e ε st) Q → WE X a σ H Q
def toB (u : U) (st : Store) : R Bool := match u with
  | .d (.bool b) => .ok b st
  | _ => .stuck
def SndT (e : E) : Prop := ∀ (X : Cx) (c : Ct) (a : Expr) (Wx : WX), Sta G cl k X c → Takes X Wx → chkE G c e a = true → ∀ (σ : L2.St) (H P : Hp) (α : List Addr) (Fr : Hp) (st : Store) (ε : Env), Rel X.K P α Fr st H → EnvOk X.K P α σ ε → ∀ Q : Bool → Hp → Prop,
  FitR X.K G cl P α Fr (fun v d H' => Wx v d σ H') (fun _ _ v u => v = u) ((evE G (cpK G W k) (cmK G W k) e ε st).bind toB) Q → WT X a σ H Q
def SndEs (es : Es) : Prop := ∀ (X : Cx) (c : Ct) (as : List Expr) (Wx : WX), Sta G cl k X c → Takes X Wx → chkEs G c es as = true → ∀ (σ : L2.St) (H P : Hp) (α : List Addr) (Fr : Hp) (st : Store) (ε : Env), Rel X.K P α Fr st H → EnvOk X.K P α σ ε → ∀ Q : List V → Hp → Prop,
  FitR X.K G cl P α Fr (fun v d H' => Wx v d σ H') (RepUs X.K) (evEs G (cpK G W k) (cmK G W k) es ε st) Q → WA X as σ H Q
end

section
variable {G : Gm} {W k : Nat} {cl : Nat → Value}
theorem fitT {K : PySem.W.Frag} {P : Hp} {α : List Addr} {Fr : Hp} {Wx : Value → Option Addr → Hp → Prop} {r : R U} {Q : Bool → Hp → Prop} (h : FitR K G cl P α Fr Wx (fun _ _ v u => v = u) (r.bind toB) Q) :
    FitR K G cl P α Fr Wx (RepU K) r (fun x H1 => ∃ c, x = .bl c ∧ Q c H1) :=
  FitR.bind h fun u st1 v H1 P1 α1 _ a rep q => by
    unfold toB at q
    split at q
    · cases rep with | d rep =>
      cases rep
      exact ⟨_, rfl, q _ _ _ _ (Aft.refl a.rel) rfl⟩
    · exact q.elim
/-- a test by its value -/
theorem SndE.test {e : E} (h : SndE G W k cl e) (he : ∀ (c : Ct) (a : Expr) (env : PySem.Env), chkE G c e a = true → ∀ whole, isTrue a env whole = (do let v ← whole; standAt a.pos; holding [v] (truthy v))) : SndT G W k cl e := by
  intro X c a Wx S tk hc σ H P α Fr st ε r ev Q q
  exact WT.of (pt_val pe_W (he c a X.env hc)) (h X c a Wx S tk hc σ H P α Fr st ε r ev _ (fitT q))

theorem snd_con {kc : Const} : SndE G W k cl (.con kc) := by
  intro X c a Wx S tk hc σ H P α Fr st ε r ev Q q
  cases a <;> simp only [chkE, Bool.false_eq_true] at hc
  have e := of_decide_eq_true hc
  subst e
  unfold evE at q
  split at q
  · rename_i d hd
    exact we_con hd fun v h => q v H P α (Aft.refl r) (.d (h P))
  · exact q.elim
theorem snd_var {i : Nat} : SndE G W k cl (.var i) := by
  intro X c a Wx S tk hc σ H P α Fr st ε r ev Q q
  cases a <;> simp only [chkE, Bool.false_eq_true] at hc
  unfold evE at q
  split at q
  · rename_i u hu
    exact we_var S hc ev hu fun v h => q v H P α (Aft.refl r) h
  · exact q.elim
theorem snd_glob {g : Nat} : SndE G W k cl (.glob g) := by
  intro X c a Wx S tk hc σ H P α Fr st ε r ev Q q
  cases a <;> simp only [chkE, Bool.false_eq_true] at hc
  simp only [Bool.and_eq_true] at hc
  unfold evE at q
  split at q
  · rename_i p hp
    have e := isE_of hc.1.1
    rw [hp] at e
    have e' : p.1 = _ := Option.some.inj e
    subst e'
    exact we_glob S hc.1.2 hc.2 hp fun v h => q v H P α (Aft.refl r) (.d (h P))
  · exact q.elim
abbrev opbAny (X : Cx) (op : Operator) : R2 := fun x y H Q => ∃ rr, OpR X (binaryOp op) rr ∧ rr x y H Q
theorem opb_any {X : Cx} {op : Operator} : OpR X (binaryOp op) (opbAny X op) := fun pins s σ H x y v u Q I r1 r2 ⟨rr, h1, h2⟩ => h1 pins s σ H x y v u Q I r1 r2 h2
theorem snd_bin {op : Operator} {a b : E} (ha : SndE G W k cl a) (hb : SndE G W k cl b) : SndE G W k cl (.bin op a b) := by
  intro X c x Wx S tk hc σ H P α Fr st ε r ev Q q
  cases x <;> simp only [chkE, Bool.false_eq_true] at hc
  simp only [Bool.and_eq_true] at hc
  have e := of_decide_eq_true hc.1.1
  subst e
  unfold evE at q
  refine WE.of (pe_op opb_any pe_W pe_W) ?_
  refine ha X c _ Wx S tk hc.1.2 σ H P α Fr st ε r ev _ (FitR.bind q fun x st1 vx H1 P1 α1 e1 a1 rx q1 => ?_)
  refine hb X c _ Wx S tk hc.2 σ H1 P1 α1 Fr st1 ε a1.rel (ev.mono a1.same a1.pre) _ (FitR.bind q1 fun y st2 vy H2 P2 α2 e2 a2 ry q2 => ?_)
  split at q2
  · rename_i x y
    have rx' := (rx.mono a2.same a2.pre)
    cases rx' with | d rx' =>
    cases ry with | d ry =>
    cases hz : binD _ x y with
    | none => rw [hz] at q2; exact q2.elim
    | some z =>
      rw [hz] at q2
      exact bin_sound a2.rel rx' ry hz fun v H' P' α' b h => q2 v H' P' α' b h
  · exact q2.elim
theorem snd_neg {a : E} (ha : SndE G W k cl a) : SndE G W k cl (.neg a) := by
  intro X c x Wx S tk hc σ H P α Fr st ε r ev Q q
  cases x with
  | UnaryOp o y pos =>
    cases o <;> simp only [chkE, Bool.false_eq_true] at hc
    unfold evE at q
    refine WE.of (pe_un un_neg pe_W) ?_
    refine ha X c _ Wx S tk hc σ H P α Fr st ε r ev _ (FitR.bind q fun x st1 vx H1 P1 α1 e1 a1 rx q1 => ?_)
    split at q1
    · cases rx with | d rx =>
      cases rx
      exact ⟨_, rfl, q1 _ _ _ _ (Aft.refl a1.rel) (.d (.int _))⟩
    · exact q1.elim
  | _ => simp only [chkE, Bool.false_eq_true] at hc
theorem snd_not {a : E} (ha : SndE G W k cl a) : SndE G W k cl (.not_ a) := by
  intro X c x Wx S tk hc σ H P α Fr st ε r ev Q q
  cases x with
  | UnaryOp o y pos =>
    cases o <;> simp only [chkE, Bool.false_eq_true] at hc
    unfold evE at q
    refine WE.of (pe_not pe_W) ?_
    refine ha X c _ Wx S tk hc σ H P α Fr st ε r ev _ (FitR.bind q fun x st1 vx H1 P1 α1 e1 a1 rx q1 => ?_)
    split at q1
    · cases rx with | d rx =>
      cases rx
      exact ⟨_, rfl, q1 _ _ _ _ (Aft.refl a1.rel) (.d (.bl _))⟩
    · exact q1.elim
  | _ => simp only [chkE, Bool.false_eq_true] at hc
theorem tst_not {a : E} (ha : SndT G W k cl a) : SndT G W k cl (.not_ a) := by
  intro X c x Wx S tk hc σ H P α Fr st ε r ev Q q
  cases x with
  | UnaryOp o y pos =>
    cases o <;> simp only [chkE, Bool.false_eq_true] at hc
    refine WT.of (pt_not pt_W) ?_
    refine ha X c _ Wx S tk hc σ H P α Fr st ε r ev _ ?_
    unfold evE at q
    cases hr : evE G (cpK G W k) (cmK G W k) a ε st with
    | ok u st1 =>
      rw [hr] at q
      cases u with
      | m n => exact q.elim
      | d x =>
        cases x with
        | bool b =>
          intro v H' P' α' b e
          exact q (!v) H' P' α' b (by rw [e])
        | _ => exact q.elim
    | exc c x st1 => rw [hr] at q; exact q
    | stuck => rw [hr] at q; exact q
  | _ => simp only [chkE, Bool.false_eq_true] at hc
abbrev opAny (X : Cx) (op : CmpOp) : R2 := fun x y H Q => ∃ rr, OpR X (compareOp op) rr ∧ rr x y H Q
theorem op_any {X : Cx} {op : CmpOp} : OpR X (compareOp op) (opAny X op) := fun pins s σ H x y v u Q I r1 r2 ⟨rr, h1, h2⟩ => h1 pins s σ H x y v u Q I r1 r2 h2
theorem snd_cmp {op : CmpOp} {a b : E} (ha : SndE G W k cl a) (hb : SndE G W k cl b) : SndE G W k cl (.cmp op a b) := by
  intro X c x Wx S tk hc σ H P α Fr st ε r ev Q q
  cases x with
  | Compare l os rs pos =>
    rcases os with _ | ⟨o, _ | ⟨o2, os⟩⟩ <;> rcases rs with _ | ⟨y, _ | ⟨y2, rs⟩⟩ <;> simp only [chkE, Bool.false_eq_true] at hc
    simp only [Bool.and_eq_true] at hc
    have e := of_decide_eq_true hc.1.1
    subst e
    unfold evE at q
    refine WE.of (pe_cmpR op_any pe_W pe_W (chk_nomark hc.2 _)) ?_
    refine ha X c _ Wx S tk hc.1.2 σ H P α Fr st ε r ev _ (FitR.bind q fun x st1 vx H1 P1 α1 e1 a1 rx q1 => ?_)
    refine hb X c _ Wx S tk hc.2 σ H1 P1 α1 Fr st1 ε a1.rel (ev.mono a1.same a1.pre) _ (FitR.bind q1 fun y st2 vy H2 P2 α2 e2 a2 ry q2 => ?_)
    split at q2
    · rename_i x y
      have rx' := (rx.mono a2.same a2.pre)
      cases rx' with | d rx' =>
      cases ry with | d ry =>
      cases hz : cmpD _ x y with
      | none => rw [hz] at q2; exact q2.elim
      | some z =>
        rw [hz] at q2
        exact cmp_sound a2.rel (by have := S.hu; omega) rx' ry hz (q2 _ _ _ _ (Aft.refl a2.rel) (.d (.bl _)))
    · exact q2.elim
  | _ => simp only [chkE, Bool.false_eq_true] at hc
theorem tst_cmp {op : CmpOp} {a b : E} (ha : SndE G W k cl a) (hb : SndE G W k cl b) : SndT G W k cl (.cmp op a b) := by
  intro X c x Wx S tk hc σ H P α Fr st ε r ev Q q
  cases x with
  | Compare l os rs pos =>
    rcases os with _ | ⟨o, _ | ⟨o2, os⟩⟩ <;> rcases rs with _ | ⟨y, _ | ⟨y2, rs⟩⟩ <;> simp only [chkE, Bool.false_eq_true] at hc
    simp only [Bool.and_eq_true] at hc
    have e := of_decide_eq_true hc.1.1
    subst e
    have q := fitT q
    unfold evE at q
    refine WT.of (pt_cmpR op_any pe_W pe_W (chk_nomark hc.2 _)) ?_
    refine ha X c _ Wx S tk hc.1.2 σ H P α Fr st ε r ev _ (FitR.bind q fun x st1 vx H1 P1 α1 e1 a1 rx q1 => ?_)
    refine hb X c _ Wx S tk hc.2 σ H1 P1 α1 Fr st1 ε a1.rel (ev.mono a1.same a1.pre) _ (FitR.bind q1 fun y st2 vy H2 P2 α2 e2 a2 ry q2 => ?_)
    split at q2
    · rename_i x y
      have rx' := (rx.mono a2.same a2.pre)
      cases rx' with | d rx' =>
      cases ry with | d ry =>
      cases hz : cmpD _ x y with
      | none => rw [hz] at q2; exact q2.elim
      | some z =>
        rw [hz] at q2
        exact cmp_sound (Q := fun x H' => ∃ k, x = .bl k ∧ Q k H') a2.rel (by have := S.hu; omega) rx' ry hz (q2 _ _ _ _ (Aft.refl a2.rel) (.d (.bl _)))
    · exact q2.elim
  | _ => simp only [chkE, Bool.false_eq_true] at hc
theorem lastm {G : Gm} {c : Ct} {e : E} {a b : Expr} {o o2 : CmpOp} (h : chkE G c e b = true) : lastMarks [o, o2] [a, b] = false := by
  show behindInMarks o2 b = false
  exact chk_nomark h _
theorem chain_go {op op2 : CmpOp} {a b d : E} (ha : SndE G W k cl a) (hb : SndE G W k cl b) (hd : SndE G W k cl d) {X : Cx} {c : Ct} {l y z : Expr} {Wx : WX} (S : Sta G cl k X c) (tk : Takes X Wx) (h1 : chkE G c a l = true) (h2 : chkE G c b y = true) (h3 : chkE G c d z = true)
    {σ : L2.St} {H P : Hp} {α : List Addr} {Fr : Hp} {st : Store} {ε : Env} (r : Rel X.K P α Fr st H) (ev : EnvOk X.K P α σ ε) {Q : VK}
    (q : FitR X.K G cl P α Fr (fun v d H' => Wx v d σ H') (RepU X.K) (evE G (cpK G W k) (cmK G W k) (.chain op op2 a b d) ε st) Q) : tChain (opAny X op) (opAny X op2) (WE X l) (WE X y) (WE X z) σ H Q := by
  unfold evE at q
  have hu : X.A.units + 64 < cLine := by have := S.hu; omega
  refine ha X c _ Wx S tk h1 σ H P α Fr st ε r ev _ (FitR.bind q fun x st1 vx H1 P1 α1 e1 a1 rx q1 => ?_)
  refine hb X c _ Wx S tk h2 σ H1 P1 α1 Fr st1 ε a1.rel (ev.mono a1.same a1.pre) _ (FitR.bind q1 fun y st2 vy H2 P2 α2 e2 a2 ry q2 => ?_)
  split at q2
  · rename_i x y
    have rx' := (rx.mono a2.same a2.pre)
    cases rx' with | d rx' =>
    cases ry with | d ry =>
    split at q2
    · rename_i hz
      refine cmp_sound (Q := fun w H3 => ∃ kk, w = .bl kk ∧ (if kk = true then WE X z σ H3 fun w' H4 => opAny X op2 vy w' H4 Q else Q (.bl false) H3)) a2.rel hu rx' ry hz ⟨true, rfl, ?_⟩
      rw [if_pos rfl]
      refine hd X c _ Wx S tk h3 σ H2 P2 α2 Fr st2 ε a2.rel ((ev.mono a1.same a1.pre).mono a2.same a2.pre) _ (FitR.bind q2 fun w st3 vw H3 P3 α3 e3 a3 rw q3 => ?_)
      split at q3
      · rename_i w
        cases rw with | d rw =>
        cases hz2 : cmpD op2 y w with
        | none => rw [hz2] at q3; exact q3.elim
        | some z2 =>
          rw [hz2] at q3
          exact cmp_sound a3.rel hu (ry.mono a3.same) rw hz2 (q3 _ _ _ _ (Aft.refl a3.rel) (.d (.bl _)))
      · exact q3.elim
    · rename_i hz
      refine cmp_sound (Q := fun w H3 => ∃ kk, w = .bl kk ∧ (if kk = true then WE X z σ H3 fun w' H4 => opAny X op2 vy w' H4 Q else Q (.bl false) H3)) a2.rel hu rx' ry hz ⟨false, rfl, ?_⟩
      rw [if_neg Bool.false_ne_true]
      exact q2 _ _ _ _ (Aft.refl a2.rel) (.d (.bl _))
    · exact q2.elim
  · exact q2.elim
theorem snd_chain {op op2 : CmpOp} {a b d : E} (ha : SndE G W k cl a) (hb : SndE G W k cl b) (hd : SndE G W k cl d) : SndE G W k cl (.chain op op2 a b d) := by
  intro X c x Wx S tk hc σ H P α Fr st ε r ev Q q
  cases x with
  | Compare l os rs pos =>
    rcases os with _ | ⟨o, _ | ⟨o2, _ | ⟨o3, os⟩⟩⟩ <;> rcases rs with _ | ⟨y, _ | ⟨y2, _ | ⟨y3, rs⟩⟩⟩ <;> simp only [chkE, Bool.false_eq_true] at hc
    simp only [Bool.and_eq_true] at hc
    obtain ⟨⟨⟨⟨e1, e2⟩, h1⟩, h2⟩, h3⟩ := hc
    have e1 := of_decide_eq_true e1
    have e2 := of_decide_eq_true e2
    subst e1 e2
    exact WE.of (pe_chain op_any op_any pe_W pe_W pe_W (lastm h3)) (chain_go ha hb hd S tk h1 h2 h3 r ev q)
  | _ => simp only [chkE, Bool.false_eq_true] at hc
theorem tst_chain {op op2 : CmpOp} {a b d : E} (ha : SndE G W k cl a) (hb : SndE G W k cl b) (hd : SndE G W k cl d) : SndT G W k cl (.chain op op2 a b d) := by
  intro X c x Wx S tk hc σ H P α Fr st ε r ev Q q
  cases x with
  | Compare l os rs pos =>
    rcases os with _ | ⟨o, _ | ⟨o2, _ | ⟨o3, os⟩⟩⟩ <;> rcases rs with _ | ⟨y, _ | ⟨y2, _ | ⟨y3, rs⟩⟩⟩ <;> simp only [chkE, Bool.false_eq_true] at hc
    simp only [Bool.and_eq_true] at hc
    obtain ⟨⟨⟨⟨e1, e2⟩, h1⟩, h2⟩, h3⟩ := hc
    have e1 := of_decide_eq_true e1
    have e2 := of_decide_eq_true e2
    subst e1 e2
    exact WT.of (pt_chain op_any op_any pe_W pe_W pe_W (lastm h3)) (chain_go ha hb hd S tk h1 h2 h3 r ev (fitT q))
  | _ => simp only [chkE, Bool.false_eq_true] at hc
end
end Ev
end

section
set_option maxRecDepth 10000
set_option autoImplicit false
/-! EvH: expressions' syntax meets the machine's: and, or, displays, subscripts, calls, methods. -/
namespace Ev
open PySem PySem.Spec PyProof.Rows L2

section
variable {G : Gm} {W k : Nat} {cl : Nat → Value}
/-! ### and, or, if -/
theorem snd_and {a b : E} (ha : SndE G W k cl a) (hb : SndE G W k cl b) : SndE G W k cl (.and_ a b) := by
  intro X c x Wx S tk hc σ H P α Fr st ε r ev Q q
  have key : ∀ l y, chkE G c a l = true → chkE G c b y = true → tAndV (WE X l) (WE X y) σ H Q := by
    intro l y h1 h2
    unfold evE at q
    refine ha X c _ Wx S tk h1 σ H P α Fr st ε r ev _ (FitR.bind q fun x st1 vx H1 P1 α1 e1 a1 rx q1 => ?_)
    split at q1
    · cases rx with | d rx =>
      cases rx
      refine ⟨true, rfl, ?_⟩
      rw [if_pos rfl]
      exact hb X c _ Wx S tk h2 σ H1 P1 α1 Fr st1 ε a1.rel (ev.mono a1.same a1.pre) _ q1
    · cases rx with | d rx =>
      cases rx
      refine ⟨false, rfl, ?_⟩
      rw [if_neg Bool.false_ne_true]
      exact q1 _ _ _ _ (Aft.refl a1.rel) (.d (.bl _))
    · exact q1.elim
  cases x with
  | BoolOp o vs pos =>
    cases o with
    | And =>
      rcases vs with _ | ⟨l, _ | ⟨y, _ | ⟨z, r'⟩⟩⟩ <;> simp only [chkE, Bool.false_eq_true] at hc
      · simp only [Bool.and_eq_true] at hc
        exact WE.of (pe_and pe_W (pe_one pe_W)) (key l y hc.1 hc.2)
      · simp only [Bool.and_eq_true] at hc
        exact WE.of (pe_and pe_W pe_W) (key l _ hc.1 hc.2)
    | Or => simp only [chkE, Bool.false_eq_true] at hc
  | _ => simp only [chkE, Bool.false_eq_true] at hc
theorem snd_or {a b : E} (ha : SndE G W k cl a) (hb : SndE G W k cl b) : SndE G W k cl (.or_ a b) := by
  intro X c x Wx S tk hc σ H P α Fr st ε r ev Q q
  have key : ∀ l y, chkE G c a l = true → chkE G c b y = true → tOrV (WE X l) (WE X y) σ H Q := by
    intro l y h1 h2
    unfold evE at q
    refine ha X c _ Wx S tk h1 σ H P α Fr st ε r ev _ (FitR.bind q fun x st1 vx H1 P1 α1 e1 a1 rx q1 => ?_)
    split at q1
    · cases rx with | d rx =>
      cases rx
      refine ⟨true, rfl, ?_⟩
      rw [if_pos rfl]
      exact q1 _ _ _ _ (Aft.refl a1.rel) (.d (.bl _))
    · cases rx with | d rx =>
      cases rx
      refine ⟨false, rfl, ?_⟩
      rw [if_neg Bool.false_ne_true]
      exact hb X c _ Wx S tk h2 σ H1 P1 α1 Fr st1 ε a1.rel (ev.mono a1.same a1.pre) _ q1
    · exact q1.elim
  cases x with
  | BoolOp o vs pos =>
    cases o with
    | Or =>
      rcases vs with _ | ⟨l, _ | ⟨y, _ | ⟨z, r'⟩⟩⟩ <;> simp only [chkE, Bool.false_eq_true] at hc
      · simp only [Bool.and_eq_true] at hc
        exact WE.of (pe_or pe_W (pe_one pe_W)) (key l y hc.1 hc.2)
      · simp only [Bool.and_eq_true] at hc
        exact WE.of (pe_or pe_W pe_W) (key l _ hc.1 hc.2)
    | And => simp only [chkE, Bool.false_eq_true] at hc
  | _ => simp only [chkE, Bool.false_eq_true] at hc
theorem ww_boolop {X : Cx} {o : BoolOp} {vs : List Expr} {pos : Pos} {σ : L2.St} {H : Hp} {Q : Bool → Hp → Prop} (h : WT X (.BoolOp o vs pos) σ H Q) : WW X (.BoolOp o vs pos) σ H Q := fun wh pins s I => by
  have e : isTrue (.BoolOp o vs pos) X.env wh = isTrue (.BoolOp o vs pos) X.env (eval (.BoolOp o vs pos) X.env) := rfl
  rw [e]
  exact h pins s I
theorem fit_and {K : PySem.W.Frag} {P : Hp} {α : List Addr} {Fr : Hp} {Wx : Value → Option Addr → Hp → Prop} {r : R U} {f : U → Store → R U} {Q : Bool → Hp → Prop}
    (q : FitR K G cl P α Fr Wx (fun _ _ v u => v = u) ((r.bind f).bind toB) Q) {Qa : Bool → Hp → Prop}
    (k' : ∀ b st1 H1 P1 α1, r = .ok (.d (.bool b)) st1 → Aft K P α Fr st1 H1 P1 α1 → FitR K G cl P1 α1 Fr Wx (fun _ _ v u => v = u) ((f (.d (.bool b)) st1).bind toB) Q → Qa b H1)
    (hf : ∀ u st1, (∀ b, u ≠ .d (.bool b)) → f u st1 = .stuck) : FitR K G cl P α Fr Wx (fun _ _ v u => v = u) (r.bind toB) Qa := by
  cases r with
  | ok u st1 =>
    by_cases h : ∃ b, u = .d (.bool b)
    · obtain ⟨b, rfl⟩ := h
      intro v H' P' α' a e
      subst e
      exact k' v st1 H' P' α' rfl a (FitR.weak q a)
    · have z : f u st1 = .stuck := hf u st1 fun b e => h ⟨b, e⟩
      have q' : FitR K G cl P α Fr Wx (fun _ _ v u => v = u) ((f u st1).bind toB) Q := q
      rw [z] at q'
      exact q'.elim
  | exc c x st1 => exact q
  | stuck => exact q
theorem tst_and {a b : E} (ha : SndT G W k cl a) (hb : SndT G W k cl b) : SndT G W k cl (.and_ a b) := by
  intro X c x Wx S tk hc σ H P α Fr st ε r ev Q q
  have key : ∀ l y (T : L2.St → Hp → (Bool → Hp → Prop) → Prop), chkE G c a l = true → chkE G c b y = true → (∀ H Q, WT X y σ H Q → T σ H Q) → tAnd (WT X l) T σ H Q := by
    intro l y T h1 h2 hT
    unfold evE at q
    refine ha X c _ Wx S tk h1 σ H P α Fr st ε r ev _ (fit_and q (fun b st1 H1 P1 α1 e1 a1 q1 => ?_) fun u st1 h => ?_)
    · cases b with
      | true =>
        rw [if_pos rfl]
        exact hT _ _ (hb X c _ Wx S tk h2 σ H1 P1 α1 Fr st1 ε a1.rel (ev.mono a1.same a1.pre) _ q1)
      | false =>
        rw [if_neg Bool.false_ne_true]
        exact q1 _ _ _ _ (Aft.refl a1.rel) rfl
    · split
      · exact absurd rfl (h _)
      · exact absurd rfl (h _)
      · rfl
  cases x with
  | BoolOp o vs pos =>
    cases o with
    | And =>
      rcases vs with _ | ⟨l, _ | ⟨y, _ | ⟨z, r'⟩⟩⟩ <;> simp only [chkE, Bool.false_eq_true] at hc
      · simp only [Bool.and_eq_true] at hc
        exact WT.of (PW.pt (pw_and pt_W (pw_and1 pt_W))) (key l y _ hc.1 hc.2 fun _ _ h => h)
      · simp only [Bool.and_eq_true] at hc
        exact WT.of (PW.pt (pw_and pt_W pw_W)) (key l _ _ hc.1 hc.2 fun _ _ h => ww_boolop h)
    | Or => simp only [chkE, Bool.false_eq_true] at hc
  | _ => simp only [chkE, Bool.false_eq_true] at hc
theorem tst_or {a b : E} (ha : SndT G W k cl a) (hb : SndT G W k cl b) : SndT G W k cl (.or_ a b) := by
  intro X c x Wx S tk hc σ H P α Fr st ε r ev Q q
  have key : ∀ l y (T : L2.St → Hp → (Bool → Hp → Prop) → Prop), chkE G c a l = true → chkE G c b y = true → (∀ H Q, WT X y σ H Q → T σ H Q) → tOr (WT X l) T σ H Q := by
    intro l y T h1 h2 hT
    unfold evE at q
    refine ha X c _ Wx S tk h1 σ H P α Fr st ε r ev _ (fit_and q (fun b st1 H1 P1 α1 e1 a1 q1 => ?_) fun u st1 h => ?_)
    · cases b with
      | true =>
        rw [if_pos rfl]
        exact q1 _ _ _ _ (Aft.refl a1.rel) rfl
      | false =>
        rw [if_neg Bool.false_ne_true]
        exact hT _ _ (hb X c _ Wx S tk h2 σ H1 P1 α1 Fr st1 ε a1.rel (ev.mono a1.same a1.pre) _ q1)
    · split
      · exact absurd rfl (h _)
      · exact absurd rfl (h _)
      · rfl
  cases x with
  | BoolOp o vs pos =>
    cases o with
    | Or =>
      rcases vs with _ | ⟨l, _ | ⟨y, _ | ⟨z, r'⟩⟩⟩ <;> simp only [chkE, Bool.false_eq_true] at hc
      · simp only [Bool.and_eq_true] at hc
        exact WT.of (PW.pt (pw_or pt_W (pw_or1 pt_W))) (key l y _ hc.1 hc.2 fun _ _ h => h)
      · simp only [Bool.and_eq_true] at hc
        exact WT.of (PW.pt (pw_or pt_W pw_W)) (key l _ _ hc.1 hc.2 fun _ _ h => ww_boolop h)
    | And => simp only [chkE, Bool.false_eq_true] at hc
  | _ => simp only [chkE, Bool.false_eq_true] at hc
theorem snd_ite {t a b : E} (ht : SndT G W k cl t) (ha : SndE G W k cl a) (hb : SndE G W k cl b) : SndE G W k cl (.ite t a b) := by
  intro X c x Wx S tk hc σ H P α Fr st ε r ev Q q
  cases x with
  | IfExp t' a' b' pos =>
    simp only [chkE, Bool.and_eq_true] at hc
    obtain ⟨⟨h1, h2⟩, h3⟩ := hc
    refine WE.of (pe_ifExp pt_W pe_W pe_W) ?_
    unfold evE at q
    refine ht X c _ Wx S tk h1 σ H P α Fr st ε r ev _ ?_
    cases hr : evE G (cpK G W k) (cmK G W k) t ε st with
    | ok u st1 =>
      rw [hr] at q
      cases u with
      | m n => exact q.elim
      | d x =>
        cases x with
        | bool v =>
          intro v' H1 P1 α1 a1 e
          subst e
          have q1 := FitR.weak q a1
          cases v' with
          | true =>
            rw [if_pos rfl]
            exact ha X c _ Wx S tk h2 σ H1 P1 α1 Fr st1 ε a1.rel (ev.mono a1.same a1.pre) _ q1
          | false =>
            rw [if_neg Bool.false_ne_true]
            exact hb X c _ Wx S tk h3 σ H1 P1 α1 Fr st1 ε a1.rel (ev.mono a1.same a1.pre) _ q1
        | _ => exact q.elim
    | exc c x st1 => rw [hr] at q; exact q
    | stuck => rw [hr] at q; exact q
  | _ => simp only [chkE, Bool.false_eq_true] at hc
theorem tst_ite {t a b : E} (ht : SndT G W k cl t) (ha : SndT G W k cl a) (hb : SndT G W k cl b) : SndT G W k cl (.ite t a b) := by
  intro X c x Wx S tk hc σ H P α Fr st ε r ev Q q
  cases x with
  | IfExp t' a' b' pos =>
    simp only [chkE, Bool.and_eq_true] at hc
    obtain ⟨⟨h1, h2⟩, h3⟩ := hc
    intro pins s I
    refine isTrue_IfExp ?_
    have key : WT X t' σ H (fun c H1 => if c = true then WT X a' σ H1 Q else WT X b' σ H1 Q) := by
      unfold evE at q
      refine ht X c _ Wx S tk h1 σ H P α Fr st ε r ev _ (fit_and q (fun b st1 H1 P1 α1 e1 a1 q1 => ?_) fun u st1 h => ?_)
      · cases b with
        | true =>
          rw [if_pos rfl]
          exact ha X c _ Wx S tk h2 σ H1 P1 α1 Fr st1 ε a1.rel (ev.mono a1.same a1.pre) _ q1
        | false =>
          rw [if_neg Bool.false_ne_true]
          exact hb X c _ Wx S tk h3 σ H1 P1 α1 Fr st1 ε a1.rel (ev.mono a1.same a1.pre) _ q1
      · split
        · exact absurd rfl (h _)
        · exact absurd rfl (h _)
        · rfl
    refine thn (key pins s I) fun c s1 ⟨H1, I1, q1⟩ => ?_
    cases c with
    | true => rw [if_pos rfl] at q1; exact q1 pins s1 I1
    | false => rw [if_neg Bool.false_ne_true] at q1; exact q1 pins s1 I1
  | _ => simp only [chkE, Bool.false_eq_true] at hc

/-! ### lists of expressions, displays -/
theorem snd_nil : SndEs G W k cl .nil := by
  intro X c as Wx S tk hc σ H P α Fr st ε r ev Q q
  cases as with
  | nil =>
    unfold evEs at q
    exact WA.of pa_nil (q _ _ _ _ (Aft.refl r) .nil)
  | cons => simp only [chkEs, Bool.false_eq_true] at hc
theorem snd_cons {e : E} {es : Es} (he : SndE G W k cl e) (hs : SndEs G W k cl es) : SndEs G W k cl (.cons e es) := by
  intro X c as Wx S tk hc σ H P α Fr st ε r ev Q q
  cases as with
  | nil => simp only [chkEs, Bool.false_eq_true] at hc
  | cons x xs =>
    simp only [chkEs, Bool.and_eq_true] at hc
    refine WA.of (pa_cons pe_W pa_W (star_cons (chk_ns hc.1))) ?_
    unfold evEs at q
    refine he X c _ Wx S tk hc.1 σ H P α Fr st ε r ev _ (FitR.bind q fun u st1 v H1 P1 α1 e1 a1 rx q1 => ?_)
    refine hs X c _ Wx S tk hc.2 σ H1 P1 α1 Fr st1 ε a1.rel (ev.mono a1.same a1.pre) _ (FitR.bind q1 fun us st2 vs H2 P2 α2 e2 a2 ry q2 => ?_)
    exact q2 _ _ _ _ (Aft.refl a2.rel) (.cons (rx.mono a2.same a2.pre) ry)
theorem snd_tup {es : Es} (hs : SndEs G W k cl es) : SndE G W k cl (.tup es) := by
  intro X c x Wx S tk hc σ H P α Fr st ε r ev Q q
  cases x with
  | Tuple xs n pos =>
    simp only [chkE] at hc
    refine WE.of (pe_tup pa_W) ?_
    show WA X xs σ H _
    unfold evE at q
    refine hs X c _ Wx S tk hc σ H P α Fr st ε r ev _ (FitR.bind q fun us st1 vs H1 P1 α1 e1 a1 rx q1 => ?_)
    split at q1
    · rename_i ds hd
      split at q1
      · rename_i hz
        have ra := rx.toDs hd
        exact ⟨by rw [ra.length, ← sizeMax_eq]; exact hz, fun p hp => q1 _ _ _ _ (a1.rel.new hp _) (.d (rep_tup (sq_up (a1.rel.sub.free hp)) ra))⟩
      · exact q1.elim
    · exact q1.elim
  | _ => simp only [chkE, Bool.false_eq_true] at hc
theorem alloc_fit {X : Cx} {P : Hp} {α : List Addr} {Fr : Hp} {st : Store} {H : Hp} {Wx : Value → Option Addr → Hp → Prop} (r : Rel X.K P α Fr st H) {mu : Bool} {us : List U} {vs : List V} (h : RepUs X.K P α vs us) {Q : VK}
    (q : FitR X.K G cl P α Fr Wx (RepU X.K) (allocL mu us st) Q) {p : Addr} (hp : H p = none) : Q (.ref p) (upd H p (.lst vs)) := by
  unfold allocL at q
  split at q
  · exact q _ _ _ _ (r.alloc hp h) (.m (by rw [← r.len, List.getElem?_append_right (Nat.le_refl _), Nat.sub_self]; rfl))
  · split at q
    · rename_i ds hd
      exact q _ _ _ _ (r.new hp _) (.d (rep_lst (sq_up (r.sub.free hp)) (h.toDs hd)))
    · exact q.elim
theorem snd_lst {mu : Bool} {es : Es} (hs : SndEs G W k cl es) : SndE G W k cl (.lst mu es) := by
  intro X c x Wx S tk hc σ H P α Fr st ε r ev Q q
  cases x with
  | List xs pos =>
    simp only [chkE] at hc
    refine WE.of (pe_lst pa_W) ?_
    unfold evE at q
    refine hs X c _ Wx S tk hc σ H P α Fr st ε r ev _ (FitR.bind q fun us st1 vs H1 P1 α1 e1 a1 rx q1 => ?_)
    split at q1
    · rename_i hz
      exact ⟨by rw [Paired.length rx, ← sizeMax_eq]; exact hz, fun p hp => alloc_fit a1.rel rx q1 hp⟩
    · exact q1.elim
  | _ => simp only [chkE, Bool.false_eq_true] at hc

/-! ### subscripts, slices -/
abbrev ixAny (X : Cx) : R2 := fun x y H Q => ∃ rr, IxR X rr ∧ rr x y H Q
theorem ix_any {X : Cx} : IxR X (ixAny X) := fun a b pins s σ H x y v u Q I r1 r2 ⟨rr, h1, h2⟩ => h1 a b pins s σ H x y v u Q I r1 r2 h2
theorem snd_ix {a b : E} (ha : SndE G W k cl a) (hb : SndE G W k cl b) : SndE G W k cl (.ix a b) := by
  intro X c x Wx S tk hc σ H P α Fr st ε r ev Q q
  cases x with
  | Subscript y z pos =>
    simp only [chkE, Bool.and_eq_true] at hc
    refine WE.of (pe_ix ix_any pe_W pe_W (chk_plainIx hc.2)) ?_
    unfold evE at q
    refine ha X c _ Wx S tk hc.1 σ H P α Fr st ε r ev _ (FitR.bind q fun x st1 vx H1 P1 α1 e1 a1 rx q1 => ?_)
    refine hb X c _ Wx S tk hc.2 σ H1 P1 α1 Fr st1 ε a1.rel (ev.mono a1.same a1.pre) _ (FitR.bind q1 fun y st2 vy H2 P2 α2 e2 a2 ry q2 => ?_)
    cases hz : ixU x y st2 with
    | none => rw [hz] at q2; exact q2.elim
    | some z =>
      rw [hz] at q2
      exact ix_sound S.hu a2.rel (rx.mono a2.same a2.pre) ry hz fun v H' P' α' b h => q2 v H' P' α' b h
  | _ => simp only [chkE, Bool.false_eq_true] at hc
abbrev slAny (X : Cx) : V → Option Int → Option Int → Hp → VK → Prop := fun x lo hi H Q => ∃ rr, SlR X rr ∧ rr x lo hi H Q
theorem sl_any {X : Cx} : SlR X (slAny X) := fun pins s σ H x v vl vu lo hi sl Q I rx hs pl pu ⟨rr, h1, h2⟩ => h1 pins s σ H x v vl vu lo hi sl Q I rx hs pl pu h2
/-- a part of a slice: left out, or one expression -/
def WO (X : Cx) (e : Option Expr) : TO := fun σ H Q => match e with
  | none => Q none H
  | some a => WE X a σ H fun x H1 => ∃ i, x = .int i ∧ Q (some i) H1
theorem po_W {X : Cx} {e : Option Expr} : PO X e (WO X e) := by
  cases e with
  | none => exact po_none
  | some a => exact po_some pe_W
/-- each expression of a list -/
def AllE (p : E → Prop) : Es → Prop
  | .nil => True
  | .cons e es => p e ∧ AllE p es
theorem sndEs_of : ∀ {es : Es}, AllE (SndE G W k cl) es → SndEs G W k cl es
  | .nil, _ => snd_nil
  | .cons _ _, h => snd_cons h.1 (sndEs_of h.2)
theorem part_of {es : Es} (hs : AllE (SndE G W k cl) es) {X : Cx} {c : Ct} {o : Option Expr} {Wx : WX} (S : Sta G cl k X c) (tk : Takes X Wx) (hc : chkEs G c es o.toList = true)
    {σ : L2.St} {H P : Hp} {α : List Addr} {Fr : Hp} {st : Store} {ε : Env} (r : Rel X.K P α Fr st H) (ev : EnvOk X.K P α σ ε) {Q : Option Int → Hp → Prop}
    (q : FitR X.K G cl P α Fr (fun v d H' => Wx v d σ H') (fun _ _ v u => v = u) ((evEs G (cpK G W k) (cmK G W k) es ε st).bind partI) Q) : WO X o σ H Q := by
  cases o with
  | none =>
    cases es with
    | cons e es => simp [chkEs] at hc
    | nil =>
      unfold evEs at q
      exact q none _ _ _ (Aft.refl r) rfl
  | some a =>
    cases es with
    | nil => simp [chkEs] at hc
    | cons e es =>
      cases es with
      | cons e2 es2 => simp [chkEs] at hc
      | nil =>
        simp only [Option.toList, chkEs, Bool.and_true] at hc
        unfold WO
        refine hs.1 X c _ Wx S tk hc σ H P α Fr st ε r ev _ ?_
        unfold evEs evEs at q
        cases hr : evE G (cpK G W k) (cmK G W k) e ε st with
        | ok u st1 =>
          rw [hr] at q
          cases u with
          | m n => exact q.elim
          | d x =>
            cases x with
            | int i =>
              intro v H' P' α' b h
              cases h with | d h =>
              cases h
              exact ⟨i, rfl, q (some i) H' P' α' b rfl⟩
            | _ => exact q.elim
        | exc c x st1 => rw [hr] at q; exact q
        | stuck => rw [hr] at q; exact q
theorem snd_slice {a : E} {lo hi : Es} (ha : SndE G W k cl a) (hl : AllE (SndE G W k cl) lo) (hh : AllE (SndE G W k cl) hi) : SndE G W k cl (.slice a lo hi) := by
  intro X c x Wx S tk hc σ H P α Fr st ε r ev Q q
  cases x with
  | Subscript y z pos =>
    cases z with
    | Slice l h s p2 =>
      cases s with
      | some s => simp only [chkE, Bool.false_eq_true] at hc
      | none =>
        simp only [chkE, Bool.and_eq_true] at hc
        obtain ⟨⟨h1, h2⟩, h3⟩ := hc
        refine WE.of (pe_slice sl_any pe_W po_W po_W) ?_
        unfold evE at q
        refine ha X c _ Wx S tk h1 σ H P α Fr st ε r ev _ (FitR.bind q fun x st1 vx H1 P1 α1 e1 a1 rx q1 => ?_)
        refine part_of hl S tk h2 a1.rel (ev.mono a1.same a1.pre) (FitR.bind q1 fun l st2 vl H2 P2 α2 e2 a2 rl q2 => ?_)
        refine part_of hh S tk h3 a2.rel ((ev.mono a1.same a1.pre).mono a2.same a2.pre) (FitR.bind q2 fun h st3 vh H3 P3 α3 e3 a3 rh q3 => ?_)
        subst rl rh
        cases hz : slU x vl vh st3 with
        | none => rw [hz] at q3; exact q3.elim
        | some z =>
          rw [hz] at q3
          exact sl_sound a3.rel ((rx.mono a2.same a2.pre).mono a3.same a3.pre) hz fun v H' P' α' b h => q3 v H' P' α' b h
    | _ => simp only [chkE, Bool.false_eq_true] at hc
  | _ => simp only [chkE, Bool.false_eq_true] at hc

/-! ### calls of defs -/
theorem call_part {X : Cx} {c : Ct} {f : Nat} {F : Fn} {Wx : WX} (S : Sta G cl k X c) (tk : Takes X Wx) (e : G.fns[f]? = some F) {a : Addr} {fd : FuncData} (FG : FnG X.prog X.w X.K X.mg X.base k a fd F.ps (spec X.K G cl k f F.ps))
    (hB : ∀ j, j ≤ F.dfl.length → ∃ (ds : List Value) (vs : List V), Binds X.K fd F.ps ds ∧ Vals vs ds ∧ RepAll X.K (fun _ => none) vs (F.dfl.drop (F.dfl.length - j)))
    {σ : L2.St} {P : Hp} {α : List Addr} {Fr : Hp} {st1 : Store} {H1 : Hp} {us : List U} {vs : List V} {Q : VK} (r1 : Rel X.K P α Fr st1 H1) (ru : RepUs X.K P α vs us)
    (q1 : FitR X.K G cl P α Fr (fun v d H' => Wx v d σ H') (RepU X.K) (callU G (cpK G W k) (cmK G W k) f us st1) Q)
    {pins : List (Addr × Obj)} {s : Shared} (I : Inv X pins σ H1 s) {ws : List Value} (rv : Vals vs ws) : wpAny (model X.prog X.w) X.A (call (.ref a) ws) (EP X pins σ Q) X.xe s := by
  have hl := callU_len e q1
  have hl2 : us.length + (F.dfl.length - (F.dfl.length - (F.ps.length - us.length))) = F.ps.length := by
    have := hl
    unfold fill at this
    rw [List.length_append, List.length_map, List.length_drop] at this
    exact this
  obtain ⟨ds, dvs, b1, b2, b3⟩ := hB (F.ps.length - us.length) (by omega)
  have h5 : (ws ++ ds).length = F.ps.length := by
    have e1 := Paired.length ru
    have e2 := rv.length
    have e3 := b3.length
    have e4 := b2.length
    rw [List.length_drop] at e3
    rw [List.length_append]
    omega
  exact run_g FG S.room S.guards tk I (b1 s ws I.kIn h5) (rv.append b2) (call_spec e r1 hl ru b3 q1)
theorem snd_call {f : Nat} {es : Es} (hs : SndEs G W k cl es) : SndE G W k cl (.call f es) := by
  intro X c x Wx S tk hc σ H P α Fr st ε r ev Q q
  cases x with
  | Call fn xs kws pos =>
    cases fn with
    | Name n p =>
      cases kws with
      | cons kw kws => simp only [chkE, Bool.false_eq_true] at hc
      | nil =>
        simp only [chkE, Bool.and_eq_true] at hc
        obtain ⟨hf, hx⟩ := hc
        unfold chkF at hf
        simp only [Bool.and_eq_true] at hf
        obtain ⟨⟨⟨h1, h2⟩, h3⟩, h4⟩ := hf
        split at h1
        · rename_i F e
          have en := of_decide_eq_true h1
          subst en
          obtain ⟨a, fd, m1, m2, FG, hB, _⟩ := (S.fn f F e).ex
          unfold evE at q
          have args : WA X xs σ H (fun vs H1 => ∀ pins s (ws : List Value), Inv X pins σ H1 s → Vals vs ws → wpAny (model X.prog X.w) X.A (call (.ref a) ws) (EP X pins σ Q) X.xe s) := by
            refine hs X c _ Wx S tk hx σ H P α Fr st ε r ev _ (FitR.bind q fun us st1 vs H1 P1 α1 e1 a1 ru q1 => ?_)
            intro pins s ws I rv
            exact call_part S tk e FG hB a1.rel ru q1 I rv
          intro pins s I
          refine wpAny_Call_Name_kw (ld_glob I (S.gl h2) m1 ?_ (nm_of h3).1)
          cases xs with
          | nil =>
            have args0 := args pos pins s I
            cases es with
            | cons e' es' => simp [chkEs] at hx
            | nil =>
              unfold evEs at q
              exact PySem.W.callWith_K0 I.kIn m2 (call_part S tk e FG hB r .nil q I .nil)
          | cons y ys =>
            cases es with
            | nil => simp [chkEs] at hx
            | cons e' es' =>
              simp only [chkEs, Bool.and_eq_true] at hx
              refine PySem.W.callWith_K (h₀ := X.base) I.ok.mod.kin m2 (thn (args pos pins s I) fun us s1 ⟨vs, H1, I1, rv, q1⟩ => ⟨I1.kIn, ?_⟩) (star_cons (chk_ns hx.1)) (chkEs_plain hx.2 _ _)
              exact q1 pins s1 us I1 rv
        · cases h1
    | _ => simp only [chkE, Bool.false_eq_true] at hc
  | _ => simp only [chkE, Bool.false_eq_true] at hc
end
end Ev
end

section
set_option maxRecDepth 10000
set_option autoImplicit false
/-! EvI: calls with keywords, of built-in functions, of methods. -/
namespace Ev
open PySem PySem.Spec PyProof.Rows L2

theorem pick_rel {α β : Type} {F : α → β → Prop} {xs : List α} {ys : List β} (h : Paired F xs ys) : ∀ {js : List Nat} {vs : List β}, pick ys js = some vs → ∃ us, pick xs js = some us ∧ Paired F us vs
  | [], vs, e => by
    cases e
    exact ⟨[], rfl, .nil⟩
  | j :: js, vs, e => by
    unfold pick at e
    split at e
    · rename_i b r e1 e2
      cases e
      obtain ⟨us, h1, h2⟩ := pick_rel h e2
      obtain ⟨a, h3, h4⟩ := pget h e1
      exact ⟨a :: us, by unfold pick; rw [h3, h1], .cons h4 h2⟩
    · cases e
theorem pick_rel' {α β : Type} {F : α → β → Prop} {xs : List α} {ys : List β} (h : Paired F xs ys) : ∀ {js : List Nat} {us : List α}, pick xs js = some us → ∃ vs, pick ys js = some vs ∧ Paired F us vs
  | [], us, e => by
    cases e
    exact ⟨[], rfl, .nil⟩
  | j :: js, us, e => by
    unfold pick at e
    split at e
    · rename_i b r e1 e2
      cases e
      obtain ⟨vs, h1, h2⟩ := pick_rel' h e2
      obtain ⟨a, h3, h4⟩ := pget' h e1
      exact ⟨a :: vs, by unfold pick; rw [h3, h1], .cons h4 h2⟩
    · cases e
theorem pick_len {α : Type} {us : List α} : ∀ {js : List Nat} {vs : List α}, pick us js = some vs → vs.length = js.length
  | [], vs, e => by cases e; rfl
  | j :: js, vs, e => by
    unfold pick at e
    split at e
    · rename_i a r e1 e2
      cases e
      simp [pick_len e2]
    · cases e

section
variable {G : Gm} {W k : Nat} {cl : Nat → Value}
theorem kw_names {ps : List Str} : ∀ {ks : List Nat} {kws : List Keyword}, chkKw ps ks kws = true → ∀ (pos : Pos) (env : PySem.Env), (backToKw pos (keywordEach kws env)).all (·.1.isSome) = true ∧ (backToKw pos (keywordEach kws env)).filterMap (·.1) = ks.filterMap (ps[·]?) ∧ (backToKw pos (keywordEach kws env)).any (·.1.isNone) = false ∧ ks.length = kws.length
  | [], [], _, _, _ => ⟨rfl, rfl, rfl, rfl⟩
  | [], _ :: _, h, _, _ => by simp [chkKw] at h
  | _ :: _, [], h, _, _ => by simp [chkKw] at h
  | k :: ks, ⟨none, v, p⟩ :: r, h, _, _ => by simp [chkKw] at h
  | k :: ks, ⟨some n, v, p⟩ :: r, h, pos, env => by
    simp only [chkKw, Bool.and_eq_true] at h
    obtain ⟨h1, h2, h3, h4⟩ := kw_names h.2 pos env
    have e := isE_of h.1
    refine ⟨?_, ?_, ?_, by simp [h4]⟩
    · show (true && (backToKw pos (keywordEach r env)).all (·.1.isSome)) = true
      rw [h1]; rfl
    · rw [List.filterMap_cons, e]
      show n :: (backToKw pos (keywordEach r env)).filterMap (·.1) = _
      rw [h2]
    · show (false || (backToKw pos (keywordEach r env)).any (·.1.isNone)) = false
      rw [h3]; rfl
def SndKs (G : Gm) (W k : Nat) (cl : Nat → Value) (es : Es) : Prop := ∀ (X : Cx) (c : Ct) (kws : List Keyword) (Wx : WX), Sta G cl k X c → Takes X Wx → chkEs G c es (kwVals kws) = true → ∀ (σ : L2.St) (H P : Hp) (α : List Addr) (Fr : Hp) (st : Store) (ε : Env), Rel X.K P α Fr st H → EnvOk X.K P α σ ε → ∀ Q : List V → Hp → Prop,
  FitR X.K G cl P α Fr (fun v d H' => Wx v d σ H') (RepUs X.K) (evEs G (cpK G W k) (cmK G W k) es ε st) Q → WK X kws σ H Q
theorem sndKs_of : ∀ {es : Es}, AllE (SndE G W k cl) es → SndKs G W k cl es
  | .nil, _ => by
    intro X c as Wx S tk hc σ H P α Fr st ε r ev Q q
    cases as with
    | nil =>
      unfold evEs at q
      exact WK.of pk_nil (q _ _ _ _ (Aft.refl r) .nil)
    | cons kw r => obtain ⟨n, v, p⟩ := kw; simp [kwVals, chkEs] at hc
  | .cons e es, h => by
    intro X c as Wx S tk hc σ H P α Fr st ε r ev Q q
    cases as with
    | nil => simp [kwVals, chkEs] at hc
    | cons kw kws =>
      obtain ⟨n, v, p⟩ := kw
      simp only [kwVals, chkEs, Bool.and_eq_true] at hc
      refine WK.of (pk_cons pe_W pk_W) ?_
      unfold evEs at q
      refine h.1 X c _ Wx S tk hc.1 σ H P α Fr st ε r ev _ (FitR.bind q fun u st1 v H1 P1 α1 e1 a1 rx q1 => ?_)
      refine sndKs_of h.2 X c _ Wx S tk hc.2 σ H1 P1 α1 Fr st1 ε a1.rel (ev.mono a1.same a1.pre) _ (FitR.bind q1 fun us st2 vs H2 P2 α2 e2 a2 ry q2 => ?_)
      exact q2 _ _ _ _ (Aft.refl a2.rel) (.cons (rx.mono a2.same a2.pre) ry)
theorem evEs_len : ∀ {es : Es} {ε : Env} {st st1 : Store} {us : List U} {xs : List Expr} {c : Ct}, chkEs G c es xs = true → evEs G (cpK G W k) (cmK G W k) es ε st = .ok us st1 → us.length = xs.length
  | .nil, ε, st, st1, us, [], c, _, e => by unfold evEs at e; cases e; rfl
  | .nil, ε, st, st1, us, _ :: _, c, h, e => by simp [chkEs] at h
  | .cons _ _, ε, st, st1, us, [], c, h, e => by simp [chkEs] at h
  | .cons a es, ε, st, st1, us, x :: xs, c, h, e => by
    simp only [chkEs, Bool.and_eq_true] at h
    unfold evEs at e
    cases h1 : evE G (cpK G W k) (cmK G W k) a ε st with
    | ok u st2 =>
      rw [h1] at e
      simp only [R.bind] at e
      cases h2 : evEs G (cpK G W k) (cmK G W k) es ε st2 with
      | ok us' st3 =>
        rw [h2] at e
        cases e
        simp [evEs_len h.2 h2]
      | exc => rw [h2] at e; cases e
      | stuck => rw [h2] at e; cases e
    | exc => rw [h1] at e; cases e
    | stuck => rw [h1] at e; cases e
theorem kwVals_len : ∀ kws : List Keyword, (kwVals kws).length = kws.length
  | [] => rfl
  | ⟨_, _, _⟩ :: r => by simp [kwVals, kwVals_len r]
theorem snd_callK {f : Nat} {ks js : List Nat} {es : Es} (hs : SndKs G W k cl es) : SndE G W k cl (.callK f ks js es) := by
  intro X c x Wx S tk hc σ H P α Fr st ε r ev Q q
  cases x with
  | Call fn xs kws pos =>
    cases fn with
    | Name n p =>
      cases xs with
      | cons y ys => simp only [chkE, Bool.false_eq_true] at hc
      | nil =>
        simp only [chkE, Bool.and_eq_true] at hc
        obtain ⟨⟨hf, hk⟩, hx⟩ := hc
        unfold chkF at hf
        simp only [Bool.and_eq_true] at hf
        obtain ⟨⟨⟨h1, h2⟩, h3⟩, h4⟩ := hf
        split at h1
        · rename_i F e
          rw [e] at hk
          simp only [Bool.and_eq_true] at hk
          obtain ⟨⟨hk1, hk2⟩, hk3⟩ := hk
          have hk3 := of_decide_eq_true hk3
          have en := of_decide_eq_true h1
          subst en
          obtain ⟨a, fd, m1, m2, FG, _, hK⟩ := (S.fn f F e).ex
          obtain ⟨k1, k2, k3, k4⟩ := kw_names hk1 pos X.env
          unfold evE at q
          intro pins s I
          refine wpAny_Call_Name_kw (ld_glob I (S.gl h2) m1 ?_ (nm_of h3).1)
          have hp := hK (ks, js) (by simpa using hk2)
          have run : WK X kws σ H (fun vs H1 => ∀ pins s (ws : List Value), Inv X pins σ H1 s → Vals vs ws → wpAny (model X.prog X.w) X.A (call (.ref a) ([] ++ []) ((ks.filterMap (F.ps[·]?)).zip ws)) (EP X pins σ Q) X.xe s) := by
            refine hs X c _ Wx S tk hx σ H P α Fr st ε r ev _ (FitR.bind q fun us st1 vs H1 P1 α1 e1 a1 ru q1 => ?_)
            intro pins s ws I rv
            split at q1
            · rename_i us' hus
              obtain ⟨vs', p1, p2⟩ := pick_rel ru hus
              obtain ⟨ws', p3, p4⟩ := pick_rel' rv p1
              have hl := callU_len e q1
              have hlen : us'.length = F.ps.length := by rw [pick_len hus]; exact hk3
              have full := fill_full hlen
              have hw : ws.length = ks.length := by
                rw [k4, ← kwVals_len kws, ← evEs_len hx e1, ← Paired.length ru, rv.length]
              have z := call_spec (dvs := []) e a1.rel hl p2 (by rw [hlen, Nat.sub_self, Nat.sub_zero, List.drop_length]; exact .nil) q1
              rw [List.append_nil] at z
              exact run_g FG S.room S.guards tk I (hp s ws ws' I.kIn hw p3) p4 z
            · exact q1.elim
          refine PySem.W.callWith_KW0 (h₀ := X.base) I.ok.mod.kin m2 k1 (thn (run pos pins s I) fun ws s2 ⟨zs, H2, I2, rz, q2⟩ => ⟨I2.kIn, ?_⟩) (by rw [k3]; rfl)
          rw [k2]
          exact q2 pins s2 ws I2 rz
        · cases h1
    | _ => simp only [chkE, Bool.false_eq_true] at hc
  | _ => simp only [chkE, Bool.false_eq_true] at hc

/-! ### built-in functions -/
theorem boot_bf (b : Bf) : bootBuiltins (bfName b) = some (bfVal b) ∧ bfName b ≠ ("__name__" : Str) ∧ (bfName b == ("__debug__" : Str)) = false := by
  cases b with
  | list mu =>
    show bootBuiltins ("list" : Str) = some (.type "list") ∧ ("list" : Str) ≠ ("__name__" : Str) ∧ (("list" : Str) == ("__debug__" : Str)) = false
    exact ⟨by decide +kernel, by decide, by decide⟩
  | _ => exact ⟨by decide +kernel, by decide, by decide⟩
theorem boot_ty (t : Ty) : bootBuiltins (Str.ofString t.name) = some (.type t.name) ∧ Str.ofString t.name ≠ ("__name__" : Str) ∧ (Str.ofString t.name == ("__debug__" : Str)) = false := by
  cases t <;> exact ⟨by decide +kernel, by decide, by decide⟩
theorem we_callV {X : Cx} {x : Str} {p pos : Pos} {e : Expr} {es : List Expr} {t : TA} {v : Value} {rr : List V → Hp → VK → Prop} (hv : (∃ id, v = .builtin id) ∨ ∃ T, v = .type T) (hc : CallR X v rr) (hg : Gl X x) (hm : X.mg x = none) (hb : bootBuiltins x = some v) (ha : PA X (e :: es) t)
    (hn : x ≠ ("__name__" : Str)) (hd : (x == ("__debug__" : Str)) = false) (he : starEach (e :: es) X.env = (false, eval e X.env) :: starEach es X.env) (hpl : (backTo pos (starEach es X.env)).any (·.1) = false) : PE X (.Call (.Name x p) (e :: es) [] pos) (tCB rr t) := by
  rcases hv with ⟨id, rfl⟩ | ⟨T, rfl⟩
  · exact pe_callB hc hg hm hb ha hn hd he hpl
  · exact pe_callTy hc hg hm hb ha hn hd he hpl
abbrev callAny (X : Cx) (v : Value) : List V → Hp → VK → Prop := fun vs H Q => ∃ rr, CallR X v rr ∧ rr vs H Q
theorem call_any {X : Cx} {v : Value} : CallR X v (callAny X v) := fun pins s σ H xs us Q I r ⟨rr, h1, h2⟩ => h1 pins s σ H xs us Q I r h2
theorem snd_bcall {b : Bf} {es : Es} (hs : AllE (SndE G W k cl) es) : SndE G W k cl (.bcall b es) := by
  intro X c x Wx S tk hc σ H P α Fr st ε r ev Q q
  cases x with
  | Call fn xs kws pos =>
    cases fn with
    | Name n p =>
      cases kws with
      | cons kw kws => simp only [chkE, Bool.false_eq_true] at hc
      | nil =>
        simp only [chkE, Bool.and_eq_true, decide_eq_true_eq, List.contains_eq_mem] at hc
        obtain ⟨⟨⟨⟨hn, hx⟩, hg⟩, hm⟩, hc⟩ := hc
        cases xs with
        | nil => exact absurd rfl hx
        | cons y ys =>
          cases es with
          | nil => simp [chkEs] at hc
          | cons e es =>
            have hc2 := hc
            simp only [chkEs, Bool.and_eq_true] at hc2
            obtain ⟨b1, b2, b3⟩ := boot_bf b
            subst hn
            refine WE.of (we_callV (v := bfVal b) (by cases b <;> first | exact .inl ⟨_, rfl⟩ | exact .inr ⟨_, rfl⟩) call_any (S.gl hg) (S.bt _ hm) b1 pa_W b2 b3 (star_cons (chk_ns hc2.1)) (chkEs_plain hc2.2 _ _)) ?_
            unfold evE at q
            refine sndEs_of hs X c _ Wx S tk hc σ H P α Fr st ε r ev _ (FitR.bind q fun us st1 vs H1 P1 α1 e1 a1 ru q1 => ?_)
            exact bf_sound S.calm S.guards S.hu a1.rel ru q1
    | _ => simp only [chkE, Bool.false_eq_true] at hc
  | _ => simp only [chkE, Bool.false_eq_true] at hc
theorem snd_isty {t : Ty} {e : E} (he : SndE G W k cl e) : SndE G W k cl (.isty t e) := by
  intro X c x Wx S tk hc σ H P α Fr st ε r ev Q q
  cases x with
  | Call fn xs kws pos =>
    cases fn with
    | Name n p =>
      rcases xs with _ | ⟨y, _ | ⟨z, _ | ⟨z2, xs⟩⟩⟩ <;> first | (simp only [chkE, Bool.false_eq_true] at hc; done) | skip
      cases z with
      | Name m p2 =>
        cases kws with
        | cons kw kws => simp only [chkE, Bool.false_eq_true] at hc
        | nil =>
          simp only [chkE, Bool.and_eq_true, decide_eq_true_eq, List.contains_eq_mem] at hc
          obtain ⟨⟨⟨⟨⟨⟨hn, hg⟩, hm⟩, hy⟩, ht⟩, hg2⟩, hm2⟩ := hc
          subst hn ht
          obtain ⟨b1, b2, b3⟩ := boot_ty t
          refine WE.of (pe_callB call_any (S.gl hg) (S.bt _ hm) boot_isinstance (pa_cons pe_W (pa_cons pe_W pa_nil) (star_cons (chk_ns hy))) (by decide) (by decide) (star_cons (chk_ns hy)) rfl) ?_
          unfold evE at q
          refine he X c _ Wx S tk hy σ H P α Fr st ε r ev _ (FitR.bind q fun u st1 v H1 P1 α1 e1 a1 rx q1 => ?_)
          split at q1
          · rename_i x
            cases rx with | d rx =>
            cases hb : isTy t.name x with
            | none => rw [hb] at q1; exact q1.elim
            | some bb =>
              rw [hb] at q1
              refine WE.of (pe_bltn (v := .ty t.name) (u := .type t.name) (S.gl hg2) (S.bt _ hm2) b1 rfl b2 b3) ?_
              exact isty_sound a1.rel rx hb (q1 _ _ _ _ (Aft.refl a1.rel) (.d (.bl _)))
          · exact q1.elim
      | _ => simp only [chkE, Bool.false_eq_true] at hc
    | _ => simp only [chkE, Bool.false_eq_true] at hc
  | _ => simp only [chkE, Bool.false_eq_true] at hc

/-! ### methods of built-in types -/
theorem snd_meth0 {m : M0} {o : E} (ho : SndE G W k cl o) : SndE G W k cl (.meth0 m o) := by
  intro X c x Wx S tk hc σ H P α Fr st ε r ev Q q
  cases x with
  | Call fn xs kws cpos =>
    cases fn with
    | Attribute y n apos =>
      cases xs with
      | cons z zs => simp only [chkE, Bool.false_eq_true] at hc
      | nil =>
        cases kws with
        | cons kw kws => simp only [chkE, Bool.false_eq_true] at hc
        | nil =>
          simp only [chkE, Bool.and_eq_true, decide_eq_true_eq] at hc
          obtain ⟨⟨hn, hl⟩, hy⟩ := hc
          subst hn
          unfold evE at q
          cases m with
          | pop =>
            refine WE.of (pe_bm0 PySem.F.plainAttrs_list PySem.F.slot_list_pop PySem.F.type_list_pop mt_pop pe_W (chk_base hy _ _) hl) ?_
            refine ho X c _ Wx S tk hy σ H P α Fr st ε r ev _ (FitR.bind q fun u st1 v H1 P1 α1 e1 a1 rx q1 => ?_)
            cases u with
            | d x => exact q1.elim
            | m n =>
              cases rx with | m rx =>
              simp only [m0D] at q1
              split at q1
              · rename_i us hus
                obtain ⟨_, _, vs, c3, c4⟩ := a1.rel.cell _ _ _ rx hus
                split at q1
                · rename_i w hw
                  obtain ⟨vw, h1, h2⟩ := pget c4 hw
                  have hlen := Paired.length c4
                  exact ⟨.inl ⟨rfl, _, .inl (.inl c3)⟩, _, _, _, rfl, rfl, c3, by rw [hlen]; exact h1, q1 _ _ _ _ (a1.rel.put rx hus (pdropLast c4)) h2⟩
                · exact q1.elim
              · exact q1.elim
    | _ => simp only [chkE, Bool.false_eq_true] at hc
  | _ => simp only [chkE, Bool.false_eq_true] at hc
theorem snd_meth1 {m : M1} {o a : E} (ho : SndE G W k cl o) (ha : SndE G W k cl a) : SndE G W k cl (.meth1 m o a) := by
  intro X c x Wx S tk hc σ H P α Fr st ε r ev Q q
  cases x with
  | Call fn xs kws cpos =>
    cases fn with
    | Attribute y n apos =>
      rcases xs with _ | ⟨z, _ | ⟨z2, zs⟩⟩ <;> first | (simp only [chkE, Bool.false_eq_true] at hc; done) | skip
      cases kws with
      | cons kw kws => simp only [chkE, Bool.false_eq_true] at hc
      | nil =>
        simp only [chkE, Bool.and_eq_true, decide_eq_true_eq] at hc
        obtain ⟨⟨⟨hn, hl⟩, hy⟩, hz⟩ := hc
        subst hn
        unfold evE at q
        have few : ((backTo cpos (starEach [z] X.env)).all (fun x => !x.1) && (backToKw cpos (keywordEach [] X.env)).all (fun x => x.1.isSome) && decide (([z] : List Expr).length + ([] : List Keyword).length + (if ([] : List Keyword).isEmpty then 0 else 1) < 30)) = true := by
          rw [star_cons (chk_ns hz)]; rfl
        cases m with
        | append =>
          refine WE.of (pe_bm PySem.F.plainAttrs_list PySem.F.slot_list_append PySem.F.type_list_append mt_append pe_W (pa_cons pe_W pa_nil (star_cons (chk_ns hz))) (chk_base hy _ _) few hl (star_cons (chk_ns hz)) rfl) ?_
          refine ho X c _ Wx S tk hy σ H P α Fr st ε r ev _ (FitR.bind q fun u st1 v H1 P1 α1 e1 a1 rx q1 => ?_)
          split at q1
          · rename_i ok
            cases u with
            | d x => cases ok
            | m n =>
              simp only [r1Ok] at ok
              split at ok
              · rename_i us0 h0
                have rx0 := rx
                cases rx with | m rx =>
                obtain ⟨_, _, vs0, c3, _⟩ := a1.rel.cell _ _ _ rx h0
                refine ⟨.inl ⟨rfl, _, .inl (.inl c3)⟩, ?_⟩
                refine ha X c _ Wx S tk hz σ H1 P1 α1 Fr st1 ε a1.rel (ev.mono a1.same a1.pre) _ (FitR.bind q1 fun w st2 vw H2 P2 α2 e2 a2 rw q2 => ?_)
                have rx2 := rx0.mono a2.same a2.pre
                cases rx2 with | m rx2 =>
                simp only [m1D] at q2
                split at q2
                · rename_i us hus
                  obtain ⟨_, _, vs, d3, d4⟩ := a2.rel.cell _ _ _ rx2 hus
                  split at q2
                  · rename_i hlt
                    exact ⟨_, _, _, rfl, rfl, d3, by rw [Paired.length d4, ← sizeMax_eq]; exact hlt, q2 _ _ _ _ (a2.rel.put rx2 hus (pappend d4 (.cons rw .nil))) (.d .non)⟩
                  · exact q2.elim
                · exact q2.elim
              · cases ok
          · exact q1.elim
    | _ => simp only [chkE, Bool.false_eq_true] at hc
  | _ => simp only [chkE, Bool.false_eq_true] at hc
end
end Ev
end

section
set_option maxRecDepth 10000
set_option autoImplicit false
/-! EvJ: what loops walk; targets; comprehensions. -/
namespace Ev
open PySem PySem.Spec PyProof.Rows L2

/-- J yields just these items, in their order -/
structure Walk (K : PySem.W.Frag) (P1 : Hp) (J : It) (items : List U) : Prop where
  go : ∀ (i : Nat) (u : U) (H P : Hp) (α : List Addr) (Fr : Hp) (st : Store), items[i]? = some u → Same P1 P → Rel K P α Fr st H → J.go i H ∧ ∀ x H', J.yld i H x H' → ∃ P', Aft K P α Fr st H' P' α ∧ RepU K P' α x u
  stop : ∀ (H P : Hp) (α : List Addr) (Fr : Hp) (st : Store), Same P1 P → Rel K P α Fr st H → J.stop items.length H

section
variable {K : PySem.W.Frag} {P1 : Hp}
theorem walk_list {a : Addr} {vs : List V} {ds : List D} (h : SqL K P1 a vs) (r : RepAll K P1 vs ds) : Walk K P1 (Itl K a) (ds.map .d) := by
  refine ⟨fun i u H P α Fr st e s rel => ?_, fun H P α Fr st s rel => ⟨vs, (Same.sql (Same.trans s rel.sub) h), by rw [r.length, List.length_map]; exact Nat.le_refl _⟩⟩
  rw [List.getElem?_map, Option.map_eq_some_iff] at e
  obtain ⟨d, e, rfl⟩ := e
  obtain ⟨v, e1, e2⟩ := r.get e
  have hq := (Same.sql (Same.trans s rel.sub) h)
  refine ⟨⟨vs, v, hq, e1⟩, fun x H' y => ?_⟩
  obtain ⟨rfl, y⟩ := y
  have ex : x = v := Option.some.inj ((y vs hq).symm.trans e1)
  subst ex
  exact ⟨P, Aft.refl rel, .d (e2.mono s)⟩
theorem walk_tup {a : Addr} {vs : List V} {ds : List D} (h : SqT K P1 a vs) (r : RepAll K P1 vs ds) : Walk K P1 (Itt K a) (ds.map .d) := by
  refine ⟨fun i u H P α Fr st e s rel => ?_, fun H P α Fr st s rel => ⟨vs, (Same.sqt (Same.trans s rel.sub) h), by rw [r.length, List.length_map]; exact Nat.le_refl _⟩⟩
  rw [List.getElem?_map, Option.map_eq_some_iff] at e
  obtain ⟨d, e, rfl⟩ := e
  obtain ⟨v, e1, e2⟩ := r.get e
  have hq := (Same.sqt (Same.trans s rel.sub) h)
  refine ⟨⟨vs, v, hq, e1⟩, fun x H' y => ?_⟩
  obtain ⟨rfl, y⟩ := y
  have ex : x = v := Option.some.inj ((y vs hq).symm.trans e1)
  subst ex
  exact ⟨P, Aft.refl rel, .d (e2.mono s)⟩
theorem walk_str {s : Str} : Walk K P1 (Its s) (s.cps.toList.map fun c => .d (.str ⟨#[c]⟩)) := by
  refine ⟨fun i u H P α Fr st e _ rel => ?_, fun H P α Fr st _ rel => by show s.cps.size ≤ _; simp⟩
  rw [List.getElem?_map, Option.map_eq_some_iff] at e
  obtain ⟨c, e, rfl⟩ := e
  have e' : s.cps[i]? = some c := by rw [← Array.getElem?_toList]; exact e
  refine ⟨by show i < s.cps.size; exact (Array.getElem?_eq_some_iff.mp e').1, fun x H' y => ?_⟩
  obtain ⟨rfl, c', e2, rfl⟩ := y
  rw [e'] at e2; cases e2
  exact ⟨P, Aft.refl rel, .d (.str _)⟩
theorem rangeU_get : ∀ (n : Nat) (lo : Int) (i : Nat) (u : U), (rangeU lo n)[i]? = some u → i < n ∧ u = .d (.int (lo + i))
  | 0, _, _, _, e => by simp [rangeU] at e
  | n + 1, lo, 0, u, e => by
    simp [rangeU] at e
    exact ⟨Nat.succ_pos _, by rw [← e]; simp⟩
  | n + 1, lo, i + 1, u, e => by
    obtain ⟨h1, h2⟩ := rangeU_get n (lo + 1) i u (by simpa [rangeU] using e)
    exact ⟨Nat.succ_lt_succ h1, by rw [h2]; congr 2; omega⟩
theorem rangeU_len : ∀ (n : Nat) (lo : Int), (rangeU lo n).length = n
  | 0, _ => rfl
  | n + 1, lo => by simp [rangeU, rangeU_len n]
theorem walk_range {lo : Int} {n : Nat} : Walk K P1 (Itr lo n) (rangeU lo n) := by
  refine ⟨fun i u H P α Fr st e _ rel => ?_, fun H P α Fr st _ rel => by show n ≤ _; rw [rangeU_len]; exact Nat.le_refl _⟩
  obtain ⟨h1, rfl⟩ := rangeU_get n lo i u e
  refine ⟨h1, fun x H' y => ?_⟩
  obtain ⟨rfl, rfl⟩ := y
  exact ⟨P, Aft.refl rel, .d (.int _)⟩
theorem enumD_get : ∀ (ds : List D) (n i : Nat) (x : D), (enumD n ds)[i]? = some x → ∃ d, ds[i]? = some d ∧ x = .tuple [.int (n + i : Nat), d]
  | [], _, _, _, e => by simp [enumD] at e
  | d :: ds, n, 0, x, e => by
    simp [enumD] at e
    exact ⟨d, rfl, by rw [← e]; rfl⟩
  | d :: ds, n, i + 1, x, e => by
    obtain ⟨d', h1, h2⟩ := enumD_get ds (n + 1) i x (by simpa [enumD] using e)
    exact ⟨d', by simpa using h1, by rw [h2]; congr 4; omega⟩
theorem enumD_len : ∀ (ds : List D) (n : Nat), (enumD n ds).length = ds.length
  | [], _ => rfl
  | d :: ds, n => by simp [enumD, enumD_len ds]
theorem walk_enum {a : Addr} {vs : List V} {ds : List D} (h : SqL K P1 a vs) (r : RepAll K P1 vs ds) : Walk K P1 (Ite K a) ((enumD 0 ds).map .d) := by
  refine ⟨fun i u H P α Fr st e s rel => ?_, fun H P α Fr st s rel => ⟨vs, (Same.sql (Same.trans s rel.sub) h), by rw [r.length, List.length_map, enumD_len]; exact Nat.le_refl _⟩⟩
  rw [List.getElem?_map, Option.map_eq_some_iff] at e
  obtain ⟨d0, e, rfl⟩ := e
  obtain ⟨d, e0, rfl⟩ := enumD_get ds 0 i d0 e
  obtain ⟨v, e1, e2⟩ := r.get e0
  have hq := (Same.sql (Same.trans s rel.sub) h)
  refine ⟨⟨vs, v, hq, e1⟩, fun x H' y => ?_⟩
  obtain ⟨T, w, rfl, hT, rfl, y⟩ := y
  have ex : w = v := Option.some.inj ((y vs hq).symm.trans e1)
  subst ex
  refine ⟨_, rel.new hT _, .d ?_⟩
  rw [Nat.zero_add]
  exact rep_tup (sq_up (rel.sub.free hT)) (.cons (.int _) (.cons (e2.mono s) .nil))
theorem zipD_get : ∀ (xs ys : List D) (i : Nat) (x : D), (zipD xs ys)[i]? = some x → ∃ a b, xs[i]? = some a ∧ ys[i]? = some b ∧ x = .tuple [a, b]
  | [], _, _, _, e => by simp [zipD] at e
  | _ :: _, [], _, _, e => by simp [zipD] at e
  | a :: xs, b :: ys, 0, x, e => by
    simp [zipD] at e
    exact ⟨a, b, rfl, rfl, e.symm⟩
  | a :: xs, b :: ys, i + 1, x, e => by
    obtain ⟨a', b', h1, h2, h3⟩ := zipD_get xs ys i x (by simpa [zipD] using e)
    exact ⟨a', b', by simpa using h1, by simpa using h2, h3⟩
theorem zipD_len : ∀ (xs ys : List D), (zipD xs ys).length = min xs.length ys.length
  | [], _ => by simp [zipD]
  | _ :: _, [] => by simp [zipD]
  | a :: xs, b :: ys => by simp [zipD, zipD_len xs ys]
theorem walk_zip {a b : Addr} {vs ws : List V} {ds es : List D} (h : SqL K P1 a vs) (h2 : SqL K P1 b ws) (r : RepAll K P1 vs ds) (r2 : RepAll K P1 ws es) : Walk K P1 (Itz K a b) ((zipD ds es).map .d) := by
  refine ⟨fun i u H P α Fr st e s rel => ?_, fun H P α Fr st s rel => ⟨vs, ws, (Same.sql (Same.trans s rel.sub) h), (Same.sql (Same.trans s rel.sub) h2), by rw [r.length, r2.length, List.length_map, zipD_len]; omega⟩⟩
  rw [List.getElem?_map, Option.map_eq_some_iff] at e
  obtain ⟨d0, e, rfl⟩ := e
  obtain ⟨da, db, ea, eb, rfl⟩ := zipD_get ds es i d0 e
  obtain ⟨v, e1, e2⟩ := r.get ea
  obtain ⟨w, e3, e4⟩ := r2.get eb
  have hq := (Same.sql (Same.trans s rel.sub) h)
  have hq2 := (Same.sql (Same.trans s rel.sub) h2)
  refine ⟨⟨vs, ws, v, w, hq, hq2, e1, e3⟩, fun x H' y => ?_⟩
  obtain ⟨T, x1, x2, rfl, hT, rfl, y1, y2⟩ := y
  have ex : x1 = v := Option.some.inj ((y1 vs hq).symm.trans e1)
  have ex2 : x2 = w := Option.some.inj ((y2 ws hq2).symm.trans e3)
  subst ex ex2
  exact ⟨_, rel.new hT _, .d (rep_tup (sq_up (rel.sub.free hT)) (.cons (e2.mono s) (.cons (e4.mono s) .nil)))⟩
theorem walk_zipT {a b : Addr} {vs ws : List V} {ds es : List D} (h : SqT K P1 a vs) (h2 : SqT K P1 b ws) (r : RepAll K P1 vs ds) (r2 : RepAll K P1 ws es) : Walk K P1 (RZ.ItzT K a b) ((zipD ds es).map .d) := by
  refine ⟨fun i u H P α Fr st e s rel => ?_, fun H P α Fr st s rel => ⟨vs, ws, (Same.sqt (Same.trans s rel.sub) h), (Same.sqt (Same.trans s rel.sub) h2), by rw [r.length, r2.length, List.length_map, zipD_len]; omega⟩⟩
  rw [List.getElem?_map, Option.map_eq_some_iff] at e
  obtain ⟨d0, e, rfl⟩ := e
  obtain ⟨da, db, ea, eb, rfl⟩ := zipD_get ds es i d0 e
  obtain ⟨v, e1, e2⟩ := r.get ea
  obtain ⟨w, e3, e4⟩ := r2.get eb
  have hq := (Same.sqt (Same.trans s rel.sub) h)
  have hq2 := (Same.sqt (Same.trans s rel.sub) h2)
  refine ⟨⟨vs, ws, v, w, hq, hq2, e1, e3⟩, fun x H' y => ?_⟩
  obtain ⟨T, x1, x2, rfl, hT, rfl, y1, y2⟩ := y
  have ex : x1 = v := Option.some.inj ((y1 vs hq).symm.trans e1)
  have ex2 : x2 = w := Option.some.inj ((y2 ws hq2).symm.trans e3)
  subst ex ex2
  exact ⟨_, rel.new hT _, .d (rep_tup (sq_up (rel.sub.free hT)) (.cons (e2.mono s) (.cons (e4.mono s) .nil)))⟩
end

section
variable {G : Gm} {W k : Nat} {cl : Nat → Value}
theorem star_one {c : Ct} {its : Es} {a : Expr} (hc : chkEs G c its [a] = true) (env : PySem.Env) : starEach [a] env = [(false, eval a env)] := by
  cases its with
  | nil => simp [chkEs] at hc
  | cons e es => simp only [chkEs, Bool.and_eq_true] at hc; rw [star_cons (chk_ns hc.1)]; rfl
theorem star_two {c : Ct} {its : Es} {a b : Expr} (hc : chkEs G c its [a, b] = true) (env : PySem.Env) : starEach [a, b] env = [(false, eval a env), (false, eval b env)] ∧ starEach [b] env = [(false, eval b env)] := by
  cases its with
  | nil => simp [chkEs] at hc
  | cons e es =>
    simp only [chkEs, Bool.and_eq_true] at hc
    have h2 := star_one hc.2 env
    exact ⟨by rw [star_cons (chk_ns hc.1), h2], h2⟩
theorem iter_sound {X : Cx} {c : Ct} {ik : Ik} {its : Es} {iter t : Expr} {Wx : WX} (S : Sta G cl k X c) (tk : Takes X Wx) (hsh : itShape ik iter t c.sc G.bts = true) (hc : chkEs G c its (itArgs ik iter) = true) (hs : AllE (SndE G W k cl) its)
    {σ : L2.St} {H P : Hp} {α : List Addr} {Fr : Hp} {st : Store} {ε : Env} (r : Rel X.K P α Fr st H) (ev : EnvOk X.K P α σ ε) {Rr : It → Hp → Prop}
    (q : FitR X.K G cl P α Fr (fun v d H' => Wx v d σ H') (fun P' _ J items => Walk X.K P' J items) ((evEs G (cpK G W k) (cmK G W k) its ε st).bind fun us st1 => ofO (walkU ik us st1) st1) Rr) : WI X t iter σ H Rr := by
  cases ik with
  | val =>
    cases its with
    | nil => simp [itArgs, chkEs] at hc
    | cons e es =>
      cases es with
      | cons e2 es2 => simp [itArgs, chkEs] at hc
      | nil =>
        simp only [itArgs, chkEs, Bool.and_true] at hc
        unfold evEs evEs at q
        cases hr : evE G (cpK G W k) (cmK G W k) e ε st with
        | stuck => rw [hr] at q; exact q.elim
        | exc cc x st1 =>
          rw [hr] at q
          exact WI.of (pi_list pe_W) (hs.1 X c _ Wx S tk hc σ H P α Fr st ε r ev _ (by rw [hr]; exact q))
        | ok u st1 =>
          rw [hr] at q
          simp only [R.bind, walkU, wVal] at q
          cases u with
          | m n => exact q.elim
          | d x =>
            cases x with
            | list xs =>
              refine WI.of (pi_list pe_W) (hs.1 X c _ Wx S tk hc σ H P α Fr st ε r ev _ ?_)
              rw [hr]
              intro v H1 P1 α1 a1 rx
              cases rx with | d rx =>
              cases rx with | lst hl ra =>
              exact ⟨_, rfl, ⟨_, Same.sql a1.rel.sub hl⟩, q _ _ _ _ a1 (walk_list hl ra)⟩
            | tuple xs =>
              refine WI.of (pi_tup pe_W) (hs.1 X c _ Wx S tk hc σ H P α Fr st ε r ev _ ?_)
              rw [hr]
              intro v H1 P1 α1 a1 rx
              cases rx with | d rx =>
              cases rx with | tup hl ra =>
              exact ⟨_, rfl, ⟨_, Same.sqt a1.rel.sub hl⟩, q _ _ _ _ a1 (walk_tup hl ra)⟩
            | str s =>
              refine WI.of (pi_str pe_W) (hs.1 X c _ Wx S tk hc σ H P α Fr st ε r ev _ ?_)
              rw [hr]
              intro v H1 P1 α1 a1 rx
              cases rx with | d rx =>
              cases rx
              simp only [itemsU] at q
              split at q
              · exact ⟨_, rfl, q _ _ _ _ a1 walk_str⟩
              · exact q.elim
            | _ => exact q.elim
  | r1 =>
    cases iter with
    | Call fn as kws pos =>
      cases fn with
      | Name x p =>
        rcases as with _ | ⟨a, _ | ⟨a2, as⟩⟩ <;> first | (simp only [itShape, Bool.false_eq_true] at hsh; done) | skip
        cases kws with
        | cons kw kws => simp only [itShape, Bool.false_eq_true] at hsh
        | nil =>
          simp only [itShape, Bool.and_eq_true, decide_eq_true_eq, List.contains_eq_mem] at hsh
          obtain ⟨⟨rfl, hg⟩, hm⟩ := hsh
          simp only [itArgs] at hc
          have hst : starEach [a] X.env = [(false, eval a X.env)] := by
            cases its with
            | nil => simp [chkEs] at hc
            | cons e es => simp only [chkEs, Bool.and_eq_true] at hc; rw [star_cons (chk_ns hc.1)]; rfl
          refine WI.of (pi_range1 (S.gl hg) (S.bt _ hm) pa_W hst) ?_
          refine sndEs_of hs X c _ Wx S tk hc σ H P α Fr st ε r ev _ (FitR.bind q fun us st1 vs H1 P1 α1 e1 a1 ru q1 => ?_)
          cases hw : walkU .r1 us st1 with
          | none => rw [hw] at q1; exact q1.elim
          | some items =>
            rw [hw] at q1
            unfold walkU wR1 at hw
            simp only at hw
            split at hw
            · split at hw
              · rename_i hj
                cases hw
                obtain ⟨v, rfl, h⟩ := repus1 ru
                cases repd h
                exact ⟨_, rfl, hj.1, hj.2, q1 _ _ _ _ (Aft.refl a1.rel) walk_range⟩
              · cases hw
            · cases hw
      | _ => simp only [itShape, Bool.false_eq_true] at hsh
    | _ => simp only [itShape, Bool.false_eq_true] at hsh
  | r2 =>
    cases iter with
    | Call fn as kws pos =>
      cases fn with
      | Name x p =>
        rcases as with _ | ⟨a, _ | ⟨a2, _ | ⟨a3, as⟩⟩⟩ <;> first | (simp only [itShape, Bool.false_eq_true] at hsh; done) | skip
        cases kws with
        | cons kw kws => simp only [itShape, Bool.false_eq_true] at hsh
        | nil =>
          simp only [itShape, Bool.and_eq_true, decide_eq_true_eq, List.contains_eq_mem] at hsh
          obtain ⟨⟨rfl, hg⟩, hm⟩ := hsh
          simp only [itArgs] at hc
          obtain ⟨hst, hst2⟩ := star_two hc X.env
          refine WI.of (pi_range2 (S.gl hg) (S.bt _ hm) pa_W hst hst2) ?_
          refine sndEs_of hs X c _ Wx S tk hc σ H P α Fr st ε r ev _ (FitR.bind q fun us st1 vs H1 P1 α1 e1 a1 ru q1 => ?_)
          cases hw : walkU .r2 us st1 with
          | none => rw [hw] at q1; exact q1.elim
          | some items =>
            rw [hw] at q1
            unfold walkU wR2 at hw
            simp only at hw
            split at hw
            · split at hw
              · rename_i hj
                cases hw
                obtain ⟨v, w, rfl, h, h2⟩ := repus2 ru
                cases repd h
                cases repd h2
                exact ⟨_, _, rfl, hj, q1 _ _ _ _ (Aft.refl a1.rel) walk_range⟩
              · cases hw
            · cases hw
      | _ => simp only [itShape, Bool.false_eq_true] at hsh
    | _ => simp only [itShape, Bool.false_eq_true] at hsh
  | enum =>
    cases iter with
    | Call fn as kws pos =>
      cases fn with
      | Name x p =>
        rcases as with _ | ⟨a, _ | ⟨a2, as⟩⟩ <;> first | (simp only [itShape, Bool.false_eq_true] at hsh; done) | skip
        cases kws with
        | cons kw kws => simp only [itShape, Bool.false_eq_true] at hsh
        | nil =>
          simp only [itShape, Bool.and_eq_true, decide_eq_true_eq, List.contains_eq_mem] at hsh
          obtain ⟨⟨⟨rfl, hg⟩, hm⟩, ht⟩ := hsh
          cases t <;> first | cases ht | skip
          simp only [itArgs] at hc
          refine WI.of (pi_enum (S.gl hg) (S.bt _ hm) pa_W (star_one hc X.env)) ?_
          refine sndEs_of hs X c _ Wx S tk hc σ H P α Fr st ε r ev _ (FitR.bind q fun us st1 vs H1 P1 α1 e1 a1 ru q1 => ?_)
          cases hw : walkU .enum us st1 with
          | none => rw [hw] at q1; exact q1.elim
          | some items =>
            rw [hw] at q1
            unfold walkU wEnum at hw
            simp only at hw
            split at hw
            · cases hw
              obtain ⟨v, rfl, h⟩ := repus1 ru
              cases repd h with | lst hl ra =>
              exact ⟨_, _, rfl, Same.sql a1.rel.sub hl, q1 _ _ _ _ (Aft.refl a1.rel) (walk_enum hl ra)⟩
            · cases hw
      | _ => simp only [itShape, Bool.false_eq_true] at hsh
    | _ => simp only [itShape, Bool.false_eq_true] at hsh
  | zip =>
    cases iter with
    | Call fn as kws pos =>
      cases fn with
      | Name x p =>
        rcases as with _ | ⟨a, _ | ⟨a2, _ | ⟨a3, as⟩⟩⟩ <;> first | (simp only [itShape, Bool.false_eq_true] at hsh; done) | skip
        cases kws with
        | cons kw kws => simp only [itShape, Bool.false_eq_true] at hsh
        | nil =>
          simp only [itShape, Bool.and_eq_true, decide_eq_true_eq, List.contains_eq_mem] at hsh
          obtain ⟨⟨⟨rfl, hg⟩, hm⟩, ht⟩ := hsh
          cases t <;> first | cases ht | skip
          simp only [itArgs] at hc
          obtain ⟨hst, hst2⟩ := star_two hc X.env
          refine WI.of (RZ.pi_zipA (S.gl hg) (S.bt _ hm) pa_W (by rw [hst, hst2]) (by rw [hst2]; rfl)) ?_
          refine sndEs_of hs X c _ Wx S tk hc σ H P α Fr st ε r ev _ (FitR.bind q fun us st1 vs H1 P1 α1 e1 a1 ru q1 => ?_)
          cases hw : walkU .zip us st1 with
          | none => rw [hw] at q1; exact q1.elim
          | some items =>
            rw [hw] at q1
            unfold walkU wZip at hw
            simp only at hw
            split at hw
            · cases hw
              obtain ⟨v, w, rfl, h, h2⟩ := repus2 ru
              cases repd h with | lst hl ra =>
              cases repd h2 with | lst hl2 ra2 =>
              exact ⟨_, _, _, _, rfl, .inl ⟨Same.sql a1.rel.sub hl, Same.sql a1.rel.sub hl2, q1 _ _ _ _ (Aft.refl a1.rel) (walk_zip hl hl2 ra ra2)⟩⟩
            · cases hw
              obtain ⟨v, w, rfl, h, h2⟩ := repus2 ru
              cases repd h with | tup hl ra =>
              cases repd h2 with | tup hl2 ra2 =>
              exact ⟨_, _, _, _, rfl, .inr ⟨Same.sqt a1.rel.sub hl, Same.sqt a1.rel.sub hl2, q1 _ _ _ _ (Aft.refl a1.rel) (walk_zipT hl hl2 ra ra2)⟩⟩
            · cases hw
      | _ => simp only [itShape, Bool.false_eq_true] at hsh
    | _ => simp only [itShape, Bool.false_eq_true] at hsh
end
end Ev
end

section
set_option maxRecDepth 10000
set_option autoImplicit false
/-! EvK: targets by names; comprehensions. -/
namespace Ev
open PySem PySem.Spec PyProof.Rows L2

/-! ### wiping -/
theorem wipe_get (σ : L2.St) : ∀ (vs : List Nat) (j : Nat), (wipe σ vs)[j]? = if j ∈ vs then (σ[j]?).map (fun _ => none) else σ[j]?
  | [], j => by simp [wipe]
  | v :: vs, j => by
    unfold wipe
    rw [List.getElem?_set, wipe_get σ vs j, wipe_length]
    by_cases hv : v = j
    · subst hv
      rw [if_pos rfl, if_pos List.mem_cons_self]
      by_cases hl : v < σ.length
      · rw [if_pos hl, List.getElem?_eq_getElem hl]; rfl
      · rw [if_neg hl, List.getElem?_eq_none (by omega)]; rfl
    · rw [if_neg hv]
      by_cases hj : j ∈ vs
      · rw [if_pos hj, if_pos (List.mem_cons_of_mem _ hj)]
      · rw [if_neg hj, if_neg (by simp only [List.mem_cons, not_or]; exact ⟨fun e => hv e.symm, hj⟩)]
theorem wipe_same {σ τ : L2.St} {vs : List Nat} (hl : σ.length = τ.length) (h : ∀ j, j ∉ vs → σ[j]? = τ[j]?) : wipe σ vs = wipe τ vs := by
  refine List.ext_getElem? fun j => ?_
  rw [wipe_get, wipe_get]
  by_cases hj : j ∈ vs
  · rw [if_pos hj, if_pos hj]
    by_cases hb : j < σ.length
    · rw [List.getElem?_eq_getElem hb, List.getElem?_eq_getElem (by omega)]; rfl
    · rw [List.getElem?_eq_none (by omega), List.getElem?_eq_none (by omega)]
  · rw [if_neg hj, if_neg hj]; exact h j hj

section
variable {G : Gm} {k : Nat} {cl : Nat → Value} {X : Cx} {c : Ct}
/-! ### targets -/
theorem name_pg (S : Sta G cl k X c) {i : Nat} {x : Str} {pos : Pos} (h : stName c i x = true) : PG X (.Name x pos) (gName i) := by
  unfold stName at h
  rw [Bool.and_eq_true] at h
  obtain ⟨h1, h2⟩ := S.sv x h.2
  exact pg_name (by rw [S.hN]; exact S.nd) (by rw [S.hN]; exact isE_of h.1) (by rw [S.sc]; exact h1) (by rw [S.sc]; exact h2)
/-- the slots other than the target's stay -/
theorem tns_sound (S : Sta G cl k X c) {P : Hp} {α : List Addr} {H : Hp} {Q : L2.St → Hp → Prop} : ∀ {is : List Nat} {es : List Expr} {vs : List V} {us : List U} {σ : L2.St} {ε ε' : Env}, chkTns c is es = true → RepUs X.K P α vs us → setEs is us ε = some ε' → EnvOk X.K P α σ ε →
    (∀ σ', EnvOk X.K P α σ' ε' → σ'.length = σ.length → (∀ j, j ∉ is → σ'[j]? = σ[j]?) → Q σ' H) → WGs X es vs σ H Q
  | [], [], _, _, σ, ε, ε', _, .nil, e, ev, q => by
    cases e
    exact WGs.of pgs_nil ⟨rfl, q σ ev rfl fun _ _ => rfl⟩
  | [], [], _, _, σ, ε, ε', _, .cons _ _, e, ev, q => by simp [setEs] at e
  | [], _ :: _, _, _, _, _, _, h, _, _, _, _ => by simp [chkTns] at h
  | _ :: _, [], _, _, _, _, _, h, _, _, _, _ => by simp [chkTns] at h
  | i :: is, x :: es, _, _, σ, ε, ε', h, .nil, e, _, _ => by simp [setEs] at e
  | i :: is, x :: es, _, _, σ, ε, ε', h, .cons r rs, e, ev, q => by
    cases x with
    | Name n pos =>
      simp only [chkTns, Bool.and_eq_true] at h
      refine WGs.of (pgs_cons (name_pg S h.1) pgs_W) ⟨_, _, rfl, ?_⟩
      refine tns_sound S h.2 rs e (ev.set r i) fun σ' h1 h2 h3 => q σ' h1 (by rw [h2, List.length_set]) fun j hj => ?_
      simp only [List.mem_cons, not_or] at hj
      rw [h3 j hj.2, List.getElem?_set_ne (fun z => hj.1 z.symm)]
    | _ => simp [chkTns] at h
theorem tns_each : ∀ {is : List Nat} {es : List Expr} {env : PySem.Env}, chkTns c is es = true → (assignEach es env).length = is.length ∧ (assignEach es env).findIdx? (·.1) = none
  | [], [], _, _ => ⟨rfl, rfl⟩
  | [], _ :: _, _, h => by simp [chkTns] at h
  | _ :: _, [], _, h => by simp [chkTns] at h
  | i :: is, x :: es, env, h => by
    cases x with
    | Name n pos =>
      simp only [chkTns, Bool.and_eq_true] at h
      obtain ⟨h1, h2⟩ := tns_each (env := env) h.2
      refine ⟨by show (assignEach es env).length + 1 = _; rw [h1]; rfl, ?_⟩
      show List.findIdx? (·.1) ((false, assign (.Name n pos) env) :: assignEach es env) = none
      rw [List.findIdx?_cons, h2]; rfl
    | _ => simp [chkTns] at h
theorem tn_sound (S : Sta G cl k X c) {P : Hp} {α : List Addr} {Fr : Hp} {st : Store} {H : Hp} (r : Rel X.K P α Fr st H) {Q : L2.St → Hp → Prop} {t : Tn} {x : Expr} {v : V} {u : U} {σ : L2.St} {ε ε' : Env} (hc : chkTn c t x = true) (ru : RepU X.K P α v u) (e : setTn t u ε = some ε') (ev : EnvOk X.K P α σ ε)
    (q : ∀ σ', EnvOk X.K P α σ' ε' → σ'.length = σ.length → (∀ j, j ∉ tnSlots t → σ'[j]? = σ[j]?) → Q σ' H) : WG X x v σ H Q := by
  cases t with
  | one i =>
    cases x with
    | Name n pos =>
      cases e
      exact WG.of (name_pg S hc) (q _ (ev.set ru i) (List.length_set ..) fun j hj => List.getElem?_set_ne (fun z => hj (by rw [← z]; exact List.mem_singleton_self _)))
    | _ => simp [chkTn] at hc
  | tup is =>
    cases x with
    | Tuple es n pos =>
      simp only [chkTn] at hc
      cases u with
      | m n => simp [setTn] at e
      | d y =>
        cases y with
        | tuple xs =>
          simp only [setTn] at e
          split at e
          · rename_i hl
            obtain ⟨a1, a2⟩ := tns_each (env := X.env) hc
            cases ru with | d ru =>
            cases ru with | tup hs ra =>
            exact WG.of (pg_tup S.calm pgs_W a1 a2) ⟨_, _, rfl, Same.sqt r.sub hs, by rw [ra.length]; exact hl, tns_sound S hc (RepUs.of_all ra) e ev q⟩
          · cases e
        | _ => simp [setTn] at e
    | _ => simp [chkTn] at hc
end

/-! ### comprehensions -/
section
variable {G : Gm} {W k : Nat} {cl : Nat → Value} {X : Cx} {c : Ct}
theorem blk_sta (S : Sta G cl k X c) {scope : Scope} (hk : scope.kind = .function) (s : Shared) (H : Hp) (C : Addr) (clo : List (Str × Addr)) (fp : List Addr) : Sta G cl k (X.blk s H scope (compEnvC scope clo C X.env) fp) (blkCt c scope) where
  hN := S.hN
  nd := S.nd
  sc := by
    show relS scope X.env.scope = relS scope c.sc
    rw [S.sc]
  kind := hk
  calm := S.calm
  room := S.room
  guards := S.guards
  sv := fun x h => by
    have hl : locB scope x = true := h
    unfold locB at hl
    split at hl
    · rename_i e
      have e2 : (relS scope c.sc).names.lookup x = some .local := lookup_relS_keep (by decide) e
      exact ⟨.inl e2, .inr e2⟩
    · rename_i e
      have e2 : (relS scope c.sc).names.lookup x = some .cell := lookup_relS_keep (by decide) e
      refine ⟨.inr e2, .inl ?_⟩
      show (scope.names.lookup x == some .cell) = true
      rw [e]; rfl
    · cases hl
  fn := S.fn
  con := S.con
  bt := S.bt
def WTs1 (X : Cx) (fs : List Expr) (σ : L2.St) (H : Hp) (Q : Bool → Hp → Prop) : Prop := match fs with
  | [] => Q true H
  | [a] => WT X a σ H Q
  | _ => False
theorem pts_W {X : Cx} {fs : List Expr} : PTs X fs (WTs1 X fs) := by
  rcases fs with _ | ⟨a, _ | ⟨b, fs⟩⟩
  · exact pts_nil
  · exact pts_one pt_W
  · exact ⟨fun _ _ _ _ _ _ h => h.elim⟩
theorem takes_none {X : Cx} : Takes X (fun _ _ _ _ => False) := fun u s' ⟨_, _, _, _, _, _, _, _, _, _, _, _, _, _, _, _, h⟩ => h.elim
/-- the list that is being made is left alone by what a turn does -/
theorem Rel.reframe {K : PySem.W.Frag} {P : Hp} {α : List Addr} {Fr : Hp} {st : Store} {H : Hp} {D : Addr} {o o' : HO} (r : Rel K P α (upd Fr D o) st H) : Rel K P α (upd Fr D o') st (upd H D o') := by
  have hD : P D = none := r.dis D o upd_same
  have nD : ∀ b, b ≠ D → (upd Fr D o) b = Fr b := fun b h => upd_ne h
  refine ⟨fun b x e => ?_, fun b x e => ?_, r.len, r.nd, fun n a us h1 h2 => ?_, fun b x e => ?_, r.gone⟩
  · rw [upd_ne (ne_of_none e hD)]; exact r.sub b x e
  · by_cases hb : b = D
    · subst hb; rw [upd_same] at e ⊢; exact e
    · rw [upd_ne hb] at e ⊢
      exact r.fr b x (by rw [upd_ne hb]; exact e)
  · obtain ⟨c1, c2, vs, c3, c4⟩ := r.cell n a us h1 h2
    have na : a ≠ D := fun z => by rw [z, upd_same] at c2; cases c2
    exact ⟨c1, by rw [upd_ne na] at c2 ⊢; exact c2, vs, by rw [upd_ne na]; exact c3, c4⟩
  · by_cases hb : b = D
    · rw [hb]; exact hD
    · rw [upd_ne hb] at e
      exact r.dis b x (by rw [upd_ne hb]; exact e)
theorem Rel.enframe {K : PySem.W.Frag} {P : Hp} {α : List Addr} {Fr : Hp} {st : Store} {H : Hp} {D : Addr} {o : HO} (r : Rel K P α Fr st H) (hD : H D = none) : Rel K P α (upd Fr D o) st (upd H D o) := by
  have hP : P D = none := r.sub.free hD
  refine ⟨fun b x e => ?_, fun b x e => ?_, r.len, r.nd, fun n a us h1 h2 => ?_, fun b x e => ?_, r.gone⟩
  · rw [upd_ne (ne_of_none e hP)]; exact r.sub b x e
  · by_cases hb : b = D
    · subst hb; rw [upd_same] at e ⊢; exact e
    · rw [upd_ne hb] at e ⊢; exact r.fr b x e
  · obtain ⟨c1, c2, vs, c3, c4⟩ := r.cell n a us h1 h2
    have na : a ≠ D := ne_of_none c3 hD
    exact ⟨c1, by rw [upd_ne na]; exact c2, vs, by rw [upd_ne na]; exact c3, c4⟩
  · by_cases hb : b = D
    · rw [hb]; exact hP
    · rw [upd_ne hb] at e; exact r.dis b x e
/-- the frame without the list, the list known to the heap alone -/
theorem Rel.deframe {K : PySem.W.Frag} {P : Hp} {α : List Addr} {Fr : Hp} {st : Store} {H : Hp} {D : Addr} {o : HO} (r : Rel K P α (upd Fr D o) st H) (hF : Fr D = none) : Rel K P α Fr st H ∧ P D = none ∧ H D = some o ∧ D ∉ α := by
  have hs : Same Fr (upd Fr D o) := fun b x e => by rw [upd_ne (ne_of_none e hF)]; exact e
  have hP := r.dis D o upd_same
  refine ⟨⟨r.sub, hs.trans r.fr, r.len, r.nd, fun n a us h1 h2 => ?_, fun b x e => r.dis b x (hs b x e), r.gone⟩, hP, r.fr D o upd_same, fun z => ?_⟩
  · obtain ⟨c1, c2, vs, c3, c4⟩ := r.cell n a us h1 h2
    have na : a ≠ D := fun z => by rw [z, upd_same] at c2; cases c2
    exact ⟨c1, by rw [upd_ne na] at c2; exact c2, vs, c3, c4⟩
  · obtain ⟨n, hn, e⟩ := List.mem_iff_getElem.mp z
    have h1 : α[n]? = some D := by rw [List.getElem?_eq_getElem hn, e]
    have hst : n < st.length := by rw [← r.len]; exact hn
    cases q : st[n] with
    | dead =>
      obtain ⟨o', z⟩ := r.gone n D h1 (by rw [List.getElem?_eq_getElem hst, q])
      rw [hP] at z; cases z
    | lst us =>
      obtain ⟨_, c2, _⟩ := r.cell n D us h1 (by rw [List.getElem?_eq_getElem hst, q])
      rw [upd_same] at c2; cases c2
/-- a list that stands apart becomes data -/
theorem Rel.take_in {K : PySem.W.Frag} {P : Hp} {α : List Addr} {Fr : Hp} {st : Store} {H : Hp} {D : Addr} {vs : List V} (r : Rel K P α Fr st H) (hP : P D = none) (hF : Fr D = none) (hα : D ∉ α) (hH : H D = some (.lst vs)) : Aft K P α Fr st H (upd P D (.lst vs)) α := by
  have s1 : Same P (upd P D (.lst vs)) := sq_up hP
  refine ⟨⟨fun b x e => ?_, r.fr, r.len, r.nd, fun n a us h1 h2 => ?_, fun b x e => ?_, fun n a h1 h2 => (r.gone n a h1 h2).imp fun x e => s1 _ _ e⟩, s1, List.prefix_rfl⟩
  · by_cases hb : b = D
    · subst hb; rw [upd_same] at e; rw [hH]; exact e
    · rw [upd_ne hb] at e; exact r.sub b x e
  · obtain ⟨c1, c2, ws, c3, c4⟩ := r.cell n a us h1 h2
    have na : a ≠ D := fun z => hα (z ▸ List.mem_of_getElem? h1)
    exact ⟨by rw [upd_ne na]; exact c1, c2, ws, c3, c4.mono s1 List.prefix_rfl⟩
  · rw [upd_ne (ne_of_none e hF)]; exact r.dis b x e
/-- .. or a thing of the store -/
theorem Rel.take_cell {K : PySem.W.Frag} {P : Hp} {α : List Addr} {Fr : Hp} {st : Store} {H : Hp} {D : Addr} {vs : List V} {us : List U} (r : Rel K P α Fr st H) (hP : P D = none) (hF : Fr D = none) (hα : D ∉ α) (hH : H D = some (.lst vs)) (ru : RepUs K P α vs us) : Aft K P α Fr (st ++ [.lst us]) H P (α ++ [D]) := by
  have pre : α <+: α ++ [D] := List.prefix_append _ _
  refine ⟨⟨r.sub, r.fr, by simp [r.len], ?_, fun n a us' h1 h2 => ?_, r.dis, fun n a h1 h2 => ?_⟩, Same.refl _, pre⟩
  · rw [List.nodup_append]
    refine ⟨r.nd, by simp, fun a ha b hb => ?_⟩
    have e : b = D := by simpa using hb
    rintro rfl
    exact hα (e ▸ ha)
  · by_cases hn : n < α.length
    · rw [List.getElem?_append_left hn] at h1
      rw [List.getElem?_append_left (by rw [← r.len]; exact hn)] at h2
      obtain ⟨c1, c2, ws, c3, c4⟩ := r.cell n a us' h1 h2
      exact ⟨c1, c2, ws, c3, c4.mono (Same.refl _) pre⟩
    · have hn' : n = α.length := by
        have := (List.getElem?_eq_some_iff.mp h1).1
        rw [List.length_append, List.length_singleton] at this
        omega
      subst hn'
      rw [List.getElem?_append_right (Nat.le_refl _), Nat.sub_self] at h1
      rw [r.len, List.getElem?_append_right (Nat.le_refl _), Nat.sub_self] at h2
      have e1 : D = a := by simpa using h1
      have e2 : us = us' := by simpa using h2
      subst e1 e2
      exact ⟨hP, hF, vs, hH, ru.mono (Same.refl _) pre⟩
  · by_cases hn : n < α.length
    · rw [List.getElem?_append_left hn] at h1
      rw [List.getElem?_append_left (by rw [← r.len]; exact hn)] at h2
      exact r.gone n a h1 h2
    · rw [List.getElem?_append_right (by rw [← r.len]; omega)] at h2
      rcases Nat.eq_zero_or_pos (n - st.length) with z | z
      · rw [z] at h2; cases h2
      · rw [List.getElem?_eq_none (by rw [List.length_singleton]; exact z)] at h2; cases h2

/-- what a turn of a comprehension does -/
def turnF (G : Gm) (W k : Nat) (elt : E) (tg : Tn) (ifs : Es) (own : List Nat) (ε : Env) (u : U) (st2 : Store) : R (Option U) := match setTn tg u (wipeE ε own) with
  | none => .stuck
  | some ε1 => (evEs G (cpK G W k) (cmK G W k) ifs ε1 st2).nox.bind fun bs st3 => match bs with
    | [] => (evE G (cpK G W k) (cmK G W k) elt ε1 st3).nox.bind fun x st4 => .ok (some x) st4
    | [.d (.bool true)] => (evE G (cpK G W k) (cmK G W k) elt ε1 st3).nox.bind fun x st4 => .ok (some x) st4
    | [.d (.bool false)] => .ok none st3
    | _ => .stuck
theorem turnF_some {elt : E} {tg : Tn} {ifs : Es} {own : List Nat} {ε ε1 : Env} {u : U} {st2 : Store} (h : setTn tg u (wipeE ε own) = some ε1) : turnF G W k elt tg ifs own ε u st2 = (evEs G (cpK G W k) (cmK G W k) ifs ε1 st2).nox.bind fun bs st3 => match bs with
    | [] => (evE G (cpK G W k) (cmK G W k) elt ε1 st3).nox.bind fun x st4 => .ok (some x) st4
    | [.d (.bool true)] => (evE G (cpK G W k) (cmK G W k) elt ε1 st3).nox.bind fun x st4 => .ok (some x) st4
    | [.d (.bool false)] => .ok none st3
    | _ => .stuck := by
  unfold turnF
  rw [h]
theorem evE_comp {mu : Bool} {elt : E} {tg : Tn} {ik : Ik} {its ifs : Es} {own : List Nat} {ε : Env} {st : Store} : evE G (cpK G W k) (cmK G W k) (.comp mu elt tg ik its ifs own) ε st =
    ((evEs G (cpK G W k) (cmK G W k) its ε st).bind fun us st1 => ofO (walkU ik us st1) st1).bind fun items st1 => (compLoop (turnF G W k elt tg ifs own ε) items [] st1).bind fun acc st5 => allocL mu acc st5 := by
  rw [evE]; rfl
abbrev Both (G : Gm) (W k : Nat) (cl : Nat → Value) (e : E) : Prop := SndE G W k cl e ∧ SndT G W k cl e
theorem AllE.fst {p q : E → Prop} : ∀ {es : Es}, AllE (fun e => p e ∧ q e) es → AllE p es
  | .nil, _ => trivial
  | .cons _ _, h => ⟨h.1.1, AllE.fst h.2⟩
theorem nox_ok {α : Type} {r : R α} {a : α} {st : Store} (h : r.nox = .ok a st) : r = .ok a st := by
  cases r with
  | ok => exact h
  | exc => cases h
  | stuck => cases h
/-- a comprehension's reading: what stands for its parts, and the reading itself -/
theorem comp_go {mu : Bool} {elt : E} {tg : Tn} {ik : Ik} {its ifs : Es} {own : List Nat} (he : SndE G W k cl elt) (hi : AllE (SndE G W k cl) its) (hf : AllE (Both G W k cl) ifs) {Wx : WX} (S : Sta G cl k X c) (tk : Takes X Wx)
    {el t iter : Expr} {fs : List Expr} {kk : Int} {scope : Scope} {pos : Pos} (hc : chkE G c (.comp mu elt tg ik its ifs own) (.ListComp el [⟨t, iter, fs, kk⟩] scope pos) = true)
    {σ : L2.St} {H P : Hp} {α : List Addr} {Fr : Hp} {st : Store} {ε : Env} (r : Rel X.K P α Fr st H) (ev : EnvOk X.K P α σ ε) {Q : VK}
    (q : FitR X.K G cl P α Fr (fun v d H' => Wx v d σ H') (RepU X.K) (evE G (cpK G W k) (cmK G W k) (.comp mu elt tg ik its ifs own) ε st) Q) :
    kk = 0 ∧ BlkOk X.N X.env.scope scope (ownOf c own) ∧ (∀ x, foldedSetIterable iter X.env x = pure x) ∧ ∃ (g : TG) (tt : TT) (te : TE),
      (∀ (s : Shared) (H0 : Hp) (C : Addr) (clo : List (Str × Addr)) (fp : List Addr), PG (X.blk s H0 scope (compEnvC scope clo C X.env) fp) t g) ∧
      (∀ (s : Shared) (H0 : Hp) (C : Addr) (clo : List (Str × Addr)) (fp : List Addr), PTs (X.blk s H0 scope (compEnvC scope clo C X.env) fp) fs tt) ∧
      (∀ (s : Shared) (H0 : Hp) (C : Addr) (clo : List (Str × Addr)) (fp : List Addr), PE (X.blk s H0 scope (compEnvC scope clo C X.env) fp) el te) ∧
      tLc (WI X t iter) g tt te ((ownOf c own).map (·.2)) σ H Q := by
    simp only [chkE, Bool.and_eq_true] at hc
    obtain ⟨⟨⟨⟨⟨⟨⟨⟨hk, hb⟩, ht⟩, hel⟩, hifs⟩, hfl⟩, hin⟩, hsh⟩, hits⟩ := hc
    have hk := of_decide_eq_true hk
    have hfl := of_decide_eq_true hfl
    have ok : BlkOk X.N X.env.scope scope (ownOf c own) := by rw [S.hN, S.sc]; exact blkOk_by hb
    have own2 : (ownOf c own).map (·.2) = own := by simp [ownOf, List.map_map, Function.comp_def]
    have fold : ∀ x, foldedSetIterable iter X.env x = pure x := by
      cases ik with
      | val =>
        cases its with
        | nil => simp [itArgs, chkEs] at hits
        | cons e es => simp only [itArgs, chkEs, Bool.and_eq_true] at hits; exact chk_nofold hits.1 _
      | _ => cases iter <;> first | exact fun _ => rfl | (simp [itShape] at hsh; done)
    let g : TG := fun v σ H Qg => ∀ (s : Shared) (H0 : Hp) (C : Addr) (clo : List (Str × Addr)) (fp : List Addr), WG (X.blk s H0 scope (compEnvC scope clo C X.env) fp) t v σ H Qg
    let tt : TT := fun σ H Qt => ∀ (s : Shared) (H0 : Hp) (C : Addr) (clo : List (Str × Addr)) (fp : List Addr), WTs1 (X.blk s H0 scope (compEnvC scope clo C X.env) fp) fs σ H Qt
    let te : TE := fun σ H Qe => ∀ (s : Shared) (H0 : Hp) (C : Addr) (clo : List (Str × Addr)) (fp : List Addr), WE (X.blk s H0 scope (compEnvC scope clo C X.env) fp) el σ H Qe
    refine ⟨hk, ok, fold, g, tt, te, fun s H0 C clo fp => ⟨fun pins s' σ' H' v u Q' I rv h => (h s H0 C clo fp) pins s' u I rv⟩,
      fun s H0 C clo fp => ⟨fun pins s' σ' H' Q' I h => pts_W.run pins s' σ' H' Q' I (h s H0 C clo fp)⟩,
      fun s H0 C clo fp => ⟨fun pins s' σ' H' Q' I h => (h s H0 C clo fp) pins s' I⟩, ?_⟩
    rw [own2]
    rw [evE_comp] at q
    refine iter_sound S tk hsh hits hi r ev (FitR.bind q fun items st1 J H1 P1 α1 e1 a1 wk q1 => ?_)
    intro D hD
    have hF : Fr D = none := a1.rel.fr.free hD
    refine ⟨fun i m H => m = items.length - i ∧ i ≤ items.length ∧ ∃ P2 α2 st2 accU accV, Rel X.K P2 α2 (upd Fr D (.lst accV)) st2 H ∧ Same P1 P2 ∧ α1 <+: α2 ∧ RepUs X.K P2 α2 accV accU ∧
      FitR X.K G cl P1 α1 Fr (fun v d H' => Wx v d σ H') (RepU X.K) ((compLoop (turnF G W k elt tg ifs own ε) (items.drop i) accU st2).bind fun acc st5 => allocL mu acc st5) Q,
      ⟨_, rfl, Nat.zero_le _, P1, α1, st1, [], [], a1.rel.enframe hD, Same.refl _, List.prefix_rfl, .nil, q1⟩, ?_⟩
    rintro i m H2 ⟨rfl, hi2, P2, α2, st2, accU, accV, rel2, s2, p2, ru2, q2⟩
    by_cases hlt : i < items.length
    · refine .inr ?_
      have eu : items[i]? = some items[i] := List.getElem?_eq_getElem hlt
      obtain ⟨go, yl⟩ := wk.go i _ H2 P2 α2 _ st2 eu s2 rel2
      rw [List.drop_eq_getElem_cons hlt] at q2
      unfold compLoop at q2
      refine ⟨go, fun H3 => ∃ P3 α3 st3 accU' accV', Rel X.K P3 α3 (upd Fr D (.lst accV')) st3 H3 ∧ Same P1 P3 ∧ α1 <+: α3 ∧ RepUs X.K P3 α3 accV' accU' ∧
        FitR X.K G cl P1 α1 Fr (fun v d H' => Wx v d σ H') (RepU X.K) ((compLoop (turnF G W k elt tg ifs own ε) (items.drop (i + 1)) accU' st3).bind fun acc st5 => allocL mu acc st5) Q,
        fun H3 h3 => ⟨_, by omega, rfl, hlt, h3⟩, fun x H3 y => ?_⟩
      obtain ⟨P3, a3, rx⟩ := yl x H3 y
      intro s0 H0 C clo fp
      have SB := blk_sta S (scope := scope) ok.kind s0 H0 C clo fp
      -- the target
      cases hset : setTn tg items[i] (wipeE ε own) with
      | none =>
        have z : turnF G W k elt tg ifs own ε items[i] st2 = .stuck := by unfold turnF; rw [hset]
        rw [z] at q2
        exact q2.elim
      | some ε1 =>
        have evw : EnvOk X.K P3 α2 (wipe σ own) (wipeE ε own) := (((ev.mono a1.same a1.pre).mono s2 p2).mono a3.same a3.pre).wipe own
        refine tn_sound SB a3.rel ht rx hset evw fun σ4 ev4 hl4 hj4 => ?_
        refine ⟨?_, ?_⟩
        · -- the slots but the comprehension's own stay
          have h1 : wipe σ4 own = wipe (wipe σ own) own := wipe_same hl4 fun j hj => hj4 j fun z => hj (by
            have := List.all_eq_true.mp hin j z
            simpa using this)
          rw [h1]
          exact wipe_same (by rw [wipe_length]) fun j hj => by rw [wipe_get, if_neg hj]
        · -- the tests, the element
          have turn : ∀ st4 H4 P4 α4, Aft X.K P3 α2 (upd Fr D (.lst accV)) st4 H4 P4 α4 → (∀ x st5, evE G (cpK G W k) (cmK G W k) elt ε1 st4 = .ok x st5 → turnF G W k elt tg ifs own ε items[i] st2 = .ok (some x) st5) →
              (∀ r', (∀ x st5, r' ≠ .ok x st5) → (evE G (cpK G W k) (cmK G W k) elt ε1 st4) = r' → turnF G W k elt tg ifs own ε items[i] st2 = .stuck) →
              te σ4 H4 fun y H5 => ∃ acc, H5 D = some (.lst acc) ∧ acc.length < sizeLine ∧ ∃ P3 α3 st3 accU' accV', Rel X.K P3 α3 (upd Fr D (.lst accV')) st3 (upd H5 D (.lst (acc ++ [y]))) ∧ Same P1 P3 ∧ α1 <+: α3 ∧ RepUs X.K P3 α3 accV' accU' ∧
                FitR X.K G cl P1 α1 Fr (fun v d H' => Wx v d σ H') (RepU X.K) ((compLoop (turnF G W k elt tg ifs own ε) (items.drop (i + 1)) accU' st3).bind fun acc st5 => allocL mu acc st5) Q := by
            intro st4 H4 P4 α4 a4 hok hst s9 H9 C9 clo9 fp9
            refine he _ _ el (fun _ _ _ _ => False) (blk_sta S ok.kind s9 H9 C9 clo9 fp9) takes_none hel σ4 H4 P4 α4 _ st4 ε1 a4.rel (ev4.mono a4.same a4.pre) _ ?_
            cases hr : evE G (cpK G W k) (cmK G W k) elt ε1 st4 with
            | ok x st5 =>
              intro v H5 P5 α5 a5 rv
              have ht := hok x st5 hr
              rw [ht] at q2
              simp only [R.bind] at q2
              by_cases hz : accU.length < sizeMax
              · rw [if_pos hz] at q2
                have hDv : H5 D = some (.lst accV) := a5.rel.fr D _ upd_same
                refine ⟨accV, hDv, by rw [Paired.length ru2, ← sizeMax_eq]; exact hz, P5, α5, st5, accU ++ [x], accV ++ [v], a5.rel.reframe, ((s2.trans a3.same).trans a4.same).trans a5.same, ((p2.trans a3.pre).trans a4.pre).trans a5.pre, ?_, q2⟩
                exact pappend ((((ru2.mono a3.same a3.pre).mono a4.same a4.pre).mono a5.same a5.pre)) (.cons rv .nil)
              · rw [if_neg hz] at q2
                exact q2.elim
            | exc cc xx st5 =>
              have z := hst (.exc cc xx st5) (fun _ _ h => by cases h) hr
              rw [z] at q2; exact q2.elim
            | stuck =>
              have z := hst .stuck (fun _ _ h => by cases h) hr
              rw [z] at q2; exact q2.elim
          rcases fs with _ | ⟨f1, _ | ⟨f2, fs⟩⟩
          · -- no test
            cases ifs with
            | cons e es => simp [chkEs] at hifs
            | nil =>
              intro s9 H9 C9 clo9 fp9
              refine turn st2 H3 P3 α2 (Aft.refl a3.rel) (fun x st5 h => ?_) fun r' h1 h2 => ?_
              · rw [turnF_some hset]
                unfold evEs
                show ((evE G (cpK G W k) (cmK G W k) elt ε1 st2).nox.bind fun x st4 => R.ok (some x) st4) = _
                rw [h]; rfl
              · rw [turnF_some hset]
                unfold evEs
                show ((evE G (cpK G W k) (cmK G W k) elt ε1 st2).nox.bind fun x st4 => R.ok (some x) st4) = _
                rw [h2]
                cases r' with
                | ok x st5 => exact absurd rfl (h1 x st5)
                | exc => rfl
                | stuck => rfl
          · -- one test
            cases ifs with
            | nil => simp [chkEs] at hifs
            | cons e es =>
              cases es with
              | cons e2 es2 => simp [chkEs] at hifs
              | nil =>
                simp only [chkEs, Bool.and_true] at hifs
                intro s9 H9 C9 clo9 fp9
                show WT _ f1 σ4 H3 _
                refine hf.1.2 _ _ f1 (fun _ _ _ _ => False) (blk_sta S ok.kind s9 H9 C9 clo9 fp9) takes_none hifs σ4 H3 P3 α2 _ st2 ε1 a3.rel ev4 _ ?_
                cases hr : evE G (cpK G W k) (cmK G W k) e ε1 st2 with
                | ok u st4 =>
                  have base : turnF G W k elt tg (.cons e .nil) own ε items[i] st2 = (match [u] with
                      | [] => (evE G (cpK G W k) (cmK G W k) elt ε1 st4).nox.bind fun x st4 => .ok (some x) st4
                      | [.d (.bool true)] => (evE G (cpK G W k) (cmK G W k) elt ε1 st4).nox.bind fun x st4 => .ok (some x) st4
                      | [.d (.bool false)] => .ok none st4
                      | _ => .stuck) := by
                    rw [turnF_some hset]
                    unfold evEs evEs
                    rw [hr]; rfl
                  cases u with
                  | m n => rw [base] at q2; exact q2.elim
                  | d x =>
                    cases x with
                    | bool b =>
                      intro v H4 P4 α4 a4 ev'
                      subst ev'
                      cases v with
                      | true =>
                        rw [if_pos rfl]
                        refine turn st4 H4 P4 α4 a4 (fun x st5 h => ?_) fun r' h1 h2 => ?_
                        · rw [base, h]; rfl
                        · rw [base, h2]
                          cases r' with
                          | ok x st5 => exact absurd rfl (h1 x st5)
                          | exc => rfl
                          | stuck => rfl
                      | false =>
                        rw [if_neg Bool.false_ne_true]
                        rw [base] at q2
                        exact ⟨P4, α4, st4, accU, accV, a4.rel, (s2.trans a3.same).trans a4.same, (p2.trans a3.pre).trans a4.pre, (ru2.mono a3.same a3.pre).mono a4.same a4.pre, q2⟩
                    | _ => rw [base] at q2; exact q2.elim
                | exc cc xx st4 =>
                  have z : turnF G W k elt tg (.cons e .nil) own ε items[i] st2 = .stuck := by
                    rw [turnF_some hset]
                    unfold evEs
                    rw [hr]; rfl
                  rw [z] at q2; exact q2.elim
                | stuck =>
                  have z : turnF G W k elt tg (.cons e .nil) own ε items[i] st2 = .stuck := by
                    rw [turnF_some hset]
                    unfold evEs
                    rw [hr]; rfl
                  rw [z] at q2; exact q2.elim
          · simp at hfl
    · refine .inl ?_
      have ei : i = items.length := by omega
      subst ei
      rw [List.drop_length] at q2
      unfold compLoop at q2
      refine ⟨wk.stop H2 P2 α2 _ st2 s2 rel2, ?_⟩
      obtain ⟨rel3, hP3, hH3, hα3⟩ := rel2.deframe hF
      have q3 : FitR X.K G cl P2 α2 Fr (fun v d H' => Wx v d σ H') (RepU X.K) (allocL mu accU st2) Q := FitR.weak (st1 := st2) (H1 := H2) q2 ⟨rel3, s2, p2⟩
      unfold allocL at q3
      split at q3
      · exact q3 _ _ _ _ (rel3.take_cell hP3 hF hα3 hH3 ru2) (.m (by rw [← rel3.len, List.getElem?_append_right (Nat.le_refl _), Nat.sub_self]; rfl))
      · split at q3
        · rename_i ds hd
          exact q3 _ _ _ _ (rel3.take_in hP3 hF hα3 hH3) (.d (rep_lst (sq_up hP3) (ru2.toDs hd)))
        · exact q3.elim
theorem snd_comp {mu : Bool} {elt : E} {tg : Tn} {ik : Ik} {its ifs : Es} {own : List Nat} (he : SndE G W k cl elt) (hi : AllE (SndE G W k cl) its) (hf : AllE (Both G W k cl) ifs) : SndE G W k cl (.comp mu elt tg ik its ifs own) := by
  intro X c x Wx S tk hc σ H P α Fr st ε r ev Q q
  cases x with
  | ListComp el gens scope pos =>
    rcases gens with _ | ⟨⟨t, iter, fs, kk⟩, _ | ⟨g2, gens⟩⟩ <;> first | (simp only [chkE, Bool.false_eq_true] at hc; done) | skip
    obtain ⟨rfl, ok, fold, g, tt, te, h1, h2, h3, h4⟩ := comp_go he hi hf S tk hc r ev q
    exact WE.of (pe_lc S.calm (by rw [S.hN]; exact S.nd) pi_W ok h1 h2 h3 fold) h4
  | _ => simp only [chkE, Bool.false_eq_true] at hc
end
end Ev
end

section
set_option maxRecDepth 10000
set_option autoImplicit false
/-! EvQ: a dict written out, its keys texts. -/
namespace Ev
open PySem PySem.Spec PyProof.Rows L2

section
variable {K : PySem.W.Frag} {P : Hp} {α : List Addr} {Fr : Hp} {st : Store} {H : Hp}
theorem Aft.unframe {Fr' : Hp} (s : Same Fr Fr') {st' : Store} {H' P' : Hp} {α' : List Addr} (a : Aft K P α Fr' st' H' P' α') : Aft K P α Fr st' H' P' α' := by
  refine ⟨⟨a.rel.sub, s.trans a.rel.fr, a.rel.len, a.rel.nd, fun n b us h1 h2 => ?_, fun b o e => a.rel.dis b o (s b o e), a.rel.gone⟩, a.same, a.pre⟩
  obtain ⟨c1, c2, c3⟩ := a.rel.cell n b us h1 h2
  exact ⟨c1, s.free c2, c3⟩
/-- an object in the making -/
theorem Rel.half (r : Rel K P α Fr st H) {p : Addr} (hp : H p = none) (o : HO) : Rel K P α (upd Fr p o) st (upd H p o) := by
  have hP := r.sub.free hp
  refine ⟨fun b x e => ?_, fun b x e => ?_, r.len, r.nd, fun n a us h1 h2 => ?_, fun b x e => ?_, r.gone⟩
  · rw [upd_ne (ne_of_none e hP)]; exact r.sub b x e
  · by_cases hb : b = p
    · subst hb; rw [upd_same] at e ⊢; exact e
    · rw [upd_ne hb] at e ⊢; exact r.fr b x e
  · obtain ⟨c1, c2, vs, c3, c4⟩ := r.cell n a us h1 h2
    have na : a ≠ p := ne_of_none c3 hp
    exact ⟨c1, by rw [upd_ne na]; exact c2, vs, by rw [upd_ne na]; exact c3, c4⟩
  · by_cases hb : b = p
    · subst hb; exact hP
    · rw [upd_ne hb] at e; exact r.dis b x e
/-- .. is made -/
theorem Rel.made {o o' : HO} {p : Addr} (hF : Fr p = none) (r : Rel K P α (upd Fr p o) st H) : Aft K P α Fr st (upd H p o') (upd P p o') α := by
  have hP : P p = none := r.dis p o upd_same
  have s1 : Same P (upd P p o') := fun b x e => by
    rw [upd_ne (ne_of_none e hP)]; exact e
  refine ⟨⟨fun b x e => ?_, fun b x e => ?_, r.len, r.nd, fun n a us h1 h2 => ?_, fun b x e => ?_, fun n a h1 h2 => (r.gone n a h1 h2).imp fun x e => s1 _ _ e⟩, s1, List.prefix_rfl⟩
  · by_cases hb : b = p
    · subst hb; rw [upd_same] at e ⊢; exact e
    · rw [upd_ne hb] at e ⊢; exact r.sub b x e
  · have nb := ne_of_none e hF
    rw [upd_ne nb]
    exact r.fr b x (by rw [upd_ne nb]; exact e)
  · obtain ⟨c1, c2, vs, c3, c4⟩ := r.cell n a us h1 h2
    have na : a ≠ p := fun z => by
      rw [z, upd_same] at c2; cases c2
    rw [upd_ne na] at c2
    exact ⟨by rw [upd_ne na]; exact c1, c2, vs, by rw [upd_ne na]; exact c3, c4.mono s1 List.prefix_rfl⟩
  · have nb := ne_of_none e hF
    rw [upd_ne nb]
    exact r.dis b x (by rw [upd_ne nb]; exact e)
end

theorem put_new {kvs : List (Key × V)} {k : Key} {v : V} (h : k ∉ kvs.map (·.1)) : putK kvs k v = kvs ++ [(k, v)] := by
  unfold putK
  rw [if_neg]
  intro z
  rw [List.any_eq_true] at z
  obtain ⟨p, hp, e⟩ := z
  exact h (List.mem_map.mpr ⟨p, hp, of_decide_eq_true e⟩)
theorem merge_new : ∀ {more kvs : List (Key × V)}, (kvs.map (·.1) ++ more.map (·.1)).Nodup → mergeK kvs more = kvs ++ more
  | [], kvs, _ => (List.append_nil kvs).symm
  | p :: more, kvs, h => by
    unfold mergeK
    rw [List.foldl_cons]
    have h1 : p.1 ∉ kvs.map (·.1) := fun z => by
      rw [List.nodup_append] at h
      exact h.2.2 _ z _ (by simp) rfl
    rw [put_new h1]
    have h2 : mergeK (kvs ++ [(p.1, p.2)]) more = (kvs ++ [(p.1, p.2)]) ++ more := merge_new (by
      rw [List.map_append, List.append_assoc]
      exact h)
    unfold mergeK at h2
    rw [h2, List.append_assoc]
    rfl
theorem keys_zip : ∀ {ks : List Str} {vs : List V}, vs.length = ks.length → ((ks.map Sum.inr : List Key).zip vs).map (·.1) = ks.map Sum.inr
  | [], [], _ => rfl
  | k :: ks, v :: vs, h => by
    rw [List.map_cons, List.zip_cons_cons, List.map_cons, keys_zip (by simpa using h)]
theorem kv_zip : ∀ {ks : List Str} {vs : List V}, ((ks.map Sum.inr : List Key).zip vs).map (fun kv => (kV kv.1, kv.2)) = (ks.map V.str).zip vs
  | [], _ => rfl
  | k :: ks, [] => rfl
  | k :: ks, v :: vs => by
    rw [List.map_cons, List.zip_cons_cons, List.map_cons, kv_zip]
    rfl
theorem rep_zip {K : PySem.W.Frag} {P : Hp} : ∀ {ks : List Str} {vs : List V} {ds : List D}, RepAll K P vs ds → RepKv K P ((ks.map Sum.inr : List Key).zip vs) ((ks.map PyData.str).zip ds)
  | [], _, _, _ => .nil
  | k :: ks, _, _, .nil => .nil
  | k :: ks, _, _, .cons h r => .cons (k := .inr k) h (rep_zip r)

section
variable {G : Gm} {W k : Nat} {cl : Nat → Value}
theorem pairs_sound {X : Cx} {c : Ct} {Wx : WX} {pos : Pos} (S : Sta G cl k X c) (tk : Takes X Wx) : ∀ {es : Es} {ks : List Str} {keys : List (Option Expr)} {vals : List Expr}, AllE (SndE G W k cl) es → keysB ks keys = true → chkEs G c es vals = true → keys.length = vals.length →
    ∃ trs, PPs X pos keys vals trs ∧ ∀ (σ : L2.St) (H P : Hp) (α : List Addr) (Fr : Hp) (st : Store) (ε : Env), Rel X.K P α Fr st H → EnvOk X.K P α σ ε → ∀ Q : List (V × V) → Hp → Prop,
      FitR X.K G cl P α Fr (fun v d H' => Wx v d σ H') (RepUs X.K) (evEs G (cpK G W k) (cmK G W k) es ε st) (fun vs H' => Q ((ks.map V.str).zip vs) H') → tPairs trs σ H Q
  | .nil, ks, keys, vals, _, hk, hc, hl => by
    cases vals with
    | cons => simp [chkEs] at hc
    | nil =>
      cases keys with
      | cons => simp at hl
      | nil =>
        cases ks with
        | cons => simp [keysB] at hk
        | nil =>
          refine ⟨[], pps_nil, fun σ H P α Fr st ε r ev Q q => ?_⟩
          unfold evEs at q
          exact q _ _ _ _ (Aft.refl r) .nil
  | .cons e es, ks, keys, vals, hs, hk, hc, hl => by
    cases vals with
    | nil => simp [chkEs] at hc
    | cons v vals =>
      cases keys with
      | nil => simp at hl
      | cons ky keys =>
        cases ks with
        | nil => simp [keysB] at hk
        | cons kk ks =>
          simp only [chkEs, Bool.and_eq_true] at hc
          obtain ⟨j, cp, rfl, hk2⟩ : ∃ j cp, ky = some (.Constant (.str kk) j cp) ∧ keysB ks keys = true := by
            unfold keysB at hk
            split at hk
            · rename_i e1 e2; cases e1
            · rename_i a1 a2 a3 a4 a5 a6 e1 e2
              cases e1; cases e2
              rw [Bool.and_eq_true] at hk
              obtain rfl := of_decide_eq_true hk.1
              exact ⟨_, _, rfl, hk.2⟩
            · cases hk
          obtain ⟨trs, h1, h2⟩ := pairs_sound S tk hs.2 hk2 hc.2 (by simpa using hl)
          refine ⟨_, pps_cons pe_str pe_W h1, fun σ H P α Fr st ε r ev Q q => ?_⟩
          unfold evEs at q
          refine hs.1 X c v Wx S tk hc.1 σ H P α Fr st ε r ev _ (FitR.bind q fun u st1 x H1 P1 α1 e1 a1 rx q1 => ?_)
          exact h2 σ H1 P1 α1 Fr st1 ε a1.rel (ev.mono a1.same a1.pre) _ (FitR.bind q1 fun us st2 xs H2 P2 α2 e2 a2 rs q2 => q2 _ _ _ _ (Aft.refl a2.rel) (.cons (rx.mono a2.same a2.pre) rs))
theorem snd_dict {ks : List Str} {es : Es} (hs : AllE (SndE G W k cl) es) : SndE G W k cl (.dict ks es) := by
  intro X c x Wx S tk hc σ H P α Fr st ε r ev Q q
  cases x with
  | Dict keys vals pos =>
    simp only [chkE, dictShape, dictVals, Bool.and_eq_true, decide_eq_true_eq] at hc
    obtain ⟨⟨⟨⟨⟨h1, h2⟩, h3⟩, h4⟩, h5⟩, h6⟩ := hc
    obtain ⟨trs, t1, t2⟩ := pairs_sound (pos := pos) S tk hs h1 h6 h5
    have shape : ∀ {ks : List Str} {keys : List (Option Expr)}, keysB ks keys = true → keys.all (·.isSome) = true ∧ keys.length = ks.length := by
      intro ks
      induction ks with
      | nil =>
        intro keys h
        cases keys with
        | nil => exact ⟨rfl, rfl⟩
        | cons => simp [keysB] at h
      | cons k0 ks ih =>
        intro keys h
        cases keys with
        | nil => simp [keysB] at h
        | cons ky keys =>
          unfold keysB at h
          split at h
          · rename_i e1 e2; cases e1
          · rename_i a1 a2 a3 a4 a5 a6 e1 e2
            cases e1; cases e2
            rw [Bool.and_eq_true] at h
            obtain ⟨i1, i2⟩ := ih h.2
            exact ⟨by rw [List.all_cons, i1]; rfl, by rw [List.length_cons, List.length_cons, i2]⟩
          · cases h
    obtain ⟨s1, s2⟩ := shape h1
    refine WE.of (pe_disp t1 s1 h5 (fun z => h2 (List.eq_nil_of_length_eq_zero (by rw [← s2, z]; rfl))) (by rw [s2]; exact h3)) fun p hp => ?_
    have hF : Fr p = none := r.fr.free hp
    have sF : Same Fr (upd Fr p (.dK [])) := fun b o e => by rw [upd_ne (ne_of_none e hF)]; exact e
    unfold evE at q
    refine t2 σ _ P α _ st ε (r.half hp (.dK [])) ev _ ?_
    cases hr : evEs G (cpK G W k) (cmK G W k) es ε st with
    | stuck => rw [hr] at q; exact q.elim
    | exc cc xx st1 =>
      rw [hr] at q
      exact fun H' P' α' d a z => q H' P' α' d (a.unframe sF) z
    | ok us st1 =>
      rw [hr] at q
      intro vs H2 P2 α2 a rs
      have q : FitR X.K G cl P α Fr (fun v d H' => Wx v d σ H') (RepU X.K) (ofO (dictU ks us) st1) Q := q
      unfold dictU at q
      cases hd : toDs us with
      | none => rw [hd] at q; exact q.elim
      | some ds =>
        rw [hd] at q
        simp only at q
        by_cases hl : ks.length = ds.length
        · rw [if_pos hl] at q
          have ra := rs.toDs hd
          have lv : vs.length = ks.length := by rw [ra.length, hl]
          have nd : ((ks.map Sum.inr : List Key)).Nodup := List.Pairwise.map _ (fun a b h z => h (Sum.inr.inj z)) h4
          refine ⟨a.rel.fr _ _ upd_same, (ks.map Sum.inr : List Key).zip vs, kv_zip.symm, ?_, ?_⟩
          · rw [List.length_zip, List.length_map]; omega
          · rw [merge_new (by rw [keys_zip lv]; exact nd), List.nil_append]
            have done := a.rel.made (o' := .dK ((ks.map Sum.inr : List Key).zip vs)) hF
            exact q _ _ _ _ ((a.unframe sF).trans done) (.d (.dct (.inl upd_same) (rep_zip (ra.mono done.same))))
        · rw [if_neg hl] at q; exact q.elim
  | _ => simp only [chkE, dictShape, Bool.false_and, Bool.false_eq_true] at hc
end
end Ev
end

section
set_option maxRecDepth 10000
set_option autoImplicit false
/-! EvU: a list written out, repeated; comprehensions of two fors. -/
namespace Ev
open PySem PySem.Spec PyProof.Rows L2

section
variable {G : Gm} {W k : Nat} {cl : Nat → Value} {X : Cx} {c : Ct}
theorem rep_flat {K : PySem.W.Frag} {P : Hp} {vs : List V} {ds : List D} (h : RepAll K P vs ds) : ∀ n : Nat, RepAll K P (List.replicate n vs).flatten (List.replicate n ds).flatten
  | 0 => .nil
  | n + 1 => by
    rw [List.replicate_succ, List.replicate_succ, List.flatten_cons, List.flatten_cons]
    exact h.append (rep_flat h n)
theorem snd_rep {es : Es} {n : Nat} (h : SndEs G W k cl es) : SndE G W k cl (.rep es n) := by
  intro X c x Wx S tk hc σ H P α Fr st ε r ev Q q
  simp only [chkE, Bool.and_eq_true] at hc
  obtain ⟨h1, h2⟩ := hc
  unfold repShape at h1
  split at h1
  · rename_i xs lpos kk j cpos pos
    simp only [Bool.and_eq_true, decide_eq_true_eq] at h1
    obtain ⟨rfl, hn⟩ := h1
    refine WE.of (pe_op op_rep (pe_lst pa_W) pe_int) ?_
    unfold evE at q
    refine h X c xs Wx S tk h2 σ H P α Fr st ε r ev _ (FitR.bind q fun us st1 vs H1 P1 α1 e1 a1 rs q1 => ?_)
    unfold repU at q1
    cases hd : toDs us with
    | none => rw [hd] at q1; exact q1.elim
    | some ds =>
      rw [hd] at q1
      simp only at q1
      by_cases hl : ds.length ≤ sizeMax ∧ ds.length * n ≤ sizeMax
      · rw [if_pos hl] at q1
        have ra := rs.toDs hd
        have lv := ra.length
        refine ⟨by rw [lv, ← sizeMax_eq]; exact hl.1, fun p hp => ?_⟩
        have a2 := a1.rel.new hp (.lst vs)
        refine ⟨p, (n : Int), vs, rfl, rfl, upd_same, by omega, by omega, by rw [lv, ← sizeMax_eq, Int.toNat_natCast]; exact hl.2, fun p2 hp2 => ?_⟩
        have a3 := a2.rel.new hp2 (.lst (List.replicate (n : Int).toNat vs).flatten)
        rw [Int.toNat_natCast] at a3 ⊢
        exact q1 _ _ _ _ (a2.trans a3) (.d (.lst (.inl (.inl upd_same)) (rep_flat ((ra.mono a2.same).mono a3.same) n)))
      · rw [if_neg hl] at q1; exact q1.elim
  · cases h1

/-! ### one turn -/
/-- a turn's code: the target, the tests, the element -/
def tTurn (g : TG) (tt : TT) (te : TE) (own : List Nat) (D : Addr) (x : V) (σ : L2.St) (H : Hp) (Nx : Hp → Prop) : Prop := g x (wipe σ own) H fun σ2 H2 => wipe σ2 own = wipe σ own ∧ tt σ2 H2 fun b H3 => if b = true then te σ2 H3 fun y H4 => ∃ acc, H4 D = some (.lst acc) ∧ acc.length < sizeLine ∧ Nx (upd H4 D (.lst (acc ++ [y]))) else Nx H3
def gB (X : Cx) (scope : Scope) (t : Expr) : TG := fun v σ H Qg => ∀ (s : Shared) (H0 : Hp) (C : Addr) (clo : List (Str × Addr)) (fp : List Addr), WG (X.blk s H0 scope (compEnvC scope clo C X.env) fp) t v σ H Qg
def tB (X : Cx) (scope : Scope) (fs : List Expr) : TT := fun σ H Qt => ∀ (s : Shared) (H0 : Hp) (C : Addr) (clo : List (Str × Addr)) (fp : List Addr), WTs1 (X.blk s H0 scope (compEnvC scope clo C X.env) fp) fs σ H Qt
def eB (X : Cx) (scope : Scope) (el : Expr) : TE := fun σ H Qe => ∀ (s : Shared) (H0 : Hp) (C : Addr) (clo : List (Str × Addr)) (fp : List Addr), WE (X.blk s H0 scope (compEnvC scope clo C X.env) fp) el σ H Qe
def iB (X : Cx) (scope : Scope) (t iter : Expr) : TI := fun σ H Qi => ∀ (s : Shared) (H0 : Hp) (C : Addr) (clo : List (Str × Addr)) (fp : List Addr), WI (X.blk s H0 scope (compEnvC scope clo C X.env) fp) t iter σ H Qi
theorem pgB {scope : Scope} {t : Expr} (s : Shared) (H0 : Hp) (C : Addr) (clo : List (Str × Addr)) (fp : List Addr) : PG (X.blk s H0 scope (compEnvC scope clo C X.env) fp) t (gB X scope t) := ⟨fun pins s' σ' H' v u Q' I rv h => (h s H0 C clo fp) pins s' u I rv⟩
theorem ptB {scope : Scope} {fs : List Expr} (s : Shared) (H0 : Hp) (C : Addr) (clo : List (Str × Addr)) (fp : List Addr) : PTs (X.blk s H0 scope (compEnvC scope clo C X.env) fp) fs (tB X scope fs) := ⟨fun pins s' σ' H' Q' I h => pts_W.run pins s' σ' H' Q' I (h s H0 C clo fp)⟩
theorem peB {scope : Scope} {el : Expr} (s : Shared) (H0 : Hp) (C : Addr) (clo : List (Str × Addr)) (fp : List Addr) : PE (X.blk s H0 scope (compEnvC scope clo C X.env) fp) el (eB X scope el) := ⟨fun pins s' σ' H' Q' I h => (h s H0 C clo fp) pins s' I⟩
theorem piB {scope : Scope} {t iter : Expr} (s : Shared) (H0 : Hp) (C : Addr) (clo : List (Str × Addr)) (fp : List Addr) : PI (X.blk s H0 scope (compEnvC scope clo C X.env) fp) t iter (iB X scope t iter) := ⟨fun pins s' σ' H' Q' I h => (h s H0 C clo fp) pins s' I⟩
/-- the target of a turn, and that the other slots stay -/
theorem target_go {scope : Scope} {own : List Nat} {tg : Tn} {t : Expr} {u : U} {x : V} {σ : L2.St} {ε ε1 : Env} {P : Hp} {α : List Addr} {Fr : Hp} {st : Store} {H : Hp} (S : Sta G cl k X c) (hk : scope.kind = .function) (ht : chkTn (blkCt c scope) tg t = true) (hin : (tnSlots tg).all (own.contains ·) = true)
    (r : Rel X.K P α Fr st H) (ev : EnvOk X.K P α σ ε) (rx : RepU X.K P α x u) (hs : setTn tg u (wipeE ε own) = some ε1) {Qg : L2.St → Hp → Prop} (q : ∀ σ4, EnvOk X.K P α σ4 ε1 → wipe σ4 own = wipe σ own → Qg σ4 H) : gB X scope t x (wipe σ own) H Qg := by
  intro s0 H0 C clo fp
  refine tn_sound (blk_sta S (scope := scope) hk s0 H0 C clo fp) r ht rx hs (ev.wipe own) fun σ4 ev4 hl4 hj4 => q σ4 ev4 ?_
  have h1 : wipe σ4 own = wipe (wipe σ own) own := wipe_same hl4 fun j hj => hj4 j fun z => hj (by
    have := List.all_eq_true.mp hin j z
    simpa using this)
  rw [h1]
  exact wipe_same (by rw [wipe_length]) fun j hj => by rw [wipe_get, if_neg hj]
/-- tests of a turn -/
theorem tests_go {scope : Scope} {fs : List Expr} {ifs : Es} {σ : L2.St} {ε1 : Env} {P : Hp} {α : List Addr} {Fr : Hp} {st : Store} {H : Hp} (hf : AllE (Both G W k cl) ifs) (S : Sta G cl k X c) (hk : scope.kind = .function) (hc : chkEs G (blkCt c scope) ifs fs = true) (hfl : fs.length ≤ 1)
    (r : Rel X.K P α Fr st H) (ev : EnvOk X.K P α σ ε1) {bs : List U} {st3 : Store} (e : evEs G (cpK G W k) (cmK G W k) ifs ε1 st = .ok bs st3) {b : Bool} (hb : tstB bs = some b) {Qt : Bool → Hp → Prop} (q : ∀ H' P' α', Aft X.K P α Fr st3 H' P' α' → Qt b H') : tB X scope fs σ H Qt := by
  intro s9 H9 C9 clo9 fp9
  rcases fs with _ | ⟨f1, _ | ⟨f2, fs⟩⟩
  · cases ifs with
    | cons e es => simp [chkEs] at hc
    | nil =>
      rw [evEs] at e
      cases e
      cases hb
      exact q _ _ _ (Aft.refl r)
  · cases ifs with
    | nil => simp [chkEs] at hc
    | cons e1 es =>
      cases es with
      | cons e2 es2 => simp [chkEs] at hc
      | nil =>
        simp only [chkEs, Bool.and_true] at hc
        show WT _ f1 σ H _
        refine hf.1.2 _ _ f1 (fun _ _ _ _ => False) (blk_sta S hk s9 H9 C9 clo9 fp9) takes_none hc σ H P α _ st ε1 r ev _ ?_
        rw [evEs] at e
        cases hr : evE G (cpK G W k) (cmK G W k) e1 ε1 st with
        | stuck => rw [hr] at e; cases e
        | exc => rw [hr] at e; cases e
        | ok u st1 =>
          rw [hr] at e
          rw [show evEs G (cpK G W k) (cmK G W k) Es.nil ε1 = fun st => R.ok [] st from by funext st; rw [evEs]] at e
          cases e
          cases u with
          | m n => cases hb
          | d x =>
            cases x with
            | bool b' =>
              cases hb
              intro v H4 P4 α4 a4 ev'
              subst ev'
              exact q _ _ _ a4
            | _ => cases hb
  · simp at hfl
/-- the element -/
theorem elt_go {scope : Scope} {el : Expr} {elt : E} {σ : L2.St} {ε1 : Env} {P : Hp} {α : List Addr} {Fr : Hp} {st st5 : Store} {H : Hp} {x : U} (he : SndE G W k cl elt) (S : Sta G cl k X c) (hk : scope.kind = .function) (hc : chkE G (blkCt c scope) elt el = true)
    (r : Rel X.K P α Fr st H) (ev : EnvOk X.K P α σ ε1) (e : evE G (cpK G W k) (cmK G W k) elt ε1 st = .ok x st5) {Q : VK} (q : ∀ v H' P' α', Aft X.K P α Fr st5 H' P' α' → RepU X.K P' α' v x → Q v H') : eB X scope el σ H Q := by
  intro s9 H9 C9 clo9 fp9
  refine he _ _ el (fun _ _ _ _ => False) (blk_sta S hk s9 H9 C9 clo9 fp9) takes_none hc σ H P α _ st ε1 r ev _ ?_
  rw [e]
  exact q
/-- what a turn may come to -/
theorem turnF_cases {elt : E} {tg : Tn} {ifs : Es} {own : List Nat} {ε : Env} {u : U} {st2 : Store} : turnF G W k elt tg ifs own ε u st2 = .stuck ∨ ∃ ε1 bs st3 b, setTn tg u (wipeE ε own) = some ε1 ∧ evEs G (cpK G W k) (cmK G W k) ifs ε1 st2 = .ok bs st3 ∧ tstB bs = some b ∧
    ((b = false ∧ turnF G W k elt tg ifs own ε u st2 = .ok none st3) ∨ (b = true ∧ ∃ x st4, evE G (cpK G W k) (cmK G W k) elt ε1 st3 = .ok x st4 ∧ turnF G W k elt tg ifs own ε u st2 = .ok (some x) st4)) := by
  cases hs : setTn tg u (wipeE ε own) with
  | none => left; unfold turnF; rw [hs]
  | some ε1 =>
    rw [turnF_some hs]
    cases hb : evEs G (cpK G W k) (cmK G W k) ifs ε1 st2 with
    | stuck => left; rfl
    | exc => left; rfl
    | ok bs st3 =>
      have yes : ∀ {r : R U}, (r.nox.bind fun x st4 => R.ok (some x) st4) = .stuck ∨ ∃ x st4, r = .ok x st4 ∧ (r.nox.bind fun x st4 => R.ok (some x) st4) = .ok (some x) st4 := fun {r} => by
        cases r with
        | ok x st4 => exact .inr ⟨x, st4, rfl, rfl⟩
        | exc => exact .inl rfl
        | stuck => exact .inl rfl
      rcases bs with _ | ⟨b, _ | ⟨b2, bs⟩⟩
      · rcases yes (r := evE G (cpK G W k) (cmK G W k) elt ε1 st3) with h | ⟨x, st4, h1, h2⟩
        · exact .inl h
        · exact .inr ⟨ε1, [], st3, true, rfl, hb, rfl, .inr ⟨rfl, x, st4, h1, h2⟩⟩
      · rcases b with (_ | b | _ | _ | _ | _ | _) | _ <;> first | (left; rfl) | skip
        cases b with
        | false => exact .inr ⟨ε1, [.d (.bool false)], st3, false, rfl, hb, rfl, .inl ⟨rfl, rfl⟩⟩
        | true =>
          rcases yes (r := evE G (cpK G W k) (cmK G W k) elt ε1 st3) with h | ⟨x, st4, h1, h2⟩
          · exact .inl h
          · exact .inr ⟨ε1, [.d (.bool true)], st3, true, rfl, hb, rfl, .inr ⟨rfl, x, st4, h1, h2⟩⟩
      · left
        rcases b with (_ | b | _ | _ | _ | _ | _) | _ <;> first | rfl | (cases b <;> rfl)
theorem turn_go {scope : Scope} {own : List Nat} {tg : Tn} {t el : Expr} {fs : List Expr} {elt : E} {ifs : Es} (he : SndE G W k cl elt) (hf : AllE (Both G W k cl) ifs) (S : Sta G cl k X c) (hk : scope.kind = .function)
    (ht : chkTn (blkCt c scope) tg t = true) (hel : chkE G (blkCt c scope) elt el = true) (hifs : chkEs G (blkCt c scope) ifs fs = true) (hfl : fs.length ≤ 1) (hin : (tnSlots tg).all (own.contains ·) = true)
    {u : U} {x : V} {σ : L2.St} {ε : Env} {P α} {Fr : Hp} {D : Addr} {accV : List V} {accU : List U} {st : Store} {H : Hp} (r : Rel X.K P α (upd Fr D (.lst accV)) st H) (ev : EnvOk X.K P α σ ε) (rx : RepU X.K P α x u) (ru : RepUs X.K P α accV accU)
    {Wq : Value → Option Addr → Hp → Prop} {P1 : Hp} {α1 : List Addr} {kN : Store → R U} {kS : U → Store → R U} {Q : VK}
    (q : FitR X.K G cl P1 α1 Fr Wq (RepU X.K) ((turnF G W k elt tg ifs own ε u st).bind fun o st1 => match o with
      | none => kN st1
      | some x => if accU.length < sizeMax then kS x st1 else .stuck) Q) {Nx : Hp → Prop}
    (n0 : ∀ H' P' α' st', Aft X.K P α (upd Fr D (.lst accV)) st' H' P' α' → FitR X.K G cl P1 α1 Fr Wq (RepU X.K) (kN st') Q → Nx H')
    (n1 : ∀ H' P' α' st' y v, Rel X.K P' α' (upd Fr D (.lst (accV ++ [v]))) st' H' → Same P P' → α <+: α' → RepU X.K P' α' v y → FitR X.K G cl P1 α1 Fr Wq (RepU X.K) (kS y st') Q → Nx H') :
    tTurn (gB X scope t) (tB X scope fs) (eB X scope el) own D x σ H Nx := by
  rcases turnF_cases (G := G) (W := W) (k := k) (elt := elt) (tg := tg) (ifs := ifs) (own := own) (ε := ε) (u := u) (st2 := st) with z | ⟨ε1, bs, st3, b, hs, hb, hbb, alt⟩
  · rw [z] at q; exact q.elim
  · refine target_go S hk ht hin r ev rx hs fun σ4 ev4 w4 => ⟨w4, ?_⟩
    refine tests_go hf S hk hifs hfl r ev4 hb hbb fun H4 P4 α4 a4 => ?_
    rcases alt with ⟨rfl, z⟩ | ⟨rfl, y, st4, hy, z⟩
    · rw [if_neg Bool.false_ne_true]
      rw [z] at q
      exact n0 _ _ _ _ a4 q
    · rw [if_pos rfl]
      rw [z] at q
      refine elt_go he S hk hel a4.rel (ev4.mono a4.same a4.pre) hy fun v H5 P5 α5 a5 rv => ?_
      have hD : H5 D = some (.lst accV) := a5.rel.fr D _ upd_same
      have q : FitR X.K G cl P1 α1 Fr Wq (RepU X.K) (if accU.length < sizeMax then kS y st4 else .stuck) Q := q
      by_cases hz : accU.length < sizeMax
      · rw [if_pos hz] at q
        exact ⟨accV, hD, by rw [Paired.length ru, ← sizeMax_eq]; exact hz, n1 _ _ _ _ _ _ a5.rel.reframe (a4.same.trans a5.same) (a4.pre.trans a5.pre) rv q⟩
      · rw [if_neg hz] at q
        exact q.elim
/-- the outer turn's meaning -/
def outF (G : Gm) (W k : Nat) (elt : E) (tg : Tn) (ifs : Es) (tg1 : Tn) (ik1 : Ik) (its1 ifs1 : Es) (own own1 : List Nat) (ε : Env) (u : U) (acc : List U) (st2 : Store) : R (List U) := match setTn tg u (wipeE ε own) with
  | none => .stuck
  | some ε1 => (evEs G (cpK G W k) (cmK G W k) ifs ε1 st2).nox.bind fun bs st3 => match tstB bs with
    | some true => ((evEs G (cpK G W k) (cmK G W k) its1 ε1 st3).bind fun us st4 => ofO (walkU ik1 us st4) st4).nox.bind fun items1 st5 => compLoop (turnF G W k elt tg1 ifs1 own1 ε1) items1 acc st5
    | some false => .ok acc st3
    | none => .stuck
theorem evE_comp2 {mu : Bool} {elt : E} {tg : Tn} {ik : Ik} {its ifs : Es} {tg1 : Tn} {ik1 : Ik} {its1 ifs1 : Es} {own own1 : List Nat} {ε : Env} {st : Store} : evE G (cpK G W k) (cmK G W k) (.comp2 mu elt tg ik its ifs tg1 ik1 its1 ifs1 own own1) ε st =
    ((evEs G (cpK G W k) (cmK G W k) its ε st).bind fun us st1 => ofO (walkU ik us st1) st1).bind fun items st1 => (compLoopA (outF G W k elt tg ifs tg1 ik1 its1 ifs1 own own1 ε) items [] st1).bind fun acc st5 => allocL mu acc st5 := by
  rw [evE]; rfl
theorem outF_cases {elt : E} {tg : Tn} {ifs : Es} {tg1 : Tn} {ik1 : Ik} {its1 ifs1 : Es} {own own1 : List Nat} {ε : Env} {u : U} {acc : List U} {st2 : Store} : outF G W k elt tg ifs tg1 ik1 its1 ifs1 own own1 ε u acc st2 = .stuck ∨ ∃ ε1 bs st3 b, setTn tg u (wipeE ε own) = some ε1 ∧ evEs G (cpK G W k) (cmK G W k) ifs ε1 st2 = .ok bs st3 ∧ tstB bs = some b ∧
    ((b = false ∧ outF G W k elt tg ifs tg1 ik1 its1 ifs1 own own1 ε u acc st2 = .ok acc st3) ∨ (b = true ∧ ∃ items1 st5, ((evEs G (cpK G W k) (cmK G W k) its1 ε1 st3).bind fun us st4 => ofO (walkU ik1 us st4) st4) = .ok items1 st5 ∧
      outF G W k elt tg ifs tg1 ik1 its1 ifs1 own own1 ε u acc st2 = compLoop (turnF G W k elt tg1 ifs1 own1 ε1) items1 acc st5)) := by
  unfold outF
  cases hs : setTn tg u (wipeE ε own) with
  | none => exact .inl rfl
  | some ε1 =>
    simp only
    cases hb : evEs G (cpK G W k) (cmK G W k) ifs ε1 st2 with
    | stuck => exact .inl rfl
    | exc => exact .inl rfl
    | ok bs st3 =>
      simp only [R.nox, R.bind]
      cases hbb : tstB bs with
      | none => exact .inl rfl
      | some b =>
        cases b with
        | false => exact .inr ⟨ε1, bs, st3, false, rfl, hb, hbb, .inl ⟨rfl, rfl⟩⟩
        | true =>
          simp only
          cases hi : ((evEs G (cpK G W k) (cmK G W k) its1 ε1 st3).bind fun us st4 => ofO (walkU ik1 us st4) st4) with
          | stuck => exact .inl (by simp only [R.bind] at hi ⊢; rw [hi])
          | exc => exact .inl (by simp only [R.bind] at hi ⊢; rw [hi])
          | ok items1 st5 => exact .inr ⟨ε1, bs, st3, true, rfl, hb, hbb, .inr ⟨rfl, items1, st5, hi, by simp only [R.bind] at hi ⊢; rw [hi]⟩⟩
theorem nofold_it {c : Ct} {ik : Ik} {its : Es} {iter t : Expr} (hsh : itShape ik iter t c.sc G.bts = true) (hits : chkEs G c its (itArgs ik iter) = true) : ∀ (env : PySem.Env) x, foldedSetIterable iter env x = pure x := by
  intro env
  have no : ∀ a b p, iter ≠ .Set a b p := fun a b p w => by
    subst w
    cases ik with
    | val =>
      cases its with
      | nil => simp [itArgs, chkEs] at hits
      | cons e es =>
        simp only [itArgs, chkEs, Bool.and_eq_true] at hits
        obtain ⟨h, _⟩ := hits
        cases e <;> simp [chkE, dictShape, repShape, gen2] at h
    | _ => simp [itShape] at hsh
  intro x
  cases iter with
  | Set a b p => exact absurd rfl (no a b p)
  | _ => rfl
theorem comp2_go {mu : Bool} {elt : E} {tg : Tn} {ik : Ik} {its ifs : Es} {tg1 : Tn} {ik1 : Ik} {its1 ifs1 : Es} {own own1 : List Nat} (he : SndE G W k cl elt) (hi : AllE (SndE G W k cl) its) (hf : AllE (Both G W k cl) ifs) (hi1 : AllE (SndE G W k cl) its1) (hf1 : AllE (Both G W k cl) ifs1) {Wx : WX} (S : Sta G cl k X c) (tk : Takes X Wx)
    {el : Expr} {g g1 : Comprehension} {scope : Scope} (hk : scope.kind = .function) (ht : chkTn (blkCt c scope) tg g.target = true) (ht1 : chkTn (blkCt c scope) tg1 g1.target = true) (hel : chkE G (blkCt c scope) elt el = true) (hifs : chkEs G (blkCt c scope) ifs g.ifs = true) (hifs1 : chkEs G (blkCt c scope) ifs1 g1.ifs = true)
    (hl : g.ifs.length ≤ 1) (hl1 : g1.ifs.length ≤ 1) (hin : (tnSlots tg).all (own.contains ·) = true) (hin1 : (tnSlots tg1).all (own1.contains ·) = true)
    (hsh : itShape ik g.iter g.target c.sc G.bts = true) (hits : chkEs G c its (itArgs ik g.iter) = true) (hsh1 : itShape ik1 g1.iter g1.target (blkCt c scope).sc G.bts = true) (hits1 : chkEs G (blkCt c scope) its1 (itArgs ik1 g1.iter) = true)
    {σ : L2.St} {H P : Hp} {α : List Addr} {Fr : Hp} {st : Store} {ε : Env} (r : Rel X.K P α Fr st H) (ev : EnvOk X.K P α σ ε) {Q : VK}
    (q : FitR X.K G cl P α Fr (fun v d H' => Wx v d σ H') (RepU X.K) (evE G (cpK G W k) (cmK G W k) (.comp2 mu elt tg ik its ifs tg1 ik1 its1 ifs1 own own1) ε st) Q) :
    tLc2 (WI X g.target g.iter) (gB X scope g.target) (tB X scope g.ifs) (iB X scope g1.target g1.iter) (gB X scope g1.target) (tB X scope g1.ifs) (eB X scope el) own own1 σ H Q := by
  rw [evE_comp2] at q
  refine iter_sound S tk hsh hits hi r ev (FitR.bind q fun items st1 J H1 P1 α1 e1 a1 wk q1 => ?_)
  intro D hD
  have hF : Fr D = none := a1.rel.fr.free hD
  let F := outF G W k elt tg ifs tg1 ik1 its1 ifs1 own own1 ε
  let Wq : Value → Option Addr → Hp → Prop := fun v d H' => Wx v d σ H'
  refine ⟨fun i m H => m = items.length - i ∧ i ≤ items.length ∧ ∃ P2 α2 st2 accU accV, Rel X.K P2 α2 (upd Fr D (.lst accV)) st2 H ∧ Same P1 P2 ∧ α1 <+: α2 ∧ RepUs X.K P2 α2 accV accU ∧
    FitR X.K G cl P1 α1 Fr Wq (RepU X.K) ((compLoopA F (items.drop i) accU st2).bind fun acc st5 => allocL mu acc st5) Q,
    ⟨_, rfl, Nat.zero_le _, P1, α1, st1, [], [], a1.rel.enframe hD, Same.refl _, List.prefix_rfl, .nil, q1⟩, ?_⟩
  rintro i m H2 ⟨rfl, hi2, P2, α2, st2, accU, accV, rel2, s2, p2, ru2, q2⟩
  by_cases hlt : i < items.length
  · refine .inr ?_
    have eu : items[i]? = some items[i] := List.getElem?_eq_getElem hlt
    obtain ⟨go, yl⟩ := wk.go i _ H2 P2 α2 _ st2 eu s2 rel2
    rw [List.drop_eq_getElem_cons hlt] at q2
    unfold compLoopA at q2
    refine ⟨go, fun H3 => ∃ P3 α3 st3 accU' accV', Rel X.K P3 α3 (upd Fr D (.lst accV')) st3 H3 ∧ Same P1 P3 ∧ α1 <+: α3 ∧ RepUs X.K P3 α3 accV' accU' ∧
      FitR X.K G cl P1 α1 Fr Wq (RepU X.K) ((compLoopA F (items.drop (i + 1)) accU' st3).bind fun acc st5 => allocL mu acc st5) Q,
      fun H3 h3 => ⟨_, by omega, rfl, hlt, h3⟩, fun x H3 y => ?_⟩
    obtain ⟨P3, a3, rx⟩ := yl x H3 y
    have ev3 := (((ev.mono a1.same a1.pre).mono s2 p2).mono a3.same a3.pre)
    rcases outF_cases (G := G) (W := W) (k := k) (elt := elt) (tg := tg) (ifs := ifs) (tg1 := tg1) (ik1 := ik1) (its1 := its1) (ifs1 := ifs1) (own := own) (own1 := own1) (ε := ε) (u := items[i]) (acc := accU) (st2 := st2) with z | ⟨ε1, bs, st3, b, hs, hb, hbb, alt⟩
    · rw [show F items[i] accU st2 = .stuck from z] at q2; exact q2.elim
    · refine target_go S hk ht hin a3.rel ev3 rx hs fun σ4 ev4 w4 => ⟨w4, ?_⟩
      refine tests_go hf S hk hifs hl a3.rel ev4 hb hbb fun H4 P4 α4 a4 => ?_
      rcases alt with ⟨rfl, z⟩ | ⟨rfl, items1, st5, hw, z⟩
      · rw [if_neg Bool.false_ne_true]
        rw [show F items[i] accU st2 = .ok accU st3 from z] at q2
        exact ⟨P4, α4, st3, accU, accV, a4.rel, (s2.trans a3.same).trans a4.same, (p2.trans a3.pre).trans a4.pre, (ru2.mono a3.same a3.pre).mono a4.same a4.pre, q2⟩
      · rw [if_pos rfl]
        rw [show F items[i] accU st2 = _ from z] at q2
        intro s0 H0 C clo fp
        refine iter_sound (blk_sta S hk s0 H0 C clo fp) takes_none hsh1 hits1 hi1 a4.rel (ev4.mono a4.same a4.pre) ?_
        rw [hw]
        intro J1 H5 P5 α5 a5 wk1
        have ev5 := (ev4.mono a4.same a4.pre).mono a5.same a5.pre
        have ru5 := ((ru2.mono a3.same a3.pre).mono a4.same a4.pre).mono a5.same a5.pre
        have s5 := ((s2.trans a3.same).trans a4.same).trans a5.same
        have p5 := ((p2.trans a3.pre).trans a4.pre).trans a5.pre
        refine ⟨fun j n H => n = items1.length - j ∧ j ≤ items1.length ∧ ∃ P6 α6 st6 accU6 accV6, Rel X.K P6 α6 (upd Fr D (.lst accV6)) st6 H ∧ Same P5 P6 ∧ α5 <+: α6 ∧ RepUs X.K P6 α6 accV6 accU6 ∧
          FitR X.K G cl P1 α1 Fr Wq (RepU X.K) (((compLoop (turnF G W k elt tg1 ifs1 own1 ε1) (items1.drop j) accU6 st6).bind fun acc1 st7 => compLoopA F (items.drop (i + 1)) acc1 st7).bind fun acc st5 => allocL mu acc st5) Q,
          ⟨_, rfl, Nat.zero_le _, P5, α5, st5, accU, accV, a5.rel, Same.refl _, List.prefix_rfl, ru5, q2⟩, ?_⟩
        rintro j n H6 ⟨rfl, hj, P6, α6, st6, accU6, accV6, rel6, s6, p6, ru6, q6⟩
        by_cases hjl : j < items1.length
        · refine .inr ?_
          obtain ⟨go1, yl1⟩ := wk1.go j _ H6 P6 α6 _ st6 (List.getElem?_eq_getElem hjl) s6 rel6
          rw [List.drop_eq_getElem_cons hjl] at q6
          unfold compLoop at q6
          refine ⟨go1, fun H7 => ∃ P7 α7 st7 accU7 accV7, Rel X.K P7 α7 (upd Fr D (.lst accV7)) st7 H7 ∧ Same P5 P7 ∧ α5 <+: α7 ∧ RepUs X.K P7 α7 accV7 accU7 ∧
            FitR X.K G cl P1 α1 Fr Wq (RepU X.K) (((compLoop (turnF G W k elt tg1 ifs1 own1 ε1) (items1.drop (j + 1)) accU7 st7).bind fun acc1 st7 => compLoopA F (items.drop (i + 1)) acc1 st7).bind fun acc st5 => allocL mu acc st5) Q,
            fun H7 h7 => ⟨_, by omega, rfl, hjl, h7⟩, fun x1 H7 y1 => ?_⟩
          obtain ⟨P7, a7, rx1⟩ := yl1 x1 H7 y1
          have q7 : FitR X.K G cl P1 α1 Fr Wq (RepU X.K) ((turnF G W k elt tg1 ifs1 own1 ε1 items1[j] st6).bind fun o st1 => match o with
              | none => ((compLoop (turnF G W k elt tg1 ifs1 own1 ε1) (items1.drop (j + 1)) accU6 st1).bind fun acc1 st7 => compLoopA F (items.drop (i + 1)) acc1 st7).bind fun acc st5 => allocL mu acc st5
              | some x => if accU6.length < sizeMax then ((compLoop (turnF G W k elt tg1 ifs1 own1 ε1) (items1.drop (j + 1)) (accU6 ++ [x]) st1).bind fun acc1 st7 => compLoopA F (items.drop (i + 1)) acc1 st7).bind fun acc st5 => allocL mu acc st5 else .stuck) Q := by
            cases ht : turnF G W k elt tg1 ifs1 own1 ε1 items1[j] st6 with
            | stuck => rw [ht] at q6; exact q6.elim
            | exc => rw [ht] at q6; exact q6
            | ok o st1 =>
              rw [ht] at q6
              cases o with
              | none => exact q6
              | some x =>
                have q6 : FitR X.K G cl P1 α1 Fr Wq (RepU X.K) (((if accU6.length < sizeMax then compLoop (turnF G W k elt tg1 ifs1 own1 ε1) (items1.drop (j + 1)) (accU6 ++ [x]) st1 else .stuck).bind fun acc1 st7 => compLoopA F (items.drop (i + 1)) acc1 st7).bind fun acc st5 => allocL mu acc st5) Q := q6
                show FitR X.K G cl P1 α1 Fr Wq (RepU X.K) (if accU6.length < sizeMax then _ else .stuck) Q
                by_cases hz : accU6.length < sizeMax
                · rw [if_pos hz] at q6 ⊢; exact q6
                · rw [if_neg hz] at q6; exact q6.elim
          refine turn_go he hf1 S hk ht1 hel hifs1 hl1 hin1 a7.rel ((ev5.mono s6 p6).mono a7.same a7.pre) rx1 (ru6.mono a7.same a7.pre) (kN := fun st1 => ((compLoop (turnF G W k elt tg1 ifs1 own1 ε1) (items1.drop (j + 1)) accU6 st1).bind fun acc1 st7 => compLoopA F (items.drop (i + 1)) acc1 st7).bind fun acc st5 => allocL mu acc st5)
            (kS := fun x st1 => ((compLoop (turnF G W k elt tg1 ifs1 own1 ε1) (items1.drop (j + 1)) (accU6 ++ [x]) st1).bind fun acc1 st7 => compLoopA F (items.drop (i + 1)) acc1 st7).bind fun acc st5 => allocL mu acc st5) q7 (fun H8 P8 α8 st8 a8 q8 => ?_) fun H8 P8 α8 st8 yy v r8 s8 p8 rv q8 => ?_
          · exact ⟨P8, α8, st8, accU6, accV6, a8.rel, (s6.trans a7.same).trans a8.same, (p6.trans a7.pre).trans a8.pre, (ru6.mono a7.same a7.pre).mono a8.same a8.pre, q8⟩
          · exact ⟨P8, α8, st8, accU6 ++ [yy], accV6 ++ [v], r8, (s6.trans a7.same).trans s8, (p6.trans a7.pre).trans p8, pappend ((ru6.mono a7.same a7.pre).mono s8 p8) (.cons rv .nil), q8⟩
        · refine .inl ⟨?_, ?_⟩
          · have ej : j = items1.length := by omega
            subst ej
            exact wk1.stop H6 P6 α6 _ st6 s6 rel6
          · have ej : j = items1.length := by omega
            subst ej
            rw [List.drop_length] at q6
            unfold compLoop at q6
            exact ⟨P6, α6, st6, accU6, accV6, rel6, s5.trans s6, p5.trans p6, ru6, q6⟩
  · refine .inl ?_
    have ei : i = items.length := by omega
    subst ei
    rw [List.drop_length] at q2
    unfold compLoopA at q2
    refine ⟨wk.stop H2 P2 α2 _ st2 s2 rel2, ?_⟩
    obtain ⟨rel3, hP3, hH3, hα3⟩ := rel2.deframe hF
    have q3 : FitR X.K G cl P2 α2 Fr Wq (RepU X.K) (allocL mu accU st2) Q := FitR.weak (st1 := st2) (H1 := H2) q2 ⟨rel3, s2, p2⟩
    unfold allocL at q3
    split at q3
    · exact q3 _ _ _ _ (rel3.take_cell hP3 hF hα3 hH3 ru2) (.m (by rw [← rel3.len, List.getElem?_append_right (Nat.le_refl _), Nat.sub_self]; rfl))
    · split at q3
      · rename_i ds hd
        exact q3 _ _ _ _ (rel3.take_in hP3 hF hα3 hH3) (.d (rep_lst (sq_up hP3) (ru2.toDs hd)))
      · exact q3.elim
/-- a comprehension of two fors: all that its rules ask -/
theorem comp2_all {mu : Bool} {elt : E} {tg : Tn} {ik : Ik} {its ifs : Es} {tg1 : Tn} {ik1 : Ik} {its1 ifs1 : Es} {own own1 : List Nat} (he : SndE G W k cl elt) (hi : AllE (SndE G W k cl) its) (hf : AllE (Both G W k cl) ifs) (hi1 : AllE (SndE G W k cl) its1) (hf1 : AllE (Both G W k cl) ifs1) {Wx : WX} (S : Sta G cl k X c) (tk : Takes X Wx)
    {x : Expr} (hc : chkE G c (.comp2 mu elt tg ik its ifs tg1 ik1 its1 ifs1 own own1) x = true) {σ : L2.St} {H P : Hp} {α : List Addr} {Fr : Hp} {st : Store} {ε : Env} (r : Rel X.K P α Fr st H) (ev : EnvOk X.K P α σ ε) {Q : VK}
    (q : FitR X.K G cl P α Fr (fun v d H' => Wx v d σ H') (RepU X.K) (evE G (cpK G W k) (cmK G W k) (.comp2 mu elt tg ik its ifs tg1 ik1 its1 ifs1 own own1) ε st) Q) :
    ∃ (el t iter t1 iter1 : Expr) (fs fs1 : List Expr) (scope : Scope) (pos : Pos), x = .ListComp el [⟨t, iter, fs, 0⟩, ⟨t1, iter1, fs1, 0⟩] scope pos ∧ BlkOk X.N X.env.scope scope (ownOf c own) ∧ (∀ i ∈ own1, i ∈ (ownOf c own).map (·.2)) ∧
      (∀ x, foldedSetIterable iter X.env x = pure x) ∧ (∀ env x, foldedSetIterable iter1 env x = pure x) ∧
      tLc2 (WI X t iter) (gB X scope t) (tB X scope fs) (iB X scope t1 iter1) (gB X scope t1) (tB X scope fs1) (eB X scope el) ((ownOf c own).map (·.2)) own1 σ H Q := by
  have own2 : (ownOf c own).map (·.2) = own := by simp [ownOf, List.map_map, Function.comp_def]
  unfold chkE at hc
  cases hx : gen2 x with
  | none => rw [hx] at hc; cases hc
  | some p =>
    obtain ⟨el, ⟨t, iter, fs, a⟩, ⟨t1, iter1, fs1, a1⟩, scope⟩ := p
    rw [hx] at hc
    simp only [Bool.and_eq_true, decide_eq_true_eq] at hc
    obtain ⟨⟨⟨⟨⟨⟨⟨⟨⟨⟨⟨⟨⟨⟨⟨⟨b1, b2⟩, b3⟩, b4⟩, b5⟩, b6⟩, b7⟩, b8⟩, b9⟩, b10⟩, b11⟩, b12⟩, b13⟩, b14⟩, b15⟩, b16⟩, b17⟩ := hc
    subst b1 b2
    have ok : BlkOk X.N X.env.scope scope (ownOf c own) := by rw [S.hN, S.sc]; exact blkOk_by b3
    obtain ⟨pos, rfl⟩ : ∃ pos, x = .ListComp el [⟨t, iter, fs, 0⟩, ⟨t1, iter1, fs1, 0⟩] scope pos := by
      unfold gen2 at hx
      split at hx
      · cases hx; exact ⟨_, rfl⟩
      · cases hx
    refine ⟨el, t, iter, t1, iter1, fs, fs1, scope, pos, rfl, ok, fun i hi => ?_, nofold_it b14 b15 _, nofold_it b16 b17, ?_⟩
    · rw [own2]
      have := List.all_eq_true.mp b13 i hi
      simpa using this
    · rw [own2]
      exact comp2_go (g := ⟨t, iter, fs, 0⟩) (g1 := ⟨t1, iter1, fs1, 0⟩) he hi hf hi1 hf1 S tk ok.kind b4 b5 b6 b7 b8 b9 b10 b11 b12 b14 b15 b16 b17 r ev q
theorem snd_comp2 {mu : Bool} {elt : E} {tg : Tn} {ik : Ik} {its ifs : Es} {tg1 : Tn} {ik1 : Ik} {its1 ifs1 : Es} {own own1 : List Nat} (he : SndE G W k cl elt) (hi : AllE (SndE G W k cl) its) (hf : AllE (Both G W k cl) ifs) (hi1 : AllE (SndE G W k cl) its1) (hf1 : AllE (Both G W k cl) ifs1) :
    SndE G W k cl (.comp2 mu elt tg ik its ifs tg1 ik1 its1 ifs1 own own1) := by
  intro X c x Wx S tk hc σ H P α Fr st ε r ev Q q
  obtain ⟨el, t, iter, t1, iter1, fs, fs1, scope, pos, rfl, ok, hv, f1, f2, h⟩ := comp2_all he hi hf hi1 hf1 S tk hc r ev q
  exact WE.of (pe_lc2 S.calm (by rw [S.hN]; exact S.nd) pi_W ok hv pgB ptB piB pgB ptB peB f1 f2) h
end
end Ev
end

section
set_option maxRecDepth 10000
set_option autoImplicit false
/-! EvL: every expression. -/
namespace Ev
open PySem PySem.Spec PyProof.Rows L2

section
variable {G : Gm} {W k : Nat} {cl : Nat → Value}
/-- the tests of what is neither not, and, or, a comparison, nor an if -/
local macro_rules | `(tactic| rfl) => `(tactic| (intro c a env h; cases a with
  | UnaryOp o x p => cases o <;> first | exact fun _ => rfl | (simp [chkE, dictShape, repShape, gen2] at h; done)
  | _ => first | exact fun _ => rfl | (simp [chkE, dictShape, repShape, gen2] at h; done)))
mutual
theorem snd_all : ∀ e : E, Both G W k cl e
  | .con kc => ⟨snd_con, snd_con.test (by rfl)⟩
  | .var i => ⟨snd_var, snd_var.test (by rfl)⟩
  | .glob g => ⟨snd_glob, snd_glob.test (by rfl)⟩
  | .bin op a b => ⟨snd_bin (snd_all a).1 (snd_all b).1, (snd_bin (snd_all a).1 (snd_all b).1).test (by rfl)⟩
  | .neg a => ⟨snd_neg (snd_all a).1, (snd_neg (snd_all a).1).test (by rfl)⟩
  | .not_ a => ⟨snd_not (snd_all a).1, tst_not (snd_all a).2⟩
  | .cmp op a b => ⟨snd_cmp (snd_all a).1 (snd_all b).1, tst_cmp (snd_all a).1 (snd_all b).1⟩
  | .chain o1 o2 a b c => ⟨snd_chain (snd_all a).1 (snd_all b).1 (snd_all c).1, tst_chain (snd_all a).1 (snd_all b).1 (snd_all c).1⟩
  | .and_ a b => ⟨snd_and (snd_all a).1 (snd_all b).1, tst_and (snd_all a).2 (snd_all b).2⟩
  | .or_ a b => ⟨snd_or (snd_all a).1 (snd_all b).1, tst_or (snd_all a).2 (snd_all b).2⟩
  | .ite c a b => ⟨snd_ite (snd_all c).2 (snd_all a).1 (snd_all b).1, tst_ite (snd_all c).2 (snd_all a).2 (snd_all b).2⟩
  | .tup es => ⟨snd_tup (sndEs_of (snds_all es).fst), (snd_tup (sndEs_of (snds_all es).fst)).test (by rfl)⟩
  | .lst mu es => ⟨snd_lst (sndEs_of (snds_all es).fst), (snd_lst (sndEs_of (snds_all es).fst)).test (by rfl)⟩
  | .ix a b => ⟨snd_ix (snd_all a).1 (snd_all b).1, (snd_ix (snd_all a).1 (snd_all b).1).test (by rfl)⟩
  | .slice a lo hi => ⟨snd_slice (snd_all a).1 (snds_all lo).fst (snds_all hi).fst, (snd_slice (snd_all a).1 (snds_all lo).fst (snds_all hi).fst).test (by rfl)⟩
  | .call f es => ⟨snd_call (sndEs_of (snds_all es).fst), (snd_call (sndEs_of (snds_all es).fst)).test (by rfl)⟩
  | .callK f ks js es => ⟨snd_callK (sndKs_of (snds_all es).fst), (snd_callK (sndKs_of (snds_all es).fst)).test (by rfl)⟩
  | .bcall b es => ⟨snd_bcall (snds_all es).fst, (snd_bcall (snds_all es).fst).test (by rfl)⟩
  | .isty t e => ⟨snd_isty (snd_all e).1, (snd_isty (snd_all e).1).test (by rfl)⟩
  | .meth0 m o => ⟨snd_meth0 (snd_all o).1, (snd_meth0 (snd_all o).1).test (by rfl)⟩
  | .meth1 m o a => ⟨snd_meth1 (snd_all o).1 (snd_all a).1, (snd_meth1 (snd_all o).1 (snd_all a).1).test (by rfl)⟩
  | .comp mu elt tg ik its ifs own => ⟨snd_comp (snd_all elt).1 (snds_all its).fst (snds_all ifs), (snd_comp (snd_all elt).1 (snds_all its).fst (snds_all ifs)).test (by rfl)⟩
  | .dict ks es => ⟨snd_dict (snds_all es).fst, (snd_dict (snds_all es).fst).test (by rfl)⟩
  | .rep es n => ⟨snd_rep (sndEs_of (snds_all es).fst), (snd_rep (sndEs_of (snds_all es).fst)).test (by rfl)⟩
  | .comp2 mu elt tg ik its ifs tg1 ik1 its1 ifs1 own own1 => ⟨snd_comp2 (snd_all elt).1 (snds_all its).fst (snds_all ifs) (snds_all its1).fst (snds_all ifs1), (snd_comp2 (snd_all elt).1 (snds_all its).fst (snds_all ifs) (snds_all its1).fst (snds_all ifs1)).test (by rfl)⟩
theorem snds_all : ∀ es : Es, AllE (Both G W k cl) es
  | .nil => trivial
  | .cons e es => ⟨snd_all e, snds_all es⟩
end
end
end Ev
end

section
set_option maxRecDepth 10000
set_option autoImplicit false
/-! EvM: statements' syntax meets the machine's. -/
namespace Ev
open PySem PySem.Spec PyProof.Rows L2

section
variable {K : PySem.W.Frag} (G : Gm) (cl : Nat → Value)
variable (K) in
def FitS (P : Hp) (α : List Addr) (Fr : Hp) (Wx : WX) (r : RS) (D : Ends) : Prop := match r with
  | .nx ε st' => ∀ σ' H' P' α', Aft K P α Fr st' H' P' α' → EnvOk K P' α' σ' ε → D.nx σ' H'
  | .ret u st' => ∀ v H' P' α', Aft K P α Fr st' H' P' α' → RepU K P' α' v u → D.rt v H'
  | .brk ε st' => ∀ σ' H' P' α', Aft K P α Fr st' H' P' α' → EnvOk K P' α' σ' ε → D.bk σ' H'
  | .cnt ε st' => ∀ σ' H' P' α', Aft K P α Fr st' H' P' α' → EnvOk K P' α' σ' ε → D.ct σ' H'
  | .exc c x ε st' => ∀ σ' H' P' α' d, Aft K P α Fr st' H' P' α' → EnvOk K P' α' σ' ε → XR G K P' c x d → Wx (cl c) d σ' H'
  | .stuck => False
variable {G} {cl}
theorem FitS.weak {P P1 : Hp} {α α1 : List Addr} {Fr : Hp} {st1 : Store} {H1 : Hp} {Wx : WX} {r : RS} {D : Ends} (h : FitS K G cl P α Fr Wx r D) (a : Aft K P α Fr st1 H1 P1 α1) : FitS K G cl P1 α1 Fr Wx r D := by
  cases r with
  | nx ε st' => exact fun σ' H' P' α' b q => h σ' H' P' α' (a.trans b) q
  | ret u st' => exact fun v H' P' α' b q => h v H' P' α' (a.trans b) q
  | brk ε st' => exact fun σ' H' P' α' b q => h σ' H' P' α' (a.trans b) q
  | cnt ε st' => exact fun σ' H' P' α' b q => h σ' H' P' α' (a.trans b) q
  | exc c x ε st' => exact fun σ' H' P' α' d b q => h σ' H' P' α' d (a.trans b) q
  | stuck => exact h
/-- an expression's part of a statement -/
theorem FitS.bind {β γ : Type} {P : Hp} {α : List Addr} {Fr : Hp} {Wx : WX} {repA : Hp → List Addr → β → γ → Prop} {r : R γ} {f : γ → Store → RS} {D : Ends} {Qa : β → Hp → Prop} {σ : L2.St} {ε : Env} (ev : EnvOk K P α σ ε)
    (h : FitS K G cl P α Fr Wx (r.bindS ε f) D)
    (k : ∀ u st1 v H1 P1 α1, r = .ok u st1 → Aft K P α Fr st1 H1 P1 α1 → repA P1 α1 v u → FitS K G cl P1 α1 Fr Wx (f u st1) D → Qa v H1) : FitR K G cl P α Fr (fun v d H' => Wx v d σ H') repA r Qa := by
  cases r with
  | ok u st' => exact fun v H' P' α' b q => k u st' v H' P' α' rfl b q (FitS.weak h b)
  | exc c x st' => exact fun H' P' α' d b q => h σ H' P' α' d b (ev.mono b.same b.pre) q
  | stuck => exact h
end

section
variable (G : Gm) (W k : Nat) (cl : Nat → Value)
def SndS (s : S) : Prop := ∀ (X : Cx) (c : Ct) (x : Stmt) (Wx : WX), Sta G cl k X c → PassesOwn (model X.prog X.w) X.A X.env X.xe → Takes X Wx → chkS G c s x = true → ∀ (σ : L2.St) (H P : Hp) (α : List Addr) (Fr : Hp) (st : Store) (ε : Env), Rel X.K P α Fr st H → EnvOk X.K P α σ ε → ∀ D : Ends,
  FitS X.K G cl P α Fr Wx (exS G W (cpK G W k) (cmK G W k) s ε st) D → WS X x D σ H
def SndSs (ss : Ss) : Prop := ∀ (X : Cx) (c : Ct) (xs : List Stmt) (Wx : WX), Sta G cl k X c → PassesOwn (model X.prog X.w) X.A X.env X.xe → Takes X Wx → chkSs G c ss xs = true → ∀ (σ : L2.St) (H P : Hp) (α : List Addr) (Fr : Hp) (st : Store) (ε : Env), Rel X.K P α Fr st H → EnvOk X.K P α σ ε → ∀ D : Ends,
  FitS X.K G cl P α Fr Wx (exSs G W (cpK G W k) (cmK G W k) ss ε st) D → WSs X xs D σ H
end

section
variable {G : Gm} {W k : Nat} {cl : Nat → Value}
theorem snd_ret {e : E} : SndS G W k cl (.ret e) := by
  intro X c x Wx S ps tk hc σ H P α Fr st ε r ev D q
  cases x with
  | Return v pos =>
    cases v with
    | none => simp only [chkS, Bool.false_eq_true] at hc
    | some y =>
      simp only [chkS] at hc
      refine WS.of (ps_ret pe_W) ?_
      unfold exS at q
      exact (snd_all e).1 X c y Wx S tk hc σ H P α Fr st ε r ev _ (FitS.bind ev q fun u st1 v H1 P1 α1 e1 a1 rx q1 => q1 _ _ _ _ (Aft.refl a1.rel) rx)
  | _ => simp only [chkS, Bool.false_eq_true] at hc
theorem snd_ex {e : E} : SndS G W k cl (.ex e) := by
  intro X c x Wx S ps tk hc σ H P α Fr st ε r ev D q
  cases x with
  | Expr y pos =>
    simp only [chkS, Bool.and_eq_true, Bool.not_eq_true'] at hc
    refine WS.of (ps_expr pe_W (by cases y <;> first | rfl | (simp [isLC] at hc; done) | (simp [chkE, dictShape, repShape, gen2] at hc; done) | (cases e <;> simp [chkE, dictShape, repShape, gen2] at hc; done))) ?_
    unfold exS at q
    exact (snd_all e).1 X c y Wx S tk hc.1 σ H P α Fr st ε r ev _ (FitS.bind ev q fun u st1 v H1 P1 α1 e1 a1 rx q1 => q1 _ _ _ _ (Aft.refl a1.rel) (ev.mono a1.same a1.pre))
  | _ => simp only [chkS, Bool.false_eq_true] at hc
end
end Ev
end

section
set_option maxRecDepth 10000
set_option autoImplicit false
/-! EvN: assignments. -/
namespace Ev
open PySem PySem.Spec PyProof.Rows L2

section
variable {G : Gm} {W k : Nat} {cl : Nat → Value}
theorem nonlc_sw {v : Expr} {o : Option Expr} {l : Nat} {env : PySem.Env} (h : isLC v = false) (hd : ∀ a b c s p, v ≠ .DictComp a b c s p) (hs : ∀ a c s p, v ≠ .SetComp a c s p) : swapsWith v o l env = pure false := by
  cases v with
  | ListComp => cases h
  | DictComp => exact absurd rfl (hd _ _ _ _ _)
  | SetComp => exact absurd rfl (hs _ _ _ _)
  | _ => rfl
theorem chk_nodc {c : Ct} {e : E} {v : Expr} (h : chkE G c e v = true) : (∀ a b c s p, v ≠ .DictComp a b c s p) ∧ (∀ a c s p, v ≠ .SetComp a c s p) :=
  ⟨fun _ _ _ _ _ z => by subst z; cases e <;> simp [chkE, dictShape, repShape, gen2] at h, fun _ _ _ _ z => by subst z; cases e <;> simp [chkE, dictShape, repShape, gen2] at h⟩
/-- whether the store is made within the comprehension's end -/
theorem sw_lc {X : Cx} {c : Ct} (S : Sta G cl k X c) {el : Expr} {gs : List Comprehension} {scope : Scope} {pos py : Pos} {y : Str} {l : Nat} : ∃ b, swapsWith (.ListComp el gs scope pos) (some (.Name y py)) l X.env = pure b ∧ (b = true → X.env.scope.names.lookup y = some .local) := by
  have hk : X.env.scope.kind = .function := by rw [S.sc]; exact S.kind
  refine ⟨(X.env.blockKind == .function && X.env.kindOf y == some .local && py.line == pos.line && !(scope.names.any fun (n, k) => n == y && (k == .local || k == .cell))), rfl, fun h => ?_⟩
  simp only [Bool.and_eq_true] at h
  have := h.1.1.2
  exact eq_of_beq this
theorem set_name {X : Cx} {c : Ct} {i : Nat} {e : E} {y : Str} {py pos : Pos} {v : Expr} {Wx : WX} (S : Sta G cl k X c) (tk : Takes X Wx) (hn : stName c i y = true) (hc : chkE G c e v = true)
    {σ : L2.St} {H P : Hp} {α : List Addr} {Fr : Hp} {st : Store} {ε : Env} (r : Rel X.K P α Fr st H) (ev : EnvOk X.K P α σ ε) {Q : VK} {D : Ends}
    (q : FitR X.K G cl P α Fr (fun v d H' => Wx v d σ H') (RepU X.K) (evE G (cpK G W k) (cmK G W k) e ε st) (fun x H1 => D.nx (σ.set i (some x)) H1)) : WS X (.Assign [.Name y py] v pos) D σ H := by
  have hN : X.N.Nodup := by rw [S.hN]; exact S.nd
  unfold stName at hn
  rw [Bool.and_eq_true] at hn
  have hi : X.N[i]? = some y := by rw [S.hN]; exact isE_of hn.1
  obtain ⟨h1, h2⟩ := S.sv y hn.2
  have hx : Loc X.env.scope y := by rw [S.sc]; exact h1
  have hf : X.fn y = true ∨ X.env.scope.names.lookup y = some .local := by rw [S.sc]; exact h2
  have plain : swapsWith v (some (.Name y py)) pos.line X.env = pure false → WS X (.Assign [.Name y py] v pos) D σ H := fun hs =>
    WS.of (ps_set hN hi hx pe_W hs hf) ((snd_all e).1 X c v Wx S tk hc σ H P α Fr st ε r ev _ q)
  by_cases hl : isLC v = true
  · cases v with
    | ListComp el gens scope vpos =>
      rcases gens with _ | ⟨⟨t, iter, fs, kk⟩, _ | ⟨⟨t2, iter2, fs2, kk2⟩, _ | ⟨g3, gens⟩⟩⟩
      · cases e <;> simp [chkE, dictShape, repShape, gen2] at hc
      · cases e with
        | comp mu elt tg ik its ifs own =>
          obtain ⟨b, hb, hloc⟩ := sw_lc (el := el) (gs := [⟨t, iter, fs, kk⟩]) (scope := scope) (pos := vpos) (py := py) (y := y) (l := pos.line) S
          cases b with
          | false => exact plain hb
          | true =>
            obtain ⟨rfl, ok, fold, g, tt, te, g1, g2, g3, g4⟩ := comp_go (snd_all elt).1 (snds_all its).fst (snds_all ifs) S tk hc r ev q
            exact WS.of (ps_setLc S.calm hN hi (hloc rfl) hb pi_W ok g1 g2 g3 fold) g4
        | _ => simp [chkE, dictShape, repShape, gen2] at hc
      · cases e with
        | comp2 mu elt tg ik its ifs tg1 ik1 its1 ifs1 own own1 =>
          obtain ⟨b, hb, hloc⟩ := sw_lc (el := el) (gs := [⟨t, iter, fs, kk⟩, ⟨t2, iter2, fs2, kk2⟩]) (scope := scope) (pos := vpos) (py := py) (y := y) (l := pos.line) S
          cases b with
          | false => exact plain hb
          | true =>
            obtain ⟨el', t', iter', t1', iter1', fs', fs1', scope', pos', e, ok, hv, f1, f2, h⟩ := comp2_all (snd_all elt).1 (snds_all its).fst (snds_all ifs) (snds_all its1).fst (snds_all ifs1) S tk hc r ev q
            cases e
            exact WS.of (ps_setLc2 S.calm hN hi (hloc rfl) hb pi_W ok hv pgB ptB piB pgB ptB peB f1 f2) h
        | _ => simp [chkE, dictShape, repShape, gen2] at hc
      · cases e <;> simp [chkE, dictShape, repShape, gen2] at hc
    | _ => cases hl
  · have d := chk_nodc hc
    exact plain (nonlc_sw (by simpa using hl) d.1 d.2)

/-! ### other targets -/
theorem assign_sub {o i : Expr} {pos : Pos} {env : PySem.Env} (h : ∀ x y z p, i ≠ .Slice x y z p) : ∀ v, assign (.Subscript o i pos) env v = (do
      let ov ← holding [v] (eval o env)
      let iv ← holding [v, ov] (eval i env)
      standAt pos
      holding [v, ov, iv] (setItem ov iv v)
      release [v, ov, iv] []) := by
  intro v
  cases i <;> first | rfl | exact absurd rfl (h _ _ _ _)
theorem chk_ns2 {c : Ct} {e : E} {a : Expr} (h : chkE G c e a = true) : ∀ x y z p, a ≠ .Slice x y z p := fun x y z p w => by
  subst w
  rw [chk_noslice] at h; cases h
def endsOf (Q : L2.St → Hp → Prop) : Ends := ⟨Q, fun _ _ => False, fun _ _ => False, fun _ _ => False⟩
theorem setsub_sound {X : Cx} {P : Hp} {α : List Addr} {Fr : Hp} {st st1 : Store} {H : Hp} (r : Rel X.K P α Fr st H) {o i u : U} {vo vi v : V} (ho : RepU X.K P α vo o) (hi : RepU X.K P α vi i) (hu : RepU X.K P α v u) (e : setSub o i u st = .ok () st1) {Q : Hp → Prop}
    (q : ∀ H', Aft X.K P α Fr st1 H' P α → Q H') : ∃ t, PSet X t ∧ t vo vi v H Q := by
  unfold setSub at e
  split at e
  · rename_i n kk
    cases ho with | m ho =>
    cases hi with | d hi =>
    cases hi
    split at e
    · rename_i us hus
      split at e
      · rename_i j hj
        cases e
        obtain ⟨_, _, vs, c3, c4⟩ := r.cell _ _ _ ho hus
        exact ⟨_, set_list, _, _, _, j, rfl, rfl, c3, by rw [Paired.length c4]; exact hj, q _ (r.put ho hus (pset hu j c4))⟩
      · cases e
    · cases e
  · cases e
theorem tg_sound {X : Cx} {c : Ct} {t : Tg} {x : Expr} {Wx : WX} (S : Sta G cl k X c) (tk : Takes X Wx) (hc : chkTg G c t x = true) {σ : L2.St} {H P : Hp} {α : List Addr} {Fr : Hp} {st : Store} {ε : Env} (r : Rel X.K P α Fr st H) (ev : EnvOk X.K P α σ ε)
    {v : V} {u : U} (ru : RepU X.K P α v u) {Q : L2.St → Hp → Prop} (D : Ends) (hD : D.nx = Q) (q : FitS X.K G cl P α Fr Wx (asgTg G (cpK G W k) (cmK G W k) t u ε st) D) : WG X x v σ H Q := by
  cases t with
  | name i =>
    cases x with
    | Name n pos =>
      simp only [asgTg] at q
      rw [← hD]
      exact WG.of (name_pg S hc) (q _ _ _ _ (Aft.refl r) (ev.set ru i))
    | _ => simp [chkTg] at hc
  | sub o i =>
    cases x with
    | Subscript a b pos =>
      simp only [chkTg, Bool.and_eq_true] at hc
      simp only [asgTg] at q
      have set_any : PSet X (fun o i v H Q => ∃ t, PSet X t ∧ t o i v H Q) := fun pins s σ H o i v ov iv u Q I r1 r2 r3 ⟨t, h1, h2⟩ => h1 pins s σ H o i v ov iv u Q I r1 r2 r3 h2
      refine WG.of (pg_sub pe_W pe_W set_any (assign_sub (chk_ns2 hc.2))) ?_
      refine (snd_all o).1 X c a Wx S tk hc.1 σ H P α Fr st ε r ev _ (FitS.bind ev q fun ou st1 vo H1 P1 α1 e1 a1 ro q1 => ?_)
      refine (snd_all i).1 X c b Wx S tk hc.2 σ H1 P1 α1 Fr st1 ε a1.rel (ev.mono a1.same a1.pre) _ (FitS.bind (ev.mono a1.same a1.pre) q1 fun iu st2 vi H2 P2 α2 e2 a2 ri q2 => ?_)
      cases hs : setSub ou iu u st2 with
      | ok z st3 =>
        rw [hs] at q2
        refine setsub_sound a2.rel (ro.mono a2.same a2.pre) ri ((ru.mono a1.same a1.pre).mono a2.same a2.pre) hs fun H' a3 => ?_
        rw [← hD]
        exact q2 _ _ _ _ a3 (((ev.mono a1.same a1.pre).mono a2.same a2.pre).mono a3.same a3.pre)
      | exc cc xx st3 =>
        exfalso
        unfold setSub at hs
        split at hs
        · split at hs
          · split at hs <;> cases hs
          · cases hs
        · cases hs
      | stuck => rw [hs] at q2; exact q2.elim
    | _ => simp [chkTg] at hc
theorem tgs_sound {X : Cx} {c : Ct} {Wx : WX} (S : Sta G cl k X c) (tk : Takes X Wx) {Fr : Hp} {Q : L2.St → Hp → Prop} (D : Ends) (hD : D.nx = Q) : ∀ {ts : List Tg} {xs : List Expr} {vs : List V} {us : List U} {σ : L2.St} {H P : Hp} {α : List Addr} {st : Store} {ε : Env}, chkTgs G c ts xs = true → Rel X.K P α Fr st H → EnvOk X.K P α σ ε →
    RepUs X.K P α vs us → FitS X.K G cl P α Fr Wx (asgTgs G (cpK G W k) (cmK G W k) ts us ε st) D → WGs X xs vs σ H Q
  | [], [], _, _, σ, H, P, α, st, ε, _, r, ev, .nil, q => by
    unfold asgTgs at q
    rw [← hD]
    exact WGs.of pgs_nil ⟨rfl, q _ _ _ _ (Aft.refl r) ev⟩
  | [], [], _, _, σ, H, P, α, st, ε, _, r, ev, .cons _ _, q => by unfold asgTgs at q; exact q.elim
  | [], _ :: _, _, _, _, _, _, _, _, _, h, _, _, _, _ => by simp [chkTgs] at h
  | _ :: _, [], _, _, _, _, _, _, _, _, h, _, _, _, _ => by simp [chkTgs] at h
  | t :: ts, x :: xs, _, _, σ, H, P, α, st, ε, h, r, ev, .nil, q => by unfold asgTgs at q; exact q.elim
  | t :: ts, x :: xs, _, _, σ, H, P, α, st, ε, h, r, ev, .cons (a := v) (b := u) (l₁ := vs) (l₂ := us) rv rs, q => by
    simp only [chkTgs, Bool.and_eq_true] at h
    have hsx : (assignEach (x :: xs) X.env).map (·.2) = assign x X.env :: (assignEach xs X.env).map (·.2) := by
      cases t with
      | name i => cases x <;> first | rfl | (simp [chkTg] at h; done)
      | sub o i => cases x <;> first | rfl | (simp [chkTg] at h; done)
    refine WGs.of (pgs_cons pg_W pgs_W hsx) ⟨_, _, rfl, ?_⟩
    unfold asgTgs at q
    have key : ∀ (rs0 : RS), asgTg G (cpK G W k) (cmK G W k) t u ε st = rs0 → FitS X.K G cl P α Fr Wx rs0 { D with nx := fun σ' H' => WGs X xs vs σ' H' Q } := by
      intro rs0 e0
      rw [e0] at q
      cases rs0 with
      | nx ε1 st1 =>
        intro σ' H' P' α' a1 ev1
        exact tgs_sound S tk D hD h.2 a1.rel ev1 (RepUs.mono a1.same a1.pre rs) (FitS.weak q a1)
      | ret => exact q
      | brk => exact q
      | cnt => exact q
      | exc => exact q
      | stuck => exact q
    exact tg_sound S tk h.1 r ev rv _ rfl (key _ rfl)
theorem tgs_each {c : Ct} {env : PySem.Env} : ∀ {ts : List Tg} {xs : List Expr}, chkTgs G c ts xs = true → (assignEach xs env).length = ts.length ∧ (assignEach xs env).findIdx? (·.1) = none
  | [], [], _ => ⟨rfl, rfl⟩
  | [], _ :: _, h => by simp [chkTgs] at h
  | _ :: _, [], h => by simp [chkTgs] at h
  | t :: ts, x :: xs, h => by
    simp only [chkTgs, Bool.and_eq_true] at h
    obtain ⟨h1, h2⟩ := tgs_each (env := env) h.2
    have e : ∃ f, assignEach (x :: xs) env = (false, f) :: assignEach xs env := by
      cases t with
      | name i => cases x <;> first | exact ⟨_, rfl⟩ | (simp [chkTg] at h; done)
      | sub o i => cases x <;> first | exact ⟨_, rfl⟩ | (simp [chkTg] at h; done)
    obtain ⟨f, e⟩ := e
    rw [e]
    exact ⟨by rw [List.length_cons, h1]; rfl, by rw [List.findIdx?_cons, h2]; rfl⟩
theorem snd_asg {t : Tg} {e : E} : SndS G W k cl (.asg t e) := by
  intro X c x Wx S ps tk hc σ H P α Fr st ε r ev D q
  cases x with
  | Assign tgs v pos =>
    simp only [chkS] at hc
    rcases tgs with _ | ⟨tg, _ | ⟨tg2, tgs⟩⟩ <;> first | (simp only [chkAsg, Bool.false_eq_true] at hc; done) | skip
    simp only [chkAsg, Bool.and_eq_true] at hc
    obtain ⟨⟨h1, h2⟩, h3⟩ := hc
    unfold exS at q
    cases t with
    | name i =>
      cases tg with
      | Name y py =>
        refine set_name (Q := fun _ _ => True) S tk h1 h2 r ev (FitS.bind ev q fun u st1 v H1 P1 α1 e1 a1 rx q1 => ?_)
        exact q1 _ _ _ _ (Aft.refl a1.rel) ((ev.mono a1.same a1.pre).set rx i)
      | _ => simp [chkTg] at h1
    | sub o i =>
      cases tg with
      | Subscript a b pos' =>
        have hsw : swapsWithSole [.Subscript a b pos'] v pos.line X.env = pure false := by cases v <;> rfl
        refine WS.of (ps_asg pe_W pg_W hsw rfl rfl) ?_
        refine (snd_all e).1 X c v Wx S tk h2 σ H P α Fr st ε r ev _ (FitS.bind ev q fun u st1 v H1 P1 α1 e1 a1 rx q1 => ?_)
        exact tg_sound S tk h1 a1.rel (ev.mono a1.same a1.pre) rx D rfl q1
      | _ => simp [chkTg] at h1
  | _ => simp only [chkS, Bool.false_eq_true] at hc
theorem snd_tupS {ts : List Tg} {e : E} : SndS G W k cl (.tup ts e) := by
  intro X c x Wx S ps tk hc σ H P α Fr st ε r ev D q
  cases x with
  | Assign tgs v pos =>
    simp only [chkS] at hc
    rcases tgs with _ | ⟨tg, _ | ⟨tg2, tgs⟩⟩ <;> first | (simp only [chkTup, Bool.false_eq_true] at hc; done) | skip
    · cases tg with
      | Tuple es kk tpos =>
        simp only [chkTup, Bool.and_eq_true, Bool.not_eq_true'] at hc
        obtain ⟨⟨h1, h2⟩, h3⟩ := hc
        unfold exS at q
        have hsw : swapsWithSole [.Tuple es kk tpos] v pos.line X.env = pure false := by cases v <;> rfl
        have hst : swappedStores [.Tuple es kk tpos] v X.env = pure none := by cases v <;> first | rfl | cases h3
        refine WS.of (ps_asg pe_W pg_W hsw hst rfl) ?_
        refine (snd_all e).1 X c v Wx S tk h2 σ H P α Fr st ε r ev _ (FitS.bind ev q fun u st1 v H1 P1 α1 e1 a1 rx q1 => ?_)
        split at q1
        · rename_i xs
          split at q1
          · rename_i hl
            obtain ⟨b1, b2⟩ := tgs_each (env := X.env) h1
            cases rx with | d rx =>
            cases rx with | tup hs ra =>
            exact WG.of (pg_tup S.calm pgs_W b1 b2) ⟨_, _, rfl, Same.sqt a1.rel.sub hs, by rw [ra.length]; exact hl, tgs_sound S tk D rfl h1 a1.rel (ev.mono a1.same a1.pre) (RepUs.of_all ra) q1⟩
          · exact q1.elim
        · exact q1.elim
      | _ => simp only [chkTup, Bool.false_eq_true] at hc
  | _ => simp only [chkS, Bool.false_eq_true] at hc
def starB : Expr → Bool
  | .Starred .. => true
  | _ => false
theorem starB_no {a : Expr} (h : ∀ z p, a ≠ .Starred z p) : starB a = false := by
  cases a with
  | Starred z p => exact absurd rfl (h z p)
  | _ => rfl
/-- two names at once -/
theorem sw_two {x y : Str} {px py : Pos} {kt k2 : Nat} {pt pt2 : Pos} {a b : Expr} {env : PySem.Env} (hb : env.blockKind = .function) (hx : env.kindOf x = some .local) (hy : env.kindOf y = some .local) (hxy : x ≠ y) (hl : px.line = py.line)
    (ha : ∀ z p, a ≠ .Starred z p) (hbb : ∀ z p, b ≠ .Starred z p) (f1 : [a, b].all (foldedForSure 8) = false) (f2 : [a, b].all (constantsAlone 8) = false) :
    swappedStores [.Tuple [.Name x px, .Name y py] kt pt] (.Tuple [a, b] k2 pt2) env = pure (some [x, y]) := by
  have st : ([a, b].any fun | .Starred .. => true | _ => false) = false := by
    have h1 := starB_no ha
    have h2 := starB_no hbb
    unfold starB at h1 h2
    rw [List.any_cons, List.any_cons, List.any_nil, h1, h2]; rfl
  have e1 : (env.kindOf x == some NameKind.local) = true := by rw [hx]; rfl
  have e2 : (env.kindOf y == some NameKind.local) = true := by rw [hy]; rfl
  have e3 : (px.line == px.line) = true := by simp
  have e4 : (py.line == px.line) = true := by rw [hl]; simp
  have yx : (y == x) = false := by simpa using fun h : y = x => hxy h.symm
  have dd : ([x, y] : List Str).eraseDups.length = 2 := by
    rw [List.eraseDups_cons, List.filter_cons, yx]
    simp [List.eraseDups_cons]
  unfold swappedStores
  simp only [hb, st, List.length_cons, List.length_nil, List.head?_cons, Option.map_some, Option.getD_some, Expr.pos, List.filterMap_cons, List.filterMap_nil, e1, e2, e3, e4, Bool.and_self, if_true, dd, f1, f2]
  have cond : ∀ {c : Prop} [Decidable c] {m n : Sem (Option (List Str))}, ¬c → (if c then m else n) = n := fun h => if_neg h
  rw [cond (by decide), cond (by intro h; exact absurd (st.symm.trans h) (by decide)), cond (by decide), cond (by decide), cond (by decide)]
theorem snd_par {is : List Nat} {es : Es} : SndS G W k cl (.par is es) := by
  intro X c x Wx S ps tk hc σ H P α Fr st ε r ev D q
  cases x with
  | Assign tgs v pos =>
    simp only [chkS] at hc
    unfold chkPar at hc
    split at hc
    · rename_i i j ts kt pt vs k2 pt2
      unfold par2 at hc
      split at hc
      · rename_i x px y py a b
        simp only [Bool.and_eq_true, decide_eq_true_eq, Bool.not_eq_true'] at hc
        obtain ⟨⟨⟨⟨⟨⟨⟨⟨⟨h1, h2⟩, h3⟩, h4⟩, h5⟩, h6⟩, h7⟩, h8⟩, h9⟩, h10⟩ := hc
        have hx : X.env.scope.names.lookup x = some .local := by rw [S.sc]; exact h5
        have hy : X.env.scope.names.lookup y = some .local := by rw [S.sc]; exact h6
        have hb : X.env.blockKind = .function := by
          have hk : X.env.scope.kind = .function := by rw [S.sc]; exact S.kind
          unfold PySem.Env.blockKind
          rw [hk]; rfl
        cases es with
        | nil => simp [chkEs] at h1
        | cons e1 es =>
          cases es with
          | nil => simp [chkEs] at h1
          | cons e2 es =>
            have h1' := h1
            simp only [chkEs, Bool.and_eq_true] at h1'
            refine WS.of (ps_par S.calm (by rw [S.hN]; exact S.nd) (by rw [S.hN]; exact isE_of h2) (by rw [S.hN]; exact isE_of h3) h4 hx hy pa_W (sw_two hb hx hy h7 h8 (chk_ns h1'.1) (chk_ns h1'.2.1) h9 h10) rfl) ?_
            unfold exS at q
            refine sndEs_of (snds_all _).fst X c _ Wx S tk h1 σ H P α Fr st ε r ev _ (FitS.bind ev q fun us st1 vs H1 P1 α1 e1 a1 ru q1 => ?_)
            split at q1
            · rename_i ε1 hs
              cases ru with
              | nil => simp [setEs] at hs
              | cons r1 ru =>
                cases ru with
                | nil => simp [setEs] at hs
                | cons r2 ru =>
                  cases ru with
                  | cons r3 ru => simp [setEs] at hs
                  | nil =>
                    simp only [setEs, Option.some.injEq] at hs
                    subst hs
                    exact ⟨_, _, rfl, q1 _ _ _ _ (Aft.refl a1.rel) (((ev.mono a1.same a1.pre).set r1 i).set r2 j)⟩
            · exact q1.elim
      · cases hc
    · cases hc
  | _ => simp only [chkS, Bool.false_eq_true] at hc
end
end Ev
end

section
set_option maxRecDepth 10000
set_option autoImplicit false
/-! EvO: the other statements; every statement. -/
namespace Ev
open PySem PySem.Spec PyProof.Rows L2

section
variable {G : Gm} {W k : Nat} {cl : Nat → Value}
theorem aug_sound {X : Cx} {P : Hp} {H : Hp} {op : Operator} {x y z : D} {vx vy : V} (hx : Rep X.K P vx x) (hy : Rep X.K P vy y) (e : augD op x y = some z) {Q : VK} (q : ∀ v, Rep X.K P v z → Q v H) : ∃ t, PIp X op t ∧ t vx vy H Q := by
  unfold augD at e
  split at e
  · cases hx; cases hy; cases e
    exact ⟨_, iop_add, _, _, rfl, rfl, q _ (.int _)⟩
  · cases hx; cases hy; cases e
    exact ⟨_, iop_sub, _, _, rfl, rfl, q _ (.int _)⟩
  · cases hx; cases hy
    split at e
    · rename_i h
      cases e
      exact ⟨_, iop_mul, _, _, rfl, rfl, cmul_of h, q _ (.int _)⟩
    · cases e
  · cases hx; cases hy
    split at e
    · rename_i h
      cases e
      exact ⟨_, iop_add_str, _, _, rfl, rfl, h, q _ (.str _)⟩
    · cases e
  · cases e
theorem snd_aug {i : Nat} {op : Operator} {e : E} : SndS G W k cl (.aug i op e) := by
  intro X c x Wx S ps tk hc σ H P α Fr st ε r ev D q
  cases x with
  | AugAssign tg o v pos =>
    cases tg with
    | Name n npos =>
      simp only [chkS, Bool.and_eq_true, decide_eq_true_eq] at hc
      obtain ⟨⟨rfl, h2⟩, h3⟩ := hc
      unfold stName at h2
      rw [Bool.and_eq_true] at h2
      obtain ⟨s1, s2⟩ := S.sv n h2.2
      unfold exS at q
      cases he : ε[i]? with
      | none => rw [he] at q; exact q.elim
      | some w =>
        cases w with
        | none => rw [he] at q; exact q.elim
        | some u =>
          cases u with
          | m _ => rw [he] at q; exact q.elim
          | d x =>
            rw [he] at q
            obtain ⟨vx, e1, rx⟩ := ev.at_ i _ he
            cases rx with | d rx =>
            have any : PIp X o (fun x y H Q => ∃ t, PIp X o t ∧ t x y H Q) := fun pins s σ H x y v u Q I r1 r2 ⟨t, h1, h2⟩ => h1 pins s σ H x y v u Q I r1 r2 h2
            refine WS.of (ps_aug (i := i) (by rw [S.hN]; exact S.nd) (by rw [S.hN]; exact isE_of h2.1) (by rw [S.sc]; exact s1) pe_W any (by rw [S.sc]; exact s2)) ⟨_, e1, ?_⟩
            refine (snd_all e).1 X c v Wx S tk h3 σ H P α Fr st ε r ev _ (FitS.bind ev q fun u st1 vy H1 P1 α1 e1 a1 ry q1 => ?_)
            cases u with
            | m _ => exact q1.elim
            | d y =>
              cases ry with | d ry =>
              cases hz : augD o x y with
              | none => simp only [hz] at q1; exact q1.elim
              | some z =>
                simp only [hz] at q1
                exact aug_sound (rx.mono a1.same) ry hz fun v rv => q1 _ _ _ _ (Aft.refl a1.rel) ((ev.mono a1.same a1.pre).set (.d rv) i)
    | _ => simp only [chkS, Bool.false_eq_true] at hc
  | _ => simp only [chkS, Bool.false_eq_true] at hc
/-- a test that a statement asks -/
theorem fitTS {K : PySem.W.Frag} {P : Hp} {α : List Addr} {Fr : Hp} {Wx : WX} {r : R U} {f : Bool → Store → RS} {D : Ends} {σ : L2.St} {ε : Env} {Q : Bool → Hp → Prop} (ev : EnvOk K P α σ ε)
    (h : FitS K G cl P α Fr Wx (r.bindS ε fun u st1 => match u with
      | .d (.bool true) => f true st1
      | .d (.bool false) => f false st1
      | _ => .stuck) D)
    (g : ∀ b st1 H1 P1 α1, Aft K P α Fr st1 H1 P1 α1 → FitS K G cl P1 α1 Fr Wx (f b st1) D → Q b H1) : FitR K G cl P α Fr (fun v d H' => Wx v d σ H') (fun _ _ v u => v = u) (r.bind toB) Q := by
  cases r with
  | ok u st1 =>
    cases u with
    | m n => exact h.elim
    | d x =>
      cases x with
      | bool b =>
        intro v' H1 P1 α1 a1 e
        subst e
        cases v' with
        | true => exact g true st1 H1 P1 α1 a1 (FitS.weak (r := f true st1) h a1)
        | false => exact g false st1 H1 P1 α1 a1 (FitS.weak (r := f false st1) h a1)
      | _ => exact h.elim
  | exc c x st' => exact fun H' P' α' d b q => h σ H' P' α' d b (ev.mono b.same b.pre) q
  | stuck => exact h
theorem snd_ifs {t : E} {a b : Ss} (ha : SndSs G W k cl a) (hb : SndSs G W k cl b) : SndS G W k cl (.ifs t a b) := by
  intro X c x Wx S ps tk hc σ H P α Fr st ε r ev D q
  cases x with
  | If t' a' b' pos =>
    simp only [chkS, Bool.and_eq_true] at hc
    obtain ⟨⟨h1, h2⟩, h3⟩ := hc
    refine WS.of (ps_if pt_W pss_W pss_W) ?_
    unfold exS at q
    refine (snd_all t).2 X c t' Wx S tk h1 σ H P α Fr st ε r ev _ (fitTS (f := fun b0 st1 => if b0 = true then exSs G W (cpK G W k) (cmK G W k) a ε st1 else exSs G W (cpK G W k) (cmK G W k) b ε st1) ev q fun b0 st1 H1 P1 α1 a1 q1 => ?_)
    cases b0 with
    | true => exact ha X c a' Wx S ps tk h2 σ H1 P1 α1 Fr st1 ε a1.rel (ev.mono a1.same a1.pre) D q1
    | false => exact hb X c b' Wx S ps tk h3 σ H1 P1 α1 Fr st1 ε a1.rel (ev.mono a1.same a1.pre) D q1
  | _ => simp only [chkS, Bool.false_eq_true] at hc
/-- a loop's body -/
theorem fit_body {K : PySem.W.Frag} {P : Hp} {α : List Addr} {Fr : Hp} {Wx : WX} {r : RS} {F : Env → Store → RS} {D : Ends} {N : L2.St → Hp → Prop}
    (h : FitS K G cl P α Fr Wx (match r with
      | .nx ε2 st2 => F ε2 st2
      | .cnt ε2 st2 => F ε2 st2
      | .brk ε2 st2 => .nx ε2 st2
      | r => r) D)
    (g : ∀ ε2 st2 σ' H' P' α', Aft K P α Fr st2 H' P' α' → EnvOk K P' α' σ' ε2 → FitS K G cl P' α' Fr Wx (F ε2 st2) D → N σ' H') : FitS K G cl P α Fr Wx r { D with nx := N, ct := N, bk := D.nx } := by
  cases r with
  | nx ε2 st2 => exact fun σ' H' P' α' a ev => g ε2 st2 σ' H' P' α' a ev (FitS.weak (r := F ε2 st2) h a)
  | cnt ε2 st2 => exact fun σ' H' P' α' a ev => g ε2 st2 σ' H' P' α' a ev (FitS.weak (r := F ε2 st2) h a)
  | brk ε2 st2 => exact h
  | ret => exact h
  | exc => exact h
  | stuck => exact h
theorem chk_nost {c : Ct} {e : E} {a : Expr} (h : chkE G c e a = true) : ∀ x y p, a ≠ .Set x y p := fun x y p w => by
  subst w
  cases e <;> simp [chkE, dictShape, repShape, gen2] at h
theorem fold_no {iter : Expr} {env : PySem.Env} (h : ∀ x y p, iter ≠ .Set x y p) (v : Value) : foldedSetIterable iter env v = pure v := by
  cases iter with
  | Set x y p => exact absurd rfl (h x y p)
  | _ => rfl
theorem it_noset {c : Ct} {ik : Ik} {its : Es} {iter t : Expr} (hsh : itShape ik iter t c.sc G.bts = true) (hc : chkEs G c its (itArgs ik iter) = true) : ∀ x y p, iter ≠ .Set x y p := fun x y p w => by
  subst w
  cases ik with
  | val =>
    cases its with
    | nil => simp [itArgs, chkEs] at hc
    | cons e es =>
      simp only [itArgs, chkEs, Bool.and_eq_true] at hc
      exact chk_nost hc.1 _ _ _ rfl
  | _ => simp [itShape] at hsh
theorem snd_for {t : Tn} {ik : Ik} {its : Es} {body : Ss} (hb : SndSs G W k cl body) : SndS G W k cl (.for_ t ik its body) := by
  intro X c x Wx S ps tk hc σ H P α Fr st ε r ev D q
  cases x with
  | For tg iter b orelse pos =>
    cases orelse with
    | cons => simp only [chkS, Bool.false_eq_true] at hc
    | nil =>
      simp only [chkS, Bool.and_eq_true] at hc
      obtain ⟨⟨⟨h1, h2⟩, h3⟩, h4⟩ := hc
      unfold exS at q
      refine WS.of (ps_for ps S.calm pi_W pg_W pss_W (fold_no (it_noset h2 h3))) ?_
      refine iter_sound S tk h2 h3 (snds_all its).fst r ev (FitS.bind (repA := fun P' _ J items => Walk X.K P' J items) ev q fun items st1 J H1 P1 α1 e1 a1 wk q1 => ?_)
      refine ⟨fun i m σ' H' => m = items.length - i ∧ i ≤ items.length ∧ ∃ P2 α2 st2 ε2, Rel X.K P2 α2 Fr st2 H' ∧ Same P1 P2 ∧ EnvOk X.K P2 α2 σ' ε2 ∧ FitS X.K G cl P2 α2 Fr Wx (forLoop (setTn t) (fun ε1 st2 => exSs G W (cpK G W k) (cmK G W k) body ε1 st2) (items.drop i) ε2 st2) D, ⟨_, rfl, Nat.zero_le _, P1, α1, st1, ε, a1.rel, Same.refl _, ev.mono a1.same a1.pre, q1⟩, ?_⟩
      rintro i m σ2 H2 ⟨rfl, hi, P2, α2, st2, ε2, r2, s2, ev2, q2⟩
      by_cases hlt : i < items.length
      · refine .inr ?_
        have hd : items.drop i = items[i] :: items.drop (i + 1) := List.drop_eq_getElem_cons hlt
        obtain ⟨go, yl⟩ := wk.go i items[i] H2 P2 α2 Fr st2 (List.getElem?_eq_getElem hlt) s2 r2
        refine ⟨go, _, fun _ _ z => z, fun x H3 y => ?_⟩
        obtain ⟨P3, a3, ru⟩ := yl x H3 y
        rw [hd] at q2
        unfold forLoop at q2
        split at q2
        · exact q2.elim
        · rename_i ε3 hs3
          refine tn_sound S a3.rel h1 ru hs3 (ev2.mono a3.same a3.pre) fun σ4 ev4 _ _ => ?_
          refine hb X c b Wx S ps tk h4 σ4 H3 P3 α2 Fr st2 ε3 a3.rel ev4 _ (fit_body (FitS.weak q2 a3) fun ε5 st5 σ5 H5 P5 α5 a5 ev5 q5 => ?_)
          exact ⟨_, by omega, rfl, hlt, P5, α5, st5, ε5, a5.rel, (s2.trans a3.same).trans a5.same, ev5, q5⟩
      · have : i = items.length := by omega
        subst this
        refine .inl ⟨wk.stop H2 P2 α2 Fr st2 s2 r2, ?_⟩
        rw [List.drop_length] at q2
        unfold forLoop at q2
        exact q2 _ _ _ _ (Aft.refl r2) ev2
  | _ => simp only [chkS, Bool.false_eq_true] at hc
theorem snd_whil {t : E} {body : Ss} (hb : SndSs G W k cl body) : SndS G W k cl (.whil t body) := by
  intro X c x Wx S ps tk hc σ H P α Fr st ε r ev D q
  cases x with
  | While t' b orelse pos =>
    cases orelse with
    | cons => simp only [chkS, Bool.false_eq_true] at hc
    | nil =>
      simp only [chkS, Bool.and_eq_true] at hc
      obtain ⟨h1, h2⟩ := hc
      unfold exS at q
      refine WS.of (ps_while ps pt_W pss_W) ?_
      refine ⟨fun m σ' H' => ∃ P2 α2 st2 ε2, Rel X.K P2 α2 Fr st2 H' ∧ EnvOk X.K P2 α2 σ' ε2 ∧ FitS X.K G cl P2 α2 Fr Wx (whileLoop (fun ε1 st1 => evE G (cpK G W k) (cmK G W k) t ε1 st1) (fun ε1 st2 => exSs G W (cpK G W k) (cmK G W k) body ε1 st2) m ε2 st2) D, ⟨W, P, α, st, ε, r, ev, q⟩, ?_⟩
      rintro m σ2 H2 ⟨P2, α2, st2, ε2, r2, ev2, q2⟩
      cases m with
      | zero => unfold whileLoop at q2; exact q2.elim
      | succ m =>
        unfold whileLoop at q2
        refine (snd_all t).2 X c t' Wx S tk h1 σ2 H2 P2 α2 Fr st2 ε2 r2 ev2 _ (fitTS (f := fun b0 st1 => if b0 = true then (match exSs G W (cpK G W k) (cmK G W k) body ε2 st1 with
            | .nx ε2 st2 => whileLoop (fun ε1 st1 => evE G (cpK G W k) (cmK G W k) t ε1 st1) (fun ε1 st2 => exSs G W (cpK G W k) (cmK G W k) body ε1 st2) m ε2 st2
            | .cnt ε2 st2 => whileLoop (fun ε1 st1 => evE G (cpK G W k) (cmK G W k) t ε1 st1) (fun ε1 st2 => exSs G W (cpK G W k) (cmK G W k) body ε1 st2) m ε2 st2
            | .brk ε2 st2 => .nx ε2 st2
            | r => r) else .nx ε2 st1) ev2 q2 fun b0 st3 H3 P3 α3 a3 q3 => ?_)
        cases b0 with
        | true =>
          refine ⟨_, fun _ _ z => z, ?_⟩
          refine hb X c b Wx S ps tk h2 σ2 H3 P3 α3 Fr st3 ε2 a3.rel (ev2.mono a3.same a3.pre) _ (fit_body q3 fun ε5 st5 σ5 H5 P5 α5 a5 ev5 q5 => ?_)
          exact ⟨m, Nat.lt_succ_self _, P5, α5, st5, ε5, a5.rel, ev5, q5⟩
        | false => exact q3 _ _ _ _ (Aft.refl a3.rel) (ev2.mono a3.same a3.pre)
  | _ => simp only [chkS, Bool.false_eq_true] at hc
theorem snd_pass : SndS G W k cl .pass := by
  intro X c x Wx S ps tk hc σ H P α Fr st ε r ev D q
  cases x with
  | Pass pos => unfold exS at q; exact WS.of ps_pass (q _ _ _ _ (Aft.refl r) ev)
  | _ => simp only [chkS, Bool.false_eq_true] at hc
theorem snd_brk : SndS G W k cl .brk := by
  intro X c x Wx S ps tk hc σ H P α Fr st ε r ev D q
  cases x with
  | Break pos => unfold exS at q; exact WS.of ps_break (q _ _ _ _ (Aft.refl r) ev)
  | _ => simp only [chkS, Bool.false_eq_true] at hc
theorem snd_cnt : SndS G W k cl .cnt := by
  intro X c x Wx S ps tk hc σ H P α Fr st ε r ev D q
  cases x with
  | Continue pos => unfold exS at q; exact WS.of ps_continue (q _ _ _ _ (Aft.refl r) ev)
  | _ => simp only [chkS, Bool.false_eq_true] at hc
theorem snd_retN : SndS G W k cl .retN := by
  intro X c x Wx S ps tk hc σ H P α Fr st ε r ev D q
  cases x with
  | Return v pos =>
    cases v with
    | some y => simp only [chkS, Bool.false_eq_true] at hc
    | none => unfold exS at q; exact WS.of ps_retN (q _ _ _ _ (Aft.refl r) (.d .non))
  | _ => simp only [chkS, Bool.false_eq_true] at hc
theorem snd_never : SndS G W k cl .never := by
  intro X c x Wx S ps tk hc σ H P α Fr st ε r ev D q
  unfold exS at q
  exact q.elim
theorem snd_ghost {i : Nat} : SndS G W k cl (.freeze i) := by
  intro X c x Wx S ps tk hc σ H P α Fr st ε r ev D q
  cases x <;> simp only [chkS, Bool.false_eq_true] at hc
/-- a ghost changes the store, and nothing of the machine -/
theorem freeze_step {X : Cx} {i : Nat} {ss : Ss} {Wx : WX} {σ : L2.St} {H P : Hp} {α : List Addr} {Fr : Hp} {st : Store} {ε : Env} (r : Rel X.K P α Fr st H) (ev : EnvOk X.K P α σ ε) {D : Ends}
    (q : FitS X.K G cl P α Fr Wx (exSs G W (cpK G W k) (cmK G W k) (.cons (.freeze i) ss) ε st) D) :
    ∃ P1 st1 ε1, Rel X.K P1 α Fr st1 H ∧ EnvOk X.K P1 α σ ε1 ∧ FitS X.K G cl P1 α Fr Wx (exSs G W (cpK G W k) (cmK G W k) ss ε1 st1) D := by
  unfold exSs at q
  unfold exS at q
  cases he : ε[i]? with
  | none => rw [he] at q; exact q.elim
  | some w =>
    cases w with
    | none => rw [he] at q; exact q.elim
    | some u =>
      cases u with
      | d x => rw [he] at q; exact q.elim
      | m n =>
        rw [he] at q
        cases hs : st[n]? with
        | none => simp only [hs] at q; exact q.elim
        | some cell =>
          cases cell with
          | dead => simp only [hs] at q; exact q.elim
          | lst us =>
            cases ht : toDs us with
            | none => simp only [hs, ht] at q; exact q.elim
            | some ds =>
              simp only [hs, ht] at q
              obtain ⟨v, e1, rv⟩ := ev.at_ i _ he
              cases rv with | m rv =>
              obtain ⟨vs, _, a, rr⟩ := r.freeze rv hs ht
              have ev1 := ev.mono a.same a.pre
              refine ⟨_, _, _, a.rel, ⟨?_, ?_⟩, FitS.weak q a⟩
              · rw [ev1.len]; simp [setE]
              · intro j w hj
                by_cases hij : i = j
                · subst hij
                  have hi : i < ε.length := (List.getElem?_eq_some_iff.mp he).1
                  unfold setE at hj
                  rw [List.getElem?_set_self hi] at hj
                  cases hj
                  exact ⟨_, e1, .d rr⟩
                · unfold setE at hj
                  rw [List.getElem?_set_ne hij] at hj
                  exact ev1.at_ j w hj
theorem snds_nil : SndSs G W k cl .nil := by
  intro X c xs Wx S ps tk hc σ H P α Fr st ε r ev D q
  cases xs with
  | nil => unfold exSs at q; exact WSs.of pss_nil (q _ _ _ _ (Aft.refl r) ev)
  | cons => simp [chkSs] at hc
theorem snds_cons {s : S} {ss : Ss} (h1 : SndS G W k cl s) (h2 : SndSs G W k cl ss) : SndSs G W k cl (.cons s ss) := by
  intro X c xs Wx S ps tk hc σ H P α Fr st ε r ev D q
  unfold chkSs at hc
  by_cases hg : isGhost s = true
  · rw [if_pos hg] at hc
    cases s with
    | freeze i =>
      obtain ⟨P1, st1, ε1, r1, ev1, q1⟩ := freeze_step r ev q
      exact h2 X c xs Wx S ps tk hc σ H P1 α Fr st1 ε1 r1 ev1 D q1
    | _ => cases hg
  · rw [if_neg hg] at hc
    cases xs with
    | nil => cases hc
    | cons x xs =>
      simp only [Bool.and_eq_true] at hc
      refine WSs.of (pss_cons ps_W pss_W) ?_
      refine h1 X c x Wx S ps tk hc.1 σ H P α Fr st ε r ev _ ?_
      unfold exSs at q
      cases hr : exS G W (cpK G W k) (cmK G W k) s ε st with
      | nx ε1 st1 =>
        rw [hr] at q
        intro σ' H' P' α' a ev'
        exact h2 X c xs Wx S ps tk hc.2 σ' H' P' α' Fr st1 ε1 a.rel ev' D (FitS.weak q a)
      | ret => rw [hr] at q; exact q
      | brk => rw [hr] at q; exact q
      | cnt => rw [hr] at q; exact q
      | exc => rw [hr] at q; exact q
      | stuck => rw [hr] at q; exact q
mutual
theorem sndS_all : ∀ s : S, SndS G W k cl s
  | .pass => snd_pass
  | .ret _ => snd_ret
  | .retN => snd_retN
  | .asg _ _ => snd_asg
  | .tup _ _ => snd_tupS
  | .par _ _ => snd_par
  | .aug _ _ _ => snd_aug
  | .ex _ => snd_ex
  | .ifs _ a b => snd_ifs (sndSs_all a) (sndSs_all b)
  | .for_ _ _ _ b => snd_for (sndSs_all b)
  | .whil _ b => snd_whil (sndSs_all b)
  | .brk => snd_brk
  | .cnt => snd_cnt
  | .never => snd_never
  | .freeze _ => snd_ghost
theorem sndSs_all : ∀ ss : Ss, SndSs G W k cl ss
  | .nil => snds_nil
  | .cons s ss => snds_cons (sndS_all s) (sndSs_all ss)
end
end
end Ev
end

section
set_option maxRecDepth 10000
set_option autoImplicit false
/-! EvP: every def keeps its promise; the head of a law. -/
namespace Ev
open PySem PySem.Spec PyProof.Rows L2

section
variable {P : Program} {w : World} {K : PySem.W.Frag} {mg : Str → Option Value} {base : Heap}
/-- a def's promise from its body, where nothing is being shown -/
theorem fng_of {k : Nat} {f : Addr} {name qual : Str} {params : Arguments} {body : List Stmt} {scope : Scope} {dV kV doc pm cdv ct oc : Value} {an od : Option Addr} {osl : Array (Option Value)} {N ps : List Str} {sp : Sp}
    (there : K.lookup f = some ⟨oc, od, .func (PySem.W.fnOf name qual params body scope dV kV doc pm an cdv ct), osl⟩) (code : PySem.W.codeIn K cdv qual = true) (S : FnScope N ps scope) (many : ∀ vs H Q E, sp vs H Q E → vs.length = ps.length)
    (run : ∀ (A : Around) (outer : List PySem.Env) (s : Shared) (H : Hp) (vs : List V) (Q : VK) (E : XK), Room k (A.deeper (envOfC qual scope s.heap.objs.size f cdv)) → A.guards = some [] → sp vs H Q E →
      WSs (cxOf (L2.CX P w) P w K mg base N qual scope f cdv A outer s H E) body { nx := fun _ H' => Q .non H', rt := Q } (L2.start N vs) H) :
    FnG P w K mg base (k + 1) f (PySem.W.fnOf name qual params body scope dV kV doc pm an cdv ct) ps sp := by
  refine ⟨many, fun A outer s H args us vs Q E room quiet at0 binds rel wish => ?_⟩
  have same0 : ∀ b o, base.get? b = some o → s.heap.get? b = some o := fun b o e => (at0.bs b o e).1
  have here : K.In s.heap := at0.mod.kin.keeps same0
  have free : s.heap.NoLimit := at0.mod.nolimit.keeps same0
  have kinds : ∀ y ∈ ps.zip us, scope.names.lookup y.1 = some .local ∨ (scope.names.lookup y.1 = some .cell ∧ ((cellsFrom (s.heap.objs.size + 1) scope.names []).lookup y.1).isSome = true) := by
    rintro ⟨n, v⟩ hy
    exact (S.par n (List.of_mem_zip hy).1).imp id fun q => ⟨q, PySem.W.cellsFrom_some _ _ _ (.inl q)⟩
  refine codeAny_call_function room.depth (here _ _ there) rfl S.co S.gen rfl (PySem.W.codeRec_of here code) (binds _ _ _ _ ?_)
  refine wpAny_newFunctionEnv_cells S.kind kinds fun env he s1 inside => ?_
  subst he
  refine ⟨free.keeps inside.toInCall.keep, codeAny_func ?_⟩
  have I := inv_start (CX := L2.CX P w) (cd := cdv) (E := E) S room.hd at0 (many _ _ _ _ wish) rel inside
  refine wpAny_mono (run A outer s H vs Q E (room.deeper _) quiet wish [] s1 I) (fun fl s' z => ?_) fun e s' z => z
  cases fl with
  | brk => exact z.elim fun _ y => y.elim fun _ x => x.2.elim
  | cont => exact z.elim fun _ y => y.elim fun _ x => x.2.elim
  | next =>
    obtain ⟨σ', H', J, q⟩ := z
    exact ⟨V.non, H', J.os, J.bare, J.base, J.hok, rfl, q⟩
  | ret u =>
    obtain ⟨v, σ', H', J, rv, q⟩ := z
    exact ⟨v, H', J.os, J.bare, J.base, J.hok, rv, q⟩

/-- what the top has left of a def -/
structure Known (K : PySem.W.Frag) (mg : Str → Option Value) (G : Gm) (F : Fn) : Prop where
  ex : ∃ (a : Addr) (st : Stmt) (oc : Value) (od : Option Addr) (dV kV doc pm : Value) (an : Option Addr) (cdv ct : Value) (osl : Array (Option Value)),
    mg F.name = some (.ref a) ∧ PySem.W.keepIn K (.ref a) = true ∧ K.lookup a = some ⟨oc, od, .func (PySem.W.fnOf F.name F.name (defArgs st) (defBody st) (defScope st) dV kV doc pm an cdv ct), osl⟩ ∧ PySem.W.codeIn K cdv F.name = true ∧
    FnScope F.N F.ps (defScope st) ∧ chkSs G ⟨F.N, defScope st, fun x => locB (defScope st) x⟩ F.body (defBody st) = true ∧
    (∀ j, j ≤ F.dfl.length → ∃ (ds : List Value) (vs : List V), Binds K (PySem.W.fnOf F.name F.name (defArgs st) (defBody st) (defScope st) dV kV doc pm an cdv ct) F.ps ds ∧ Vals vs ds ∧ RepAll K (fun _ => none) vs (F.dfl.drop (F.dfl.length - j))) ∧
    ∀ p ∈ F.kss, ∀ (s : Shared) (ws vs : List Value), K.In s.heap → ws.length = p.1.length → pick ws p.2 = some vs → BindsTo s (PySem.W.fnOf F.name F.name (defArgs st) (defBody st) (defScope st) dV kV doc pm an cdv ct) ⟨[], (p.1.filterMap (F.ps[·]?)).zip ws⟩ (F.ps.zip vs)
structure Knows (K : PySem.W.Frag) (mg : Str → Option Value) (G : Gm) : Prop where
  fn : ∀ (f : Nat) F, G.fns[f]? = some F → Known K mg G F
  con : ∀ (g : Nat) p, G.consts[g]? = some p → ∃ u v, mg p.1 = some u ∧ RelV v u ∧ Rep K (fun _ => none) v p.2
  bt : ∀ x ∈ G.bts, mg x = none

theorem start_env {P0 : Hp} {α : List Addr} {F : Fn} {vs : List V} {us : List U} (r : RepUs K P0 α vs us) (hl : vs.length ≤ F.N.length) : EnvOk K P0 α (L2.start F.N vs) (startE F us) := by
  have hlen := Paired.length r
  refine ⟨?_, fun i u e => ?_⟩
  · unfold L2.start startE
    simp only [List.length_append, List.length_map, List.length_replicate]
    omega
  · unfold startE at e
    by_cases hi : i < us.length
    · rw [List.getElem?_append_left (by rw [List.length_map]; exact hi), List.getElem?_map] at e
      cases hu : us[i]? with
      | none => rw [hu] at e; cases e
      | some u' =>
        rw [hu] at e
        cases e
        obtain ⟨v, e1, e2⟩ := pget r hu
        refine ⟨v, ?_, e2⟩
        unfold L2.start
        rw [List.getElem?_append_left (by rw [List.length_map]; exact (List.getElem?_eq_some_iff.mp e1).1), List.getElem?_map, e1]
        rfl
    · rw [List.getElem?_append_right (by rw [List.length_map]; omega), List.getElem?_replicate] at e
      split at e <;> cases e
theorem fit_fin {G : Gm} {cl : Nat → Value} {P0 : Hp} {α : List Addr} {Fr : Hp} {E : XK} {r : RS} {Q : VK} (h : FitR K G cl P0 α Fr E (RepU K) (fin r) Q) : FitS K G cl P0 α Fr (fun cls d _ H => E cls d H) r { nx := fun _ H' => Q .non H', rt := Q } := by
  cases r with
  | nx ε st => exact fun σ' H' P' α' a _ => h .non H' P' α' a (.d .non)
  | ret u st => exact h
  | brk => exact h.elim
  | cnt => exact h.elim
  | exc c x ε st => exact fun σ' H' P' α' d a _ z => h H' P' α' d a z
  | stuck => exact h
/-- every def keeps its promise, so deep -/
theorem all_fn {G : Gm} {cl : Nat → Value} (T : Knows K mg G) : ∀ (k f : Nat) (F : Fn), G.fns[f]? = some F → FnIn P w K mg base G cl k f F := by
  intro k
  induction k with
  | zero =>
    intro f F hF
    obtain ⟨a, st, oc, od, dV, kV, doc, pm, an, cdv, ct, osl, h1, h2, h3, h4, h5, h6, h7, h8⟩ := (T.fn f F hF).ex
    refine ⟨a, _, h1, h2, ⟨fun _ _ _ _ z => z.1, fun A outer s H args us vs Q E _ _ _ _ _ z => ?_⟩, h7, h8⟩
    obtain ⟨_, W, P0, α, Fr, st0, us0, _, _, q⟩ := z
    exact q.elim
  | succ k ih =>
    intro f F hF
    obtain ⟨a, st, oc, od, dV, kV, doc, pm, an, cdv, ct, osl, h1, h2, h3, h4, h5, h6, h7, h8⟩ := (T.fn f F hF).ex
    refine ⟨a, _, h1, h2, fng_of h3 h4 h5 (fun _ _ _ _ z => z.1) fun A outer s H vs Q E room quiet z => ?_, h7, h8⟩
    obtain ⟨hl, W, P0, α, Fr, st0, us, r, ru, q⟩ := z
    have hle : F.ps.length ≤ F.N.length := by
      have := congrArg List.length h5.pre
      rw [List.length_take] at this
      omega
    have hus : us.length = F.ps.length := by rw [← Paired.length ru]; exact hl
    unfold callRaw at q
    rw [hF] at q
    simp only [fill_full hus] at q
    rw [if_pos hus] at q
    have sta : Sta G cl k (cxOf (L2.CX P w) P w K mg base F.N F.name (defScope st) a cdv A outer s H E) ⟨F.N, defScope st, fun x => locB (defScope st) x⟩ :=
      { hN := rfl, nd := h5.nd, sc := rfl, kind := h5.kind, calm := rfl, room := room, guards := quiet, sv := fun x hx => ⟨loc_of hx, .inl rfl⟩, fn := ih, con := T.con, bt := T.bt }
    exact sndSs_all F.body _ _ _ (fun cls d _ H => E cls d H) sta (passes_of rfl) (takes_of rfl rfl rfl rfl) h6 _ _ _ _ _ _ _ r (start_env ru (by omega)) _ (fit_fin q)
end

/-! ### the head -/
/-- one list of whole numbers is at hand, and nothing else -/
def hold1 (a : Addr) (o : Obj) (xs : List V) (b : Bool) : Hp := fun c => if b = true ∧ c = a then some (.frz o (.lst xs)) else none
theorem hold1_some {a c : Addr} {o : Obj} {xs : List V} {b : Bool} {u : HO} (h : hold1 a o xs b c = some u) : b = true ∧ c = a ∧ u = .frz o (.lst xs) := by
  unfold hold1 at h
  split at h
  · rename_i z; cases h; exact ⟨z.1, z.2, rfl⟩
  · cases h
theorem hold1_free {a c : Addr} {o : Obj} {xs : List V} {b : Bool} (h : c ≠ a) : hold1 a o xs b c = none := if_neg fun z => h z.2
theorem head_call {P : Program} {w : World} {K : PySem.W.Frag} {mg mb : Str → Option Value} {k : Nat} {fa a : Addr} {x : Str} {sp : Sp} {s₁ : Shared} {vs : List Value} {ns : List Int}
    (inK : K.In s₁.heap) (atG : s₁.heap.Ns mainGlobals mg) (atB : s₁.heap.Ns builtinsNs mb) (boot : ∀ x : Str, x ≠ "__name__" → mb x = bootBuiltins x) (lim : s₁.heap.NoLimit) (noGen : s₁.gens = #[])
    (obj : s₁.heap.get? a = some { cls := .type "list", data := .seq vs.toArray }) (nums : IntsAre vs ns) (short : ns.length ≤ sizeLine) (room : Room k callerA)
    (F : ∀ base : Heap, K.In base → base.Ns mainGlobals mg → ∃ fd : FuncData, BindsTo s₁ fd ⟨[.ref a], []⟩ [(x, .ref a)] ∧ FnG P w K mg base k fa fd [x] sp)
    (keeps : ∀ H : Hp, SqL K H a (ns.map V.int) → sp [.ref a] H (fun v _ => v = .bl true) fun _ _ _ => False) :
    codeAny (model P w) callerA (.call (.ref fa) ⟨[.ref a], []⟩) (fun r s' => r = .ok (.ret (.bool true)) ∧ OldK s₁.heap s'.heap ∧ s'.os = s₁.os ∧ AllBare s'.gens) s₁ := by
  have rel := vals_ints nums
  obtain ⟨own, hown⟩ : ∃ b : Bool, b = (K.lookup a).isNone := ⟨_, rfl⟩
  let o : Obj := { cls := .type "list", data := .seq vs.toArray }
  let H : Hp := hold1 a o (ns.map V.int) own
  have notK : ∀ c, H c ≠ none → c = a ∧ K.lookup a = none := fun c z => by
    cases e : H c with
    | none => exact absurd e z
    | some u =>
      obtain ⟨e1, e2, _⟩ := hold1_some e
      exact ⟨e2, by rw [hown] at e1; exact Option.isNone_iff_eq_none.mp e1⟩
  have seq : SqL K H a (ns.map V.int) := by
    cases e : K.lookup a with
    | none => exact .inl (.inr ⟨o, by show hold1 a o _ own a = _; unfold hold1; rw [if_pos ⟨by rw [hown, e]; rfl, rfl⟩]⟩)
    | some ob =>
      have e1 := inK a ob e
      rw [obj] at e1
      cases e1
      exact .inr ⟨_, vs.toArray, _, e, rfl, rfl, rfl, by rw [List.size_toArray, nums.length]; exact short, by simpa using rel⟩
  have ok : HOk P w H s₁.heap := fun c u e => by
    obtain ⟨_, rfl, rfl⟩ := hold1_some e
    exact ⟨obj, by rw [List.length_map]; exact short, vs, _, rel, obj⟩
  have see : ∀ {c : Addr} {ob : Obj}, s₁.heap.get? c = some ob → H c = none → (hidT s₁.heap H).get? c = some ob := fun e n => hidT_get e n
  have dictFree : ∀ {c : Addr} {ob : Obj} {es : Array DictEntry} {ep : Nat}, s₁.heap.get? c = some ob → ob.data = .dict es ep → H c = none := fun {c ob es ep} e d => by
    refine hold1_free fun z => ?_
    rw [z, obj] at e
    cases e
    cases d
  have nsOf : ∀ {c : Addr} {m : Str → Option Value}, s₁.heap.Ns c m → (hidT s₁.heap H).Ns c m := by
    rintro c m ⟨ob, es, ep, e, d, r⟩
    exact ⟨ob, es, ep, see e (dictFree e d), d, r⟩
  have kIn : K.In (hidT s₁.heap H) := fun c ob e => see (inK c ob e) (by
    cases q : H c with
    | none => rfl
    | some u =>
      obtain ⟨rfl, z⟩ := notK c (by rw [q]; exact Option.some_ne_none u)
      rw [z] at e
      cases e)
  have modOk : Mod K mg (hidT s₁.heap H) := ⟨kIn, nsOf atG, ⟨mb, nsOf atB, boot⟩, lim.elim fun mc h => ⟨mc, nsOf h.1, h.2⟩⟩
  have at0 : Env0 P w K mg (hidT s₁.heap H) callerA [] s₁ H := ⟨rfl, modOk, fun c ob e => of_hidT e, Nat.le_of_eq (hidT_size _ _), trivial, fun c hc => (nomatch hc), ok, AllBare.of_eq noGen⟩
  obtain ⟨fd, binds, good⟩ := F _ kIn (nsOf atG)
  refine codeAny_mono (good.run callerA [] s₁ H ⟨[.ref a], []⟩ [.ref a] [.ref a] _ _ room rfl at0 binds (.cons rfl .nil) (keeps H seq)) fun r s' res => ?_
  cases r with
  | error e =>
    obtain ⟨_, _, _, _, _, _, _, _, _, _, _, _, no⟩ := res
    exact no.elim
  | ok fl =>
    cases fl with
    | next => exact res.elim
    | brk => exact res.elim
    | cont => exact res.elim
    | ret u =>
      obtain ⟨v, H', os, bare, un, ok', rv, hv⟩ := res
      have hv : v = .bl true := hv
      subst hv
      obtain rfl : u = Value.bool true := rv
      refine ⟨rfl, OldK.of_keep fun c ob e => ?_, os, bare⟩
      cases q : H c with
      | none => exact un.keep c ob e q (fun z => nomatch z) (by simp)
      | some u =>
        obtain ⟨_, rfl, rfl⟩ := hold1_some q
        obtain ⟨e1, _⟩ := ok c _ q
        obtain ⟨e2, _⟩ := ok' c _ (un.frzs c _ _ q)
        rw [e1] at e
        cases e
        exact e2
theorem rep_ints {K : PySem.W.Frag} {P : Hp} : ∀ ns : List Int, RepAll K P (ns.map V.int) (ns.map PyData.int)
  | [] => .nil
  | n :: ns => .cons (.int n) (rep_ints ns)
theorem spec_law {K : PySem.W.Frag} {G : Gm} {cl : Nat → Value} {k f : Nat} {x : Str} {W : Nat} {ns : List Int} {st : Store} (e : callRaw G W k f [.d (.list (ns.map .int))] [] = .ok (.d (.bool true)) st) {H : Hp} {a : Addr} (h : SqL K H a (ns.map V.int)) :
    spec K G cl k f [x] [.ref a] H (fun v _ => v = .bl true) fun _ _ _ => False := by
  refine ⟨rfl, W, H, [], fun _ => none, [], [.d (.list (ns.map .int))], ⟨Same.refl _, same_none _, rfl, List.nodup_nil, fun n a us e _ => (nomatch e), fun b o e => (nomatch e), fun n a e _ => (nomatch e)⟩, .cons (.d (.lst h (rep_ints ns))) .nil, ?_⟩
  rw [e]
  intro v H' P' α' _ r
  cases r with | d r =>
  cases r
  rfl
/-- the goal behind k_fill -/
theorem walk_by {l : PySem.W.OpenLaw} {n k W f : Nat} {G : Gm} {q : Program} {loose : List Str} {XP : (Str → Option Value) → Heap → Prop} {YP : World → Heap → Prop} {d : DefRec} {K : Params → PySem.W.Frag} {x : Str} {F : Fn}
    (hn : l.most = some n) (hn2 : n ≤ sizeLine) (hdf : d.params.defaults = []) (hr : Room k callerA) (hY : ∀ (w : World) (h : Heap), YP w h → (K w.params).In h)
    (hF : G.fns[f]? = some F) (hname : F.name = d.name) (hps : F.ps = [x])
    (T : ∀ (w : World) (mg : Str → Option Value) (h : Heap), (K w.params).In h → h.Ns mainGlobals mg → Knows (K w.params) mg G)
    (val : ∀ ns : List Int, ns.length ≤ n → ∃ st, callRaw G W k f [.d (.list (ns.map .int))] [] = .ok (.d (.bool true)) st) :
    PySem.W.WalkO q loose XP YP l.row.toRowW d [] (fun f vs => PySem.call f vs) := by
  refine Att.attach_call hn hdf fun w s₀ s₁ mg mb fa o pm cd doc a vs ns gr Y ho hd hcd hmg hobj hints hlen hg => ?_
  have inK := hY w _ Y
  have tab := T w mg _ inK gr.T.g
  obtain ⟨st, hst⟩ := val ns hlen
  refine head_call (x := x) (sp := spec (K w.params) G (fun _ => .none) k f [x]) inK gr.T.g gr.T.b gr.T.builtins gr.T.nolimit hg hobj hints (Nat.le_trans hlen hn2) hr (fun base _ _ => ?_) fun H hS => spec_law hst hS
  obtain ⟨fa', fd, h1, h2, h3, h4, h5⟩ := (all_fn (P := l.prog) (w := w) (base := base) (cl := fun _ => .none) tab k f F hF).ex
  rw [hname, hmg] at h1
  cases h1
  rw [hps] at h3
  refine ⟨fd, ?_, h3⟩
  obtain ⟨ds, vs', b, r1, r2⟩ := h4 0 (Nat.zero_le _)
  rw [Nat.sub_zero, List.drop_length] at r2
  cases r2
  cases r1
  rw [hps] at b
  exact b s₁ [.ref a] inK rfl
end Ev
end

section
set_option maxRecDepth 10000
set_option autoImplicit false
/-! EvR: what the top has left, piece by piece. -/
namespace Ev
open PySem PySem.Spec PyProof.Rows L2

section
variable {K : PySem.W.Frag} {mg : Str → Option Value} {h : Heap} {G : Gm}
/-- a def without defaults -/
theorem known_plain {F : Fn} {st : Stmt} {a : Addr} {oc kV doc pm cdv ct : Value} {od an : Option Addr} {osl : Array (Option Value)} (X : K.In h) (Gn : h.Ns mainGlobals mg)
    (at_ : PySem.W.nsIn K mainGlobals F.name = some (some (.ref a))) (ob : K.lookup a = some ⟨oc, od, .func (PySem.W.fnOf F.name F.name (defArgs st) (defBody st) (defScope st) .none kV doc pm an cdv ct), osl⟩) (code : PySem.W.codeIn K cdv F.name = true) (keep : PySem.W.keepIn K (.ref a) = true)
    (S : FnScope F.N F.ps (defScope st)) (chk : chkSs G ⟨F.N, defScope st, fun x => locB (defScope st) x⟩ F.body (defBody st) = true) (nodfl : F.dfl = [])
    (bind : ∀ us : List Value, us.length = F.ps.length → bindArgs (PySem.W.fnOf F.name F.name (defArgs st) (defBody st) (defScope st) .none kV doc pm an cdv ct) ⟨us, []⟩ = pure (F.ps.zip us))
    (kw : ∀ p ∈ F.kss, ∀ (ws vs : List Value), ws.length = p.1.length → pick ws p.2 = some vs → bindArgs (PySem.W.fnOf F.name F.name (defArgs st) (defBody st) (defScope st) .none kV doc pm an cdv ct) ⟨[], (p.1.filterMap (F.ps[·]?)).zip ws⟩ = pure (F.ps.zip vs)) : Known K mg G F := by
  refine ⟨a, st, oc, od, .none, kV, doc, pm, an, cdv, ct, osl, PySem.W.mg_of X Gn at_, keep, ob, code, S, chk, fun j hj => ⟨[], [], .all bind, .nil, by rw [nodfl, List.drop_nil]; exact .nil⟩, fun p hp s ws vs _ hl e => .of_eq (kw p hp ws vs hl e)⟩
/-- a value that the top made, beside data -/
def scalB : Value → D → Bool
  | .none, .none => true
  | .bool b, .bool c => b == c
  | .int i _, .int j => decide (i = j)
  | .str s _, .str t => decide (s = t)
  | _, _ => false
def scalsB : List Value → List D → Bool
  | [], [] => true
  | u :: us, d :: ds => scalB u d && scalsB us ds
  | _, _ => false
theorem scal_rep {P : Hp} {u : Value} {d : D} (h : scalB u d = true) : ∃ v, RelV v u ∧ Rep K P v d := by
  unfold scalB at h
  split at h
  · exact ⟨.non, rfl, .non⟩
  · rename_i b c
    obtain rfl : b = c := by simpa using h
    exact ⟨.bl b, rfl, .bl b⟩
  · obtain rfl := of_decide_eq_true h
    exact ⟨.int _, ⟨_, rfl⟩, .int _⟩
  · obtain rfl := of_decide_eq_true h
    exact ⟨.str _, ⟨_, rfl⟩, .str _⟩
  · cases h
theorem scals_rep {P : Hp} : ∀ {us : List Value} {ds : List D}, scalsB us ds = true → ∃ vs, Vals vs us ∧ RepAll K P vs ds
  | [], [], _ => ⟨[], .nil, .nil⟩
  | [], _ :: _, h => by cases h
  | _ :: _, [], h => by cases h
  | u :: us, d :: ds, h => by
    unfold scalsB at h
    rw [Bool.and_eq_true] at h
    obtain ⟨v, r1, r2⟩ := scal_rep (K := K) (P := P) h.1
    obtain ⟨vs, r3, r4⟩ := scals_rep (P := P) h.2
    exact ⟨v :: vs, .cons r1 r3, .cons r2 r4⟩
/-- a def with defaults, the last of its parameters -/
theorem known_dfl {F : Fn} {st : Stmt} {a T : Addr} {oc kV doc pm cdv ct : Value} {od an : Option Addr} {osl : Array (Option Value)} {to : Value} {td : Option Addr} {its : List Value} {tn : Nat} {tsl : Array (Option Value)} (X : K.In h) (Gn : h.Ns mainGlobals mg)
    (at_ : PySem.W.nsIn K mainGlobals F.name = some (some (.ref a))) (ob : K.lookup a = some ⟨oc, od, .func (PySem.W.fnOf F.name F.name (defArgs st) (defBody st) (defScope st) (.ref T) kV doc pm an cdv ct), osl⟩) (code : PySem.W.codeIn K cdv F.name = true) (keep : PySem.W.keepIn K (.ref a) = true)
    (tup : K.lookup T = some ⟨to, td, .seq its.toArray tn, tsl⟩)
    (S : FnScope F.N F.ps (defScope st)) (chk : chkSs G ⟨F.N, defScope st, fun x => locB (defScope st) x⟩ F.body (defBody st) = true) (vals : scalsB its F.dfl = true)
    (bind : ∀ j, j ≤ F.dfl.length → ∀ us : List Value, us.length + j = F.ps.length → ∃ k, bindArgs (PySem.W.fnOf F.name F.name (defArgs st) (defBody st) (defScope st) (.ref T) kV doc pm an cdv ct) ⟨us, []⟩ = seqItems? (.ref T) >>= k ∧ k (some its.toArray) = pure (F.ps.zip (us ++ its.drop (F.dfl.length - j))))
    (kw : ∀ p ∈ F.kss, ∀ (ws vs : List Value), ws.length = p.1.length → pick ws p.2 = some vs → ∃ k, bindArgs (PySem.W.fnOf F.name F.name (defArgs st) (defBody st) (defScope st) (.ref T) kV doc pm an cdv ct) ⟨[], (p.1.filterMap (F.ps[·]?)).zip ws⟩ = seqItems? (.ref T) >>= k ∧ k (some its.toArray) = pure (F.ps.zip vs)) : Known K mg G F := by
  obtain ⟨vs, v1, v2⟩ := scals_rep (K := K) (P := fun _ => none) vals
  have hlen : its.length = F.dfl.length := by rw [← v1.length, v2.length]
  refine ⟨a, st, oc, od, .ref T, kV, doc, pm, an, cdv, ct, osl, PySem.W.mg_of X Gn at_, keep, ob, code, S, chk, fun j hj => ⟨its.drop (F.dfl.length - j), vs.drop (F.dfl.length - j), fun s us X' hl => ?_, v1.drop _, v2.drop _⟩, fun p hp s ws zs X' hl e => ?_⟩
  · rw [List.length_append, List.length_drop, hlen] at hl
    obtain ⟨k, e1, e2⟩ := bind j hj us (by omega)
    refine L2.BindsTo.of_looks fun M => ?_
    rw [e1]
    exact looks_items X' tup rfl (PySem.W.Looks.of_pure e2)
  · obtain ⟨k, e1, e2⟩ := kw p hp ws zs hl e
    refine L2.BindsTo.of_looks fun M => ?_
    rw [e1]
    exact looks_items X' tup rfl (PySem.W.Looks.of_pure e2)
/-- a constant of the module -/
theorem con_scal {x : Str} {u : Value} {d : D} (X : K.In h) (Gn : h.Ns mainGlobals mg) (at_ : PySem.W.nsIn K mainGlobals x = some (some u)) (e : scalB u d = true) : ∃ u v, mg x = some u ∧ RelV v u ∧ Rep K (fun _ => none) v d := by
  obtain ⟨v, r1, r2⟩ := scal_rep (K := K) (P := fun _ => none) e
  exact ⟨u, v, PySem.W.mg_of X Gn at_, r1, r2⟩
theorem con_tup {x : Str} {T : Addr} {ds : List D} {td : Option Addr} {its : List Value} {tn : Nat} {tsl : Array (Option Value)} (X : K.In h) (Gn : h.Ns mainGlobals mg) (at_ : PySem.W.nsIn K mainGlobals x = some (some (.ref T))) (tup : K.lookup T = some ⟨.type "tuple", td, .seq its.toArray tn, tsl⟩)
    (e : scalsB its ds = true) (small : decide (its.length ≤ 1000) = true) : ∃ u v, mg x = some u ∧ RelV v u ∧ Rep K (fun _ => none) v (.tuple ds) := by
  obtain ⟨vs, r1, r2⟩ := scals_rep (K := K) (P := fun _ => none) e
  refine ⟨.ref T, .ref T, PySem.W.mg_of X Gn at_, rfl, .tup (.inr ⟨_, its.toArray, tn, tup, rfl, rfl, ?_, by simpa using r1⟩) r2⟩
  rw [List.size_toArray]
  exact Nat.le_trans (of_decide_eq_true small) (by decide)
theorem bt_none {x : Str} (X : K.In h) (Gn : h.Ns mainGlobals mg) (e : PySem.W.nsIn K mainGlobals x = some none) : mg x = none := PySem.W.mg_none_of X Gn e
/-- list by list -/
theorem all_cons {α : Type} {P : α → Prop} {a : α} {l : List α} (h : P a) (t : ∀ x ∈ l, P x) : ∀ x ∈ a :: l, P x := by
  intro x hx
  rcases List.mem_cons.mp hx with rfl | hx
  · exact h
  · exact t x hx
theorem all_nil {α : Type} {P : α → Prop} : ∀ x ∈ ([] : List α), P x := fun _ h => (nomatch h)
theorem knows_of (fn : ∀ F ∈ G.fns, Known K mg G F) (con : ∀ p ∈ G.consts, ∃ u v, mg p.1 = some u ∧ RelV v u ∧ Rep K (fun _ => none) v p.2) (bt : ∀ x ∈ G.bts, mg x = none) : Knows K mg G :=
  ⟨fun _ F e => fn F (List.mem_of_getElem? e), fun _ p e => con p (List.mem_of_getElem? e), bt⟩
end
end Ev
end

section
set_option maxRecDepth 10000
set_option autoImplicit false
/-! EvS: plain helpers for laws: results by what they meet, loops by invariants, the length of what repr shows. -/
namespace Ev
open PySem PySem.Spec PyProof.Rows L2

/-! ### results -/
def R.wp {α : Type} (r : R α) (Q : α → Store → Prop) : Prop := match r with
  | .ok a st => Q a st
  | _ => False
theorem wp_ok {α : Type} {a : α} {st : Store} {Q : α → Store → Prop} : (R.ok a st).wp Q = Q a st := rfl
theorem wp_bind {α β : Type} {r : R α} {f : α → Store → R β} {Q : β → Store → Prop} : (r.bind f).wp Q = r.wp (fun a st => (f a st).wp Q) := by
  cases r <;> rfl
theorem wp_some {α : Type} {o : Option α} {a : α} {st : Store} {Q : α → Store → Prop} (h : o = some a) : (ofO o st).wp Q = Q a st := by
  subst h; rfl
theorem R.wp.imp {α : Type} {r : R α} {Q Q' : α → Store → Prop} (h : r.wp Q) (g : ∀ a st, Q a st → Q' a st) : r.wp Q' := by
  cases r with
  | ok a st => exact g a st h
  | exc => exact h
  | stuck => exact h
theorem R.wp.get {α : Type} {r : R α} {Q : α → Store → Prop} (h : r.wp Q) : ∃ a st, r = .ok a st ∧ Q a st := by
  cases r with
  | ok a st => exact ⟨a, st, rfl, h⟩
  | exc => exact h.elim
  | stuck => exact h.elim
structure Out where
  nx : Env → Store → Prop := fun _ _ => False
  rt : U → Store → Prop := fun _ _ => False
  bk : Env → Store → Prop := fun _ _ => False
  ct : Env → Store → Prop := fun _ _ => False
def RS.wp (r : RS) (D : Out) : Prop := match r with
  | .nx ε st => D.nx ε st
  | .ret u st => D.rt u st
  | .brk ε st => D.bk ε st
  | .cnt ε st => D.ct ε st
  | _ => False
theorem wpS_nx {ε : Env} {st : Store} {D : Out} : (RS.nx ε st).wp D = D.nx ε st := rfl
theorem wpS_ret {u : U} {st : Store} {D : Out} : (RS.ret u st).wp D = D.rt u st := rfl
theorem wpS_brk {ε : Env} {st : Store} {D : Out} : (RS.brk ε st).wp D = D.bk ε st := rfl
theorem wpS_cnt {ε : Env} {st : Store} {D : Out} : (RS.cnt ε st).wp D = D.ct ε st := rfl
theorem wpS_bind {α : Type} {r : R α} {ε : Env} {f : α → Store → RS} {D : Out} : (r.bindS ε f).wp D = r.wp (fun a st => (f a st).wp D) := by
  cases r <;> rfl
theorem RS.wp.imp {r : RS} {D D' : Out} (h : r.wp D) (h1 : ∀ ε st, D.nx ε st → D'.nx ε st) (h2 : ∀ u st, D.rt u st → D'.rt u st) (h3 : ∀ ε st, D.bk ε st → D'.bk ε st) (h4 : ∀ ε st, D.ct ε st → D'.ct ε st) : r.wp D' := by
  cases r with
  | nx => exact h1 _ _ h
  | ret => exact h2 _ _ h
  | brk => exact h3 _ _ h
  | cnt => exact h4 _ _ h
  | exc => exact h
  | stuck => exact h
section
variable {G : Gm} {W : Nat} {cp : Nat → List D → R D} {cm : Nat → List U → Store → R U}
theorem wps_nil {ε : Env} {st : Store} {D : Out} : (exSs G W cp cm .nil ε st).wp D = D.nx ε st := rfl
theorem wps_cons {s : S} {ss : Ss} {ε : Env} {st : Store} {D : Out} : (exSs G W cp cm (.cons s ss) ε st).wp D = (exS G W cp cm s ε st).wp { D with nx := fun ε1 st1 => (exSs G W cp cm ss ε1 st1).wp D } := by
  have e : exSs G W cp cm (.cons s ss) ε st = match exS G W cp cm s ε st with
    | .nx ε1 st1 => exSs G W cp cm ss ε1 st1
    | r => r := by first | (rw [exSs]; rfl) | rw [exSs]
  rw [e]
  cases exS G W cp cm s ε st <;> rfl
end
theorem fin_wp {r : RS} {Q : U → Store → Prop} : (fin r).wp Q = r.wp { nx := fun _ st => Q (.d .none) st, rt := Q } := by
  cases r <;> rfl
theorem cut_wp {k : Nat} {r : R U} {Q : U → Store → Prop} (h : r.wp fun u st => st.length = k ∧ Q u st) : (cutStore k r).wp Q := by
  cases r with
  | ok u st =>
    obtain ⟨h1, h2⟩ := h
    unfold cutStore
    simp only [h1, if_true]
    exact h2
  | exc => exact h.elim
  | stuck => exact h.elim
/-- the store grew: what comes back is data, and the old things know nothing of the new -/
theorem cut_wp_low {k : Nat} {r : R U} {Q : U → Store → Prop} (h : r.wp fun u st => ∃ x, u = .d x ∧ (st.take k).all (lowC k) = true ∧ Q u (st.take k)) : (cutStore k r).wp Q := by
  cases r with
  | ok u st =>
    obtain ⟨x, rfl, h2, h3⟩ := h
    unfold cutStore
    simp only [lowU, h2, Bool.and_self, if_true]
    by_cases hk : st.length = k
    · rw [if_pos hk]
      rw [List.take_of_length_le (Nat.le_of_eq hk)] at h3
      exact h3
    · rw [if_neg hk]
      exact h3
  | exc => exact h.elim
  | stuck => exact h.elim
/-- a def by its body -/
theorem call_wp {G : Gm} {W k f : Nat} {F : Fn} {us : List U} {st : Store} {Q : U → Store → Prop} (e : G.fns[f]? = some F) (hl : (fill F us).length = F.ps.length)
    (h : (exSs G W (fun g ds => lowR (callRaw G W k g (ds.map .d) [])) (fun g vs st1 => cutStore st1.length (callRaw G W k g vs st1)) F.body (startE F (fill F us)) st).wp { nx := fun _ st => Q (.d .none) st, rt := Q }) : (callRaw G W (k + 1) f us st).wp Q := by
  unfold callRaw
  rw [e]
  simp only
  rw [if_pos hl, fin_wp]
  exact h

section
variable {G : Gm} {W k f : Nat} {F : Fn} {us : List U} {st : Store} {Q : U → Store → Prop}
/-- a pure def, called -/
theorem pure_wp (e : G.fns[f]? = some F) (hp : F.pure = true) {ds : List D} (hd : toDs us = some ds) (h : (callRaw G W k f us []).wp fun u _ => ∃ x, u = .d x ∧ Q (.d x) st) : (callU G (cpK G W k) (cmK G W k) f us st).wp Q := by
  unfold callU
  rw [e]
  simp only [hp, if_true, hd, cpK]
  rw [← toDs_some hd]
  obtain ⟨u, st1, e1, x, rfl, q⟩ := h.get
  rw [e1]
  exact q
theorem pure_eq (e : G.fns[f]? = some F) (hp : F.pure = true) {ds : List D} {x : D} (hd : toDs us = some ds) (h : ∀ Q : U → Store → Prop, Q (.d x) [] → (callRaw G W k f us []).wp Q) : (callU G (cpK G W k) (cmK G W k) f us st).wp Q = Q (.d x) st := by
  unfold callU
  rw [e]
  simp only [hp, if_true, hd, cpK]
  rw [← toDs_some hd]
  obtain ⟨u, st1, e1, e2, e3⟩ := (h (fun u s => u = .d x ∧ s = []) ⟨rfl, rfl⟩).get
  rw [e1, e2]
  rfl
/-- any other -/
theorem mut_wp (e : G.fns[f]? = some F) (hp : F.pure = false) (h : (callRaw G W k f us st).wp fun u st' => st'.length = st.length ∧ Q u st') : (callU G (cpK G W k) (cmK G W k) f us st).wp Q := by
  unfold callU
  rw [e]
  simp only [hp, Bool.false_eq_true, if_false]
  exact cut_wp h
theorem mut_wp_low (e : G.fns[f]? = some F) (hp : F.pure = false) (h : (callRaw G W k f us st).wp fun u st' => ∃ x, u = .d x ∧ (st'.take st.length).all (lowC st.length) = true ∧ Q u (st'.take st.length)) : (callU G (cpK G W k) (cmK G W k) f us st).wp Q := by
  unfold callU
  rw [e]
  simp only [hp, Bool.false_eq_true, if_false]
  exact cut_wp_low h
/-- one that gives something new of the store -/
theorem mut_wp_new (e : G.fns[f]? = some F) (hp : F.pure = false) (h : (callRaw G W k f us st).wp fun u st' => (∃ n, u = .m n ∧ st.length ≤ n) ∧ Q u st') : (callU G (cpK G W k) (cmK G W k) f us st).wp Q := by
  unfold callU
  rw [e]
  simp only [hp, Bool.false_eq_true, if_false]
  obtain ⟨u, st1, e1, ⟨n, rfl, hn⟩, q⟩ := h.get
  show (cutStore st.length (callRaw G W k f us st)).wp Q
  rw [e1]
  unfold cutStore
  simp only [lowU, show decide (n < st.length) = false from decide_eq_false (by omega), Bool.false_and, Bool.false_eq_true, if_false]
  split <;> exact q
theorem call_by (e : G.fns[f]? = some F) (hl : (fill F us).length = F.ps.length) (h : (exSs G W (cpK G W k) (cmK G W k) F.body (startE F (fill F us)) st).wp { nx := fun _ st => Q (.d .none) st, rt := Q }) : (callRaw G W (k + 1) f us st).wp Q := call_wp e hl h
end

/-! ### loops -/
theorem for_wp {set : U → Env → Option Env} {body : Env → Store → RS} {D : Out} (I : Env → Store → Prop) : ∀ {items : List U}, (∀ u ∈ items, ∀ ε st, I ε st → ∃ ε1, set u ε = some ε1 ∧ (body ε1 st).wp { D with nx := I, ct := I, bk := D.nx }) → (∀ ε st, I ε st → D.nx ε st) → ∀ {ε : Env} {st : Store}, I ε st → (forLoop set body items ε st).wp D
  | [], _, fin, ε, st, h => fin ε st h
  | u :: us, step, fin, ε, st, h => by
    obtain ⟨ε1, e1, b⟩ := step u (List.mem_cons_self ..) ε st h
    unfold forLoop
    rw [e1]
    simp only
    cases r : body ε1 st with
    | nx ε2 st2 => rw [r] at b; exact for_wp I (fun v hv => step v (List.mem_cons_of_mem _ hv)) fin b
    | cnt ε2 st2 => rw [r] at b; exact for_wp I (fun v hv => step v (List.mem_cons_of_mem _ hv)) fin b
    | brk ε2 st2 => rw [r] at b; exact b
    | ret => rw [r] at b; exact b
    | exc => rw [r] at b; exact b
    | stuck => rw [r] at b; exact b
theorem comp_wp {f : U → Store → R (Option U)} {Q : List U → Store → Prop} (I : List U → Store → Prop) : ∀ {items : List U} {acc : List U} {st : Store}, acc.length + items.length ≤ sizeMax → (∀ u ∈ items, ∀ acc st, I acc st → (f u st).wp fun o st1 => match o with
      | none => I acc st1
      | some x => I (acc ++ [x]) st1) → (∀ acc st, I acc st → Q acc st) → I acc st → (compLoop f items acc st).wp Q
  | [], acc, st, _, _, fin, h => fin acc st h
  | u :: us, acc, st, hl, step, fin, h => by
    rw [List.length_cons] at hl
    unfold compLoop
    rw [wp_bind]
    refine (step u (List.mem_cons_self ..) acc st h).imp fun o st1 z => ?_
    cases o with
    | none => exact comp_wp I (by omega) (fun v hv => step v (List.mem_cons_of_mem _ hv)) fin z
    | some x =>
      simp only
      rw [if_pos (by omega)]
      exact comp_wp I (by rw [List.length_append, List.length_singleton]; omega) (fun v hv => step v (List.mem_cons_of_mem _ hv)) fin z

/-! ### what repr shows -/
mutual
def lenD : D → Nat
  | .none => 4
  | .bool _ => 5
  | .int i => i.natAbs.log2 + 2
  | .str x => 10 * x.length + 2
  | .list xs => 2 + lenDs xs
  | .tuple xs => 3 + lenDs xs
  | .dict _ => 0
def lenDs : List D → Nat
  | [] => 0
  | x :: xs => lenD x + 2 + lenDs xs
end
mutual
def fineD : D → Bool
  | .none | .bool _ => true
  | .int i => decide (i.natAbs.log2 < 1920)
  | .str x => x.cps.toList.all fun c => decide (c < 16 ^ 8)
  | .list xs => fineDs xs
  | .tuple xs => fineDs xs
  | .dict _ => false
def fineDs : List D → Bool
  | [] => true
  | x :: xs => fineD x && fineDs xs
end
theorem from_len : ∀ (ts : List Str) (k : Nat) (acc : Str), (textFrom k acc ts).length ≤ acc.length + piled ts
  | [], k, acc => by unfold textFrom; omega
  | t :: ts, k, acc => by
    unfold textFrom
    have ih := from_len ts (k + 1) (acc ++ (if k > 0 then ", " else "" : String) ++ t)
    rw [strLen_append, strLen_append] at ih
    have e : (((if k > 0 then ", " else "" : String) : Str)).length ≤ 2 := by
      split <;> decide
    rw [piled_cons]
    omega
mutual
theorem shown_len : ∀ d : D, fineD d = true → (PyData.shown d).length ≤ lenD d
  | .none, _ => by unfold PyData.shown lenD; decide
  | .bool b, _ => by unfold PyData.shown lenD; cases b <;> decide
  | .int i, h => by
    unfold PyData.shown lenD
    unfold fineD at h
    have := int_text_length_le (a := i) (k := i.natAbs.log2 + 1) (by omega) (by omega)
    have e : ((toString i : String) : Str).length = (toString i).length := by
      exact PySem.ofString_length _
    rw [e]
    exact this
  | .str x, h => by
    unfold PyData.shown lenD
    unfold fineD at h
    exact StrLaws.reprText_len x fun c hc => by simpa using List.all_eq_true.mp h c hc
  | .list xs, h => by
    unfold PyData.shown lenD
    unfold fineD at h
    have := shown_lens xs h
    unfold listText
    rw [strLen_append]
    have h1 := from_len (PyData.shownAll xs) 0 "["
    have e1 : ((("[" : String) : Str)).length = 1 := rfl
    have e2 : ((("]" : String) : Str)).length = 1 := rfl
    rw [e1] at h1
    rw [e2]
    omega
  | .tuple xs, h => by
    unfold PyData.shown lenD
    unfold fineD at h
    have := shown_lens xs h
    unfold tupleText
    rw [strLen_append, strLen_append]
    have e1 : ((("(" : String) : Str)).length = 1 := rfl
    have e3 : ((((if (PyData.shownAll xs).length == 1 then ",)" else ")" : String) : Str))).length ≤ 2 := by split <;> decide
    by_cases hn : PyData.shownAll xs = []
    · rw [hn] at e3 ⊢
      have : (Str.join ", " ([] : List Str)).length = 0 := rfl
      rw [this, e1]
      omega
    · have := join_length_add _ hn
      rw [e1]
      omega
theorem shown_lens : ∀ ds : List D, fineDs ds = true → piled (PyData.shownAll ds) ≤ lenDs ds
  | [], _ => by unfold PyData.shownAll lenDs; exact Nat.le_refl _
  | d :: ds, h => by
    unfold fineDs at h
    rw [Bool.and_eq_true] at h
    unfold PyData.shownAll lenDs
    rw [piled_cons]
    have h1 := shown_len d h.1
    have h2 := shown_lens ds h.2
    omega
end
mutual
theorem fine_show : ∀ d : D, fineD d = true → PyData.showable d = true ∧ PyData.hasDict d = false
  | .none, _ => ⟨rfl, rfl⟩
  | .bool b, _ => ⟨rfl, rfl⟩
  | .int i, h => ⟨by unfold PyData.showable; unfold fineD at h; exact h, rfl⟩
  | .str x, h => ⟨rfl, rfl⟩
  | .list xs, h => by
    unfold fineD at h
    unfold PyData.showable PyData.hasDict
    exact fines_show xs h
  | .tuple xs, h => by
    unfold fineD at h
    unfold PyData.showable PyData.hasDict
    exact fines_show xs h
theorem fines_show : ∀ ds : List D, fineDs ds = true → PyData.showableAll ds = true ∧ PyData.hasDictAll ds = false
  | [], _ => ⟨rfl, rfl⟩
  | d :: ds, h => by
    unfold fineDs at h
    rw [Bool.and_eq_true] at h
    obtain ⟨a1, a2⟩ := fine_show d h.1
    obtain ⟨b1, b2⟩ := fines_show ds h.2
    unfold PyData.showableAll PyData.hasDictAll
    exact ⟨by rw [a1, b1]; rfl, by rw [a2, b2]; rfl⟩
end
theorem repr_ok {d : D} (h1 : fineD d = true) (h2 : PyData.depth d ≤ 64) (h3 : lenD d + 64 ≤ sizeMax) : reprOk d = true := by
  obtain ⟨a, b⟩ := fine_show d h1
  have := shown_len d h1
  unfold reprOk
  rw [a, b, decide_eq_true h2, decide_eq_true (by omega)]
  rfl
theorem eqv_str (s : Str) : PyData.eqv (.str s) (.str s) = true := by
  unfold PyData.eqv
  simp

/-! ### a well: three numbers in a list of the store -/
def Well (c : Cell) : Prop := ∃ a b n : Int, c = .lst [.d (.int a), .d (.int b), .d (.int n)] ∧ 0 ≤ a
theorem ix_m {st : Store} {n : Nat} {us : List U} {i : Int} (h : st[n]? = some (.lst us)) : ixU (.m n) (.d (.int i)) st = L2.atI us i := by
  simp only [ixU, h]
theorem get_set {st : Store} {n : Nat} {c c0 : Cell} (h : st[n]? = some c0) : (st.set n c)[n]? = some c := List.getElem?_set_self (List.getElem?_eq_some_iff.mp h).1
theorem get_set_ne {st : Store} {n m : Nat} {c : Cell} (h : n ≠ m) : (st.set n c)[m]? = st[m]? := List.getElem?_set_ne h
section
variable {α : Type} {a b c : α}
theorem at3_0 : L2.atI [a, b, c] 0 = some a := rfl
theorem at3_1 : L2.atI [a, b, c] 1 = some b := rfl
theorem at3_2 : L2.atI [a, b, c] 2 = some c := rfl
end
section
variable {st : Store} {n : Nat} {a b c v : U} {Q : Unit → Store → Prop} (h : st[n]? = some (.lst [a, b, c]))
include h
theorem sub3_0 : (setSub (.m n) (.d (.int 0)) v st).wp Q = Q () (st.set n (.lst [v, b, c])) := by
  simp only [setSub, h]
  rfl
theorem sub3_1 : (setSub (.m n) (.d (.int 1)) v st).wp Q = Q () (st.set n (.lst [a, v, c])) := by
  simp only [setSub, h]
  rfl
theorem sub3_2 : (setSub (.m n) (.d (.int 2)) v st).wp Q = Q () (st.set n (.lst [a, b, v])) := by
  simp only [setSub, h]
  rfl
end
theorem set_set {st : Store} {n : Nat} {c d : Cell} : (st.set n c).set n d = st.set n d := List.set_set ..
theorem cmul_l {i j : Int} (h : (decide (-(2 ^ 64) < i) && decide (i < 2 ^ 64)) = true) : cmulOk i j = true := by
  unfold cmulOk; rw [h]; rfl
theorem cmul_r {i j : Int} (h1 : -(2 ^ 64) < j) (h2 : j < 2 ^ 64) : cmulOk i j = true := by
  unfold cmulOk; rw [decide_eq_true h1, decide_eq_true h2]; simp
theorem fmod_pos {i j : Int} (h : 0 < j) : i.fmod j = i % j := Int.fmod_eq_emod_of_nonneg i (by omega)
theorem fdiv_pos {i j : Int} (h : 0 < j) : i.fdiv j = i / j := Int.fdiv_eq_ediv_of_nonneg i (by omega)
theorem divmod_wp {i j : Int} {st : Store} {Q : U → Store → Prop} : (bfD .divmod [.d (.int i), .d (.int j)] st).wp Q ↔ (0 < j ∧ j < 1073741824) ∧ Q (.d (.tuple [.int (i / j), .int (i % j)])) st := by
  show (if 0 < j ∧ j < 1073741824 then R.ok _ st else .stuck).wp Q ↔ _
  by_cases h : 0 < j ∧ j < 1073741824
  · rw [if_pos h]; exact ⟨fun q => ⟨h, q⟩, fun q => q.2⟩
  · rw [if_neg h]; exact ⟨fun q => q.elim, fun q => absurd q.1 h⟩
section
variable {i j : Int} {st : Store} {Q : U → Store → Prop} {xs : List D} {x : D}
theorem bf_int : (bfD .int [.d (.int i)] st).wp Q = Q (.d (.int i)) st := rfl
theorem bf_intB {b : Bool} : (bfD .int [.d (.bool b)] st).wp Q = Q (.d (.int (if b then 1 else 0))) st := rfl
theorem bf_abs : (bfD .abs [.d (.int i)] st).wp Q = Q (.d (.int (if i < 0 then -i else i))) st := rfl
theorem bf_lenL : (bfD .len [.d (.list xs)] st).wp Q = Q (.d (.int xs.length)) st := rfl
theorem bf_lenT : (bfD .len [.d (.tuple xs)] st).wp Q = Q (.d (.int xs.length)) st := rfl
theorem bf_max : (bfD .max2 [.d (.int i), .d (.int j)] st).wp Q = Q (.d (.int (if j > i then j else i))) st := rfl
theorem bf_min : (bfD .min2 [.d (.int i), .d (.int j)] st).wp Q = Q (.d (.int (if j < i then j else i))) st := rfl
theorem bf_repr : (bfD .repr [.d x] st).wp Q ↔ reprOk x = true ∧ Q (.d (.str (PyData.shown x))) st := by
  show (if reprOk x then R.ok _ st else .stuck).wp Q ↔ _
  by_cases h : reprOk x = true
  · rw [if_pos h]; exact ⟨fun q => ⟨h, q⟩, fun q => q.2⟩
  · rw [if_neg h]; exact ⟨fun q => q.elim, fun q => absurd q.1 h⟩
theorem bf_all {bs : List Bool} (h : toBools xs = some bs) : (bfD .all [.d (.list xs)] st).wp Q = Q (.d (.bool (bs.all id))) st := by
  show (match toBools xs with
    | some bs => R.ok (U.d (.bool (bs.all id))) st
    | none => .stuck).wp Q = _
  rw [h]
  rfl
end
theorem toB_true : ∀ n : Nat, toBools (List.replicate n (.bool true)) = some (List.replicate n true)
  | 0 => rfl
  | n + 1 => by
    rw [List.replicate_succ, List.replicate_succ]
    unfold toBools
    rw [toB_true n]
    rfl
theorem ix_list {xs : List D} {i : Int} {st : Store} : ixU (.d (.list xs)) (.d (.int i)) st = (L2.atI xs i).map .d := rfl
theorem ix_tuple {xs : List D} {i : Int} {st : Store} : ixU (.d (.tuple xs)) (.d (.int i)) st = (L2.atI xs i).map .d := rfl
theorem at_in {α : Type} {xs : List α} {i : Int} (h1 : 0 ≤ i) (h2 : i < xs.length) : ∃ x, x ∈ xs ∧ L2.atI xs i = some x := by
  have h : i.toNat < xs.length := by omega
  refine ⟨xs[i.toNat], List.getElem_mem h, ?_⟩
  have := L2.atI_nat (xs := xs) (j := i.toNat) (List.getElem?_eq_getElem h)
  rwa [Int.toNat_of_nonneg h1] at this
end Ev
end

section
set_option maxRecDepth 10000
set_option autoImplicit false
/-! EvT: the evaluator's steps, as rules of what is met. -/
namespace Ev
open PySem

/-! ### steps upon values -/
def optQ {α : Type} (o : Option α) (Q : α → Prop) : Prop := match o with
  | some a => Q a
  | none => False
theorem opt_ite {α : Type} {o : Option α} {p : Prop} [Decidable p] {a : α} {Q : α → Prop} (e : o = if p then some a else none) : optQ o Q ↔ p ∧ Q a := by
  subst e
  by_cases h : p
  · rw [if_pos h]; exact ⟨fun z => ⟨h, z⟩, fun z => z.2⟩
  · rw [if_neg h]; exact ⟨fun z => z.elim, fun z => absurd z.1 h⟩
theorem opt_ite_map {α β : Type} {o : Option β} {p : Prop} [Decidable p] {a : α} {g : α → β} {Q : β → Prop} (e : o = (if p then some a else none).map g) : optQ o Q ↔ p ∧ Q (g a) := by
  subst e
  by_cases h : p
  · rw [if_pos h]; exact ⟨fun z => ⟨h, z⟩, fun z => z.2⟩
  · rw [if_neg h]; exact ⟨fun z => z.elim, fun z => absurd z.1 h⟩
def binQ (op : Operator) (x y : U) (Q : U → Prop) : Prop := match x, y with
  | .d x, .d y => optQ (binD op x y) fun z => Q (.d z)
  | _, _ => False
def cmpQ (op : CmpOp) (x y : U) (Q : Bool → Prop) : Prop := match x, y with
  | .d x, .d y => optQ (cmpD op x y) Q
  | _, _ => False
def tstQ (u : U) (A B : Prop) : Prop := match u with
  | .d (.bool true) => A
  | .d (.bool false) => B
  | _ => False
def varQ (ε : Env) (i : Nat) (Q : U → Prop) : Prop := match ε[i]? with
  | some (some u) => Q u
  | _ => False
def negQ (u : U) (Q : U → Prop) : Prop := match u with
  | .d (.int i) => Q (.d (.int (-i)))
  | _ => False
def notQ (u : U) (Q : U → Prop) : Prop := match u with
  | .d (.bool b) => Q (.d (.bool (!b)))
  | _ => False
def tupQ (us : List U) (Q : U → Prop) : Prop := match toDs us with
  | some ds => ds.length ≤ sizeMax ∧ Q (.d (.tuple ds))
  | none => False
def tysQ (t : String) (u : U) (Q : Bool → Prop) : Prop := match u with
  | .d x => optQ (isTy t x) Q
  | _ => False
def augQ (op : Operator) (ε : Env) (i : Nat) (u : D → Prop) : Prop := match ε[i]? with
  | some (some (.d x)) => u x
  | _ => False
def augR (op : Operator) (x : D) (u : U) (Q : U → Prop) : Prop := match u with
  | .d y => optQ (augD op x y) fun z => Q (.d z)
  | _ => False
def untQ (n : Nat) (u : U) (Q : List U → Prop) : Prop := match u with
  | .d (.tuple xs) => xs.length = n ∧ Q (xs.map .d)
  | _ => False
section
variable {A B : Prop} {Q : U → Prop} {Qb : Bool → Prop} {x : Option U} {ε : Env} {u : U} {i j : Int} {n : Nat} {s t : Str}
theorem tst_t : tstQ (.d (.bool true)) A B = A := rfl
theorem tst_f : tstQ (.d (.bool false)) A B = B := rfl
theorem tst_d {p : Prop} [Decidable p] : tstQ (.d (.bool (decide p))) A B ↔ (p → A) ∧ (¬p → B) := by
  by_cases h : p
  · rw [decide_eq_true h]; exact ⟨fun a => ⟨fun _ => a, fun z => absurd h z⟩, fun z => z.1 h⟩
  · rw [decide_eq_false h]; exact ⟨fun a => ⟨fun z => absurd z h, fun _ => a⟩, fun z => z.2 h⟩
theorem tst_n {p : Prop} [Decidable p] : tstQ (.d (.bool (!decide p))) A B ↔ (p → B) ∧ (¬p → A) := by
  by_cases h : p
  · rw [decide_eq_true h]; exact ⟨fun a => ⟨fun _ => a, fun z => absurd h z⟩, fun z => z.1 h⟩
  · rw [decide_eq_false h]; exact ⟨fun a => ⟨fun z => absurd z h, fun _ => a⟩, fun z => z.2 h⟩
theorem tst_b {b : Bool} : tstQ (.d (.bool b)) A B ↔ (b = true → A) ∧ (b = false → B) := by
  cases b
  · exact ⟨fun h => ⟨fun z => (nomatch z), fun _ => h⟩, fun z => z.2 rfl⟩
  · exact ⟨fun h => ⟨fun _ => h, fun z => (nomatch z)⟩, fun z => z.1 rfl⟩
theorem var_0 : varQ (some u :: ε) 0 Q = Q u := rfl
theorem var_s : varQ (x :: ε) (n + 1) Q = varQ ε n Q := rfl
theorem neg_i : negQ (.d (.int i)) Q = Q (.d (.int (-i))) := rfl
theorem not_b {b : Bool} : notQ (.d (.bool b)) Q = Q (.d (.bool (!b))) := rfl
theorem bin_add : binQ .Add (.d (.int i)) (.d (.int j)) Q = Q (.d (.int (i + j))) := rfl
theorem bin_sub : binQ .Sub (.d (.int i)) (.d (.int j)) Q = Q (.d (.int (i - j))) := rfl
theorem bin_mul : binQ .Mult (.d (.int i)) (.d (.int j)) Q ↔ cmulOk i j = true ∧ Q (.d (.int (i * j))) := opt_ite (Q := fun z => Q (.d z)) rfl
theorem bin_fdiv : binQ .FloorDiv (.d (.int i)) (.d (.int j)) Q ↔ (j ≠ 0 ∧ j.natAbs < 1073741824) ∧ Q (.d (.int (i.fdiv j))) := opt_ite (Q := fun z => Q (.d z)) rfl
theorem bin_mod : binQ .Mod (.d (.int i)) (.d (.int j)) Q ↔ j ≠ 0 ∧ Q (.d (.int (i.fmod j))) := opt_ite (Q := fun z => Q (.d z)) rfl
theorem bin_pow : binQ .Pow (.d (.int i)) (.d (.int j)) Q ↔ (0 ≤ j ∧ j ≤ 1000000 ∧ i.natAbs < 2 ^ 64) ∧ Q (.d (.int (i ^ j.toNat))) := opt_ite (Q := fun z => Q (.d z)) rfl
theorem bin_str : binQ .Add (.d (.str s)) (.d (.str t)) Q ↔ s.length + t.length ≤ sizeMax ∧ Q (.d (.str (s ++ t))) := opt_ite (Q := fun z => Q (.d z)) rfl
theorem bin_lst {a b : List D} : binQ .Add (.d (.list a)) (.d (.list b)) Q ↔ a.length + b.length ≤ sizeMax ∧ Q (.d (.list (a ++ b))) := opt_ite (Q := fun z => Q (.d z)) rfl
theorem bin_tup {a b : List D} : binQ .Add (.d (.tuple a)) (.d (.tuple b)) Q ↔ a.length + b.length ≤ sizeMax ∧ Q (.d (.tuple (a ++ b))) := opt_ite (Q := fun z => Q (.d z)) rfl
theorem cmp_lt : cmpQ .Lt (.d (.int i)) (.d (.int j)) Qb = Qb (decide (i < j)) := rfl
theorem cmp_le : cmpQ .LtE (.d (.int i)) (.d (.int j)) Qb = Qb (decide (i ≤ j)) := rfl
theorem cmp_gt : cmpQ .Gt (.d (.int i)) (.d (.int j)) Qb = Qb (decide (j < i)) := rfl
theorem cmp_ge : cmpQ .GtE (.d (.int i)) (.d (.int j)) Qb = Qb (decide (j ≤ i)) := rfl
theorem beq_dec {α : Type} [BEq α] [LawfulBEq α] [DecidableEq α] {a b : α} : (a == b) = decide (a = b) := by
  by_cases h : a = b
  · subst h; simp
  · rw [decide_eq_false h]; simpa using h
theorem cmp_eq {a b : D} : cmpQ .Eq (.d a) (.d b) Qb ↔ eqOk a b = true ∧ Qb (PyData.eqv a b) := opt_ite rfl
theorem cmp_ne {a b : D} : cmpQ .NotEq (.d a) (.d b) Qb ↔ eqOk a b = true ∧ Qb (!PyData.eqv a b) := opt_ite_map (g := not) rfl
theorem cmp_eqI : cmpQ .Eq (.d (.int i)) (.d (.int j)) Qb = Qb (decide (i = j)) := by
  rw [← beq_dec]; rfl
theorem cmp_neI : cmpQ .NotEq (.d (.int i)) (.d (.int j)) Qb = Qb (!decide (i = j)) := by
  rw [← beq_dec]; rfl
theorem cmp_eqS : cmpQ .Eq (.d (.str s)) (.d (.str t)) Qb = Qb (decide (s = t)) := by
  rw [← beq_dec]; rfl
theorem cmp_neS : cmpQ .NotEq (.d (.str s)) (.d (.str t)) Qb = Qb (!decide (s = t)) := by
  rw [← beq_dec]; rfl
theorem cmp_is {a : D} : cmpQ .Is (.d a) (.d .none) Qb = Qb (isNoneD a) := by
  cases a <;> rfl
theorem cmp_isn {a : D} : cmpQ .IsNot (.d a) (.d .none) Qb = Qb (!isNoneD a) := by
  cases a <;> rfl
theorem opt_if {α : Type} {p : Prop} [Decidable p] {a : α} {Q : α → Prop} : optQ (if p then some a else none) Q ↔ p ∧ Q a := opt_ite rfl
theorem in_tup (a : D) (ys : List D) : cmpD .In a (.tuple ys) = if flatD a && ys.all flatD then some (memD a ys) else none := by cases a <;> rfl
theorem in_lst (a : D) (ys : List D) : cmpD .In a (.list ys) = if flatD a && ys.all flatD then some (memD a ys) else none := by cases a <;> rfl
theorem nin_tup (a : D) (ys : List D) : cmpD .NotIn a (.tuple ys) = (if flatD a && ys.all flatD then some (memD a ys) else none).map not := by cases a <;> rfl
theorem nin_lst (a : D) (ys : List D) : cmpD .NotIn a (.list ys) = (if flatD a && ys.all flatD then some (memD a ys) else none).map not := by cases a <;> rfl
theorem cmp_inT {a : D} {ys : List D} : cmpQ .In (.d a) (.d (.tuple ys)) Qb ↔ (flatD a && ys.all flatD) = true ∧ Qb (memD a ys) := opt_ite (in_tup a ys)
theorem cmp_inL {a : D} {ys : List D} : cmpQ .In (.d a) (.d (.list ys)) Qb ↔ (flatD a && ys.all flatD) = true ∧ Qb (memD a ys) := opt_ite (in_lst a ys)
theorem cmp_ninT {a : D} {ys : List D} : cmpQ .NotIn (.d a) (.d (.tuple ys)) Qb ↔ (flatD a && ys.all flatD) = true ∧ Qb (!memD a ys) := opt_ite_map (nin_tup a ys)
theorem cmp_ninL {a : D} {ys : List D} : cmpQ .NotIn (.d a) (.d (.list ys)) Qb ↔ (flatD a && ys.all flatD) = true ∧ Qb (!memD a ys) := opt_ite_map (nin_lst a ys)
theorem opt_some {α : Type} {a : α} {Q : α → Prop} : optQ (some a) Q = Q a := rfl
theorem opt_map {α β : Type} {o : Option α} {g : α → β} {Q : β → Prop} : optQ (o.map g) Q = optQ o fun a => Q (g a) := by
  cases o <;> rfl
theorem ty_d {x : D} {t : String} : tysQ t (.d x) Qb = optQ (isTy t x) Qb := rfl
theorem unt_t {xs : List D} {Q : List U → Prop} : untQ n (.d (.tuple xs)) Q = (xs.length = n ∧ Q (xs.map .d)) := rfl
theorem aug_0 {op : Operator} {x : D} {u : D → Prop} : augQ op (some (.d x) :: ε) 0 u = u x := rfl
theorem aug_s {op : Operator} {u : D → Prop} : augQ op (x :: ε) (n + 1) u = augQ op ε n u := rfl
theorem augr_add : augR .Add (.int i) (.d (.int j)) Q = Q (.d (.int (i + j))) := rfl
theorem augr_sub : augR .Sub (.int i) (.d (.int j)) Q = Q (.d (.int (i - j))) := rfl
end

section
variable {G : Gm} {W : Nat} {cp : Nat → List D → R D} {cm : Nat → List U → Store → R U} {ε : Env} {st : Store} {Q : U → Store → Prop} {Qs : List U → Store → Prop} {a b c e o : E} {es : Es}
theorem r_int {i : Int} : (evE G cp cm (.con (.int i)) ε st).wp Q = Q (.d (.int i)) st := by rw [evE]; rfl
theorem r_str {s : Str} : (evE G cp cm (.con (.str s)) ε st).wp Q = Q (.d (.str s)) st := by rw [evE]; rfl
theorem r_bool {s : Bool} : (evE G cp cm (.con (.bool s)) ε st).wp Q = Q (.d (.bool s)) st := by rw [evE]; rfl
theorem r_none : (evE G cp cm (.con .none) ε st).wp Q = Q (.d .none) st := by rw [evE]; rfl
theorem r_var {i : Nat} : (evE G cp cm (.var i) ε st).wp Q = varQ ε i fun u => Q u st := by
  rw [evE]
  unfold varQ
  cases ε[i]? with
  | none => rfl
  | some w => cases w <;> rfl
theorem r_glob {g : Nat} {p : Str × D} (h : G.consts[g]? = some p) : (evE G cp cm (.glob g) ε st).wp Q = Q (.d p.2) st := by rw [evE, h]; rfl
theorem r_bin {op : Operator} : (evE G cp cm (.bin op a b) ε st).wp Q = (evE G cp cm a ε st).wp fun x st1 => (evE G cp cm b ε st1).wp fun y st2 => binQ op x y fun z => Q z st2 := by
  rw [evE, wp_bind]
  congr 1; funext x st1
  rw [wp_bind]
  congr 1; funext y st2
  cases x <;> cases y <;> try rfl
  rename_i x y
  show (ofO ((binD op x y).map U.d) st2).wp Q = optQ (binD op x y) fun z => Q (.d z) st2
  cases binD op x y <;> rfl
theorem r_neg : (evE G cp cm (.neg a) ε st).wp Q = (evE G cp cm a ε st).wp fun x st1 => negQ x fun z => Q z st1 := by
  rw [evE, wp_bind]
  congr 1; funext x st1
  rcases x with (_ | _ | _ | _ | _ | _ | _) | _ <;> rfl
theorem r_not : (evE G cp cm (.not_ a) ε st).wp Q = (evE G cp cm a ε st).wp fun x st1 => notQ x fun z => Q z st1 := by
  rw [evE, wp_bind]
  congr 1; funext x st1
  rcases x with (_ | _ | _ | _ | _ | _ | _) | _ <;> rfl
theorem r_cmp {op : CmpOp} : (evE G cp cm (.cmp op a b) ε st).wp Q = (evE G cp cm a ε st).wp fun x st1 => (evE G cp cm b ε st1).wp fun y st2 => cmpQ op x y fun z => Q (.d (.bool z)) st2 := by
  rw [evE, wp_bind]
  congr 1; funext x st1
  rw [wp_bind]
  congr 1; funext y st2
  cases x <;> cases y <;> try rfl
  rename_i x y
  show (b2 (cmpD op x y) st2).wp Q = optQ (cmpD op x y) fun z => Q (.d (.bool z)) st2
  cases cmpD op x y <;> rfl
theorem r_chain {op op2 : CmpOp} : (evE G cp cm (.chain op op2 a b c) ε st).wp Q = (evE G cp cm a ε st).wp fun x st1 => (evE G cp cm b ε st1).wp fun y st2 => cmpQ op x y fun z => tstQ (.d (.bool z)) ((evE G cp cm c ε st2).wp fun w st3 => cmpQ op2 y w fun z => Q (.d (.bool z)) st3) (Q (.d (.bool false)) st2) := by
  rw [evE, wp_bind]
  congr 1; funext x st1
  rw [wp_bind]
  congr 1; funext y st2
  cases x <;> cases y <;> try rfl
  rename_i x y
  show R.wp (match cmpD op x y with
      | some true => (evE G cp cm c ε st2).bind fun z st3 => match z with
        | .d z => b2 (cmpD op2 y z) st3
        | _ => .stuck
      | some false => .ok (.d (.bool false)) st2
      | none => .stuck) Q = optQ (cmpD op x y) fun z => tstQ (.d (.bool z)) ((evE G cp cm c ε st2).wp fun w st3 => cmpQ op2 (.d y) w fun z => Q (.d (.bool z)) st3) (Q (.d (.bool false)) st2)
  cases cmpD op x y with
  | none => rfl
  | some z =>
    cases z with
    | false => rfl
    | true =>
      show ((evE G cp cm c ε st2).bind _).wp Q = (evE G cp cm c ε st2).wp _
      rw [wp_bind]
      congr 1; funext w st3
      cases w with
      | m => rfl
      | d w =>
        show (b2 (cmpD op2 y w) st3).wp Q = optQ (cmpD op2 y w) fun z => Q (.d (.bool z)) st3
        cases cmpD op2 y w <;> rfl
theorem b_split {x : U} {r1 r2 : R U} : (match x with | .d (.bool true) => r1 | .d (.bool false) => r2 | _ => R.stuck).wp Q = tstQ x (r1.wp Q) (r2.wp Q) := by
  rcases x with (_ | b | _ | _ | _ | _ | _) | _ <;> try rfl
  cases b <;> rfl
theorem r_and : (evE G cp cm (.and_ a b) ε st).wp Q = (evE G cp cm a ε st).wp fun x st1 => tstQ x ((evE G cp cm b ε st1).wp Q) (Q (.d (.bool false)) st1) := by
  rw [evE, wp_bind]
  congr 1; funext x st1
  exact b_split
theorem r_or : (evE G cp cm (.or_ a b) ε st).wp Q = (evE G cp cm a ε st).wp fun x st1 => tstQ x (Q (.d (.bool true)) st1) ((evE G cp cm b ε st1).wp Q) := by
  rw [evE, wp_bind]
  congr 1; funext x st1
  exact b_split
theorem r_ite : (evE G cp cm (.ite c a b) ε st).wp Q = (evE G cp cm c ε st).wp fun x st1 => tstQ x ((evE G cp cm a ε st1).wp Q) ((evE G cp cm b ε st1).wp Q) := by
  rw [evE, wp_bind]
  congr 1; funext x st1
  exact b_split
theorem r_tup : (evE G cp cm (.tup es) ε st).wp Q = (evEs G cp cm es ε st).wp fun us st1 => tupQ us fun u => Q u st1 := by
  rw [evE, wp_bind]
  congr 1; funext us st1
  unfold tupQ
  cases toDs us with
  | none => rfl
  | some ds =>
    simp only
    by_cases h : ds.length ≤ sizeMax
    · rw [if_pos h]; exact propext ⟨fun q => ⟨h, q⟩, fun q => q.2⟩
    · rw [if_neg h]; exact propext ⟨fun q => q.elim, fun q => absurd q.1 h⟩
theorem tup_d {ds : List D} {Q : U → Prop} : tupQ (ds.map .d) Q = (ds.length ≤ sizeMax ∧ Q (.d (.tuple ds))) := by
  unfold tupQ; rw [toDs_map]
theorem r_lst {mu : Bool} : (evE G cp cm (.lst mu es) ε st).wp Q = (evEs G cp cm es ε st).wp fun us st1 => us.length ≤ sizeMax ∧ (allocL mu us st1).wp Q := by
  rw [evE, wp_bind]
  congr 1; funext us st1
  by_cases h : us.length ≤ sizeMax
  · rw [if_pos h]; exact propext ⟨fun q => ⟨h, q⟩, fun q => q.2⟩
  · rw [if_neg h]; exact propext ⟨fun q => q.elim, fun q => absurd q.1 h⟩
theorem r_alloc {us : List U} : (allocL true us st).wp Q = Q (.m st.length) (st ++ [.lst us]) := rfl
theorem r_alloc0 {us : List U} : (allocL false us st).wp Q = optQ (toDs us) fun ds => Q (.d (.list ds)) st := by
  unfold allocL
  cases toDs us <;> rfl
theorem r_ix : (evE G cp cm (.ix a b) ε st).wp Q = (evE G cp cm a ε st).wp fun x st1 => (evE G cp cm b ε st1).wp fun y st2 => optQ (ixU x y st2) fun z => Q z st2 := by
  rw [evE, wp_bind]
  congr 1; funext x st1
  rw [wp_bind]
  congr 1; funext y st2
  cases ixU x y st2 <;> rfl
theorem r_call {f : Nat} : (evE G cp cm (.call f es) ε st).wp Q = (evEs G cp cm es ε st).wp fun us st1 => (callU G cp cm f us st1).wp Q := by
  rw [evE, wp_bind]
theorem r_callK {f : Nat} {ks js : List Nat} : (evE G cp cm (.callK f ks js es) ε st).wp Q = (evEs G cp cm es ε st).wp fun us st1 => optQ (pick us js) fun vs => (callU G cp cm f vs st1).wp Q := by
  rw [evE, wp_bind]
  congr 1; funext us st1
  cases pick us js <;> rfl
theorem r_bcall {f : Bf} : (evE G cp cm (.bcall f es) ε st).wp Q = (evEs G cp cm es ε st).wp fun us st1 => (bfD f us st1).wp Q := by
  rw [evE, wp_bind]
theorem r_isty {t : Ty} : (evE G cp cm (.isty t e) ε st).wp Q = (evE G cp cm e ε st).wp fun u st1 => tysQ t.name u fun b => Q (.d (.bool b)) st1 := by
  rw [evE, wp_bind]
  congr 1; funext u st1
  cases u with
  | m => rfl
  | d x =>
    show (b2 (isTy t.name x) st1).wp Q = optQ (isTy t.name x) fun b => Q (.d (.bool b)) st1
    cases isTy t.name x <;> rfl
theorem r_meth0 {m : M0} : (evE G cp cm (.meth0 m o) ε st).wp Q = (evE G cp cm o ε st).wp fun x st1 => (m0D m x st1).wp Q := by rw [evE, wp_bind]
theorem r_meth1 {m : M1} : (evE G cp cm (.meth1 m o a) ε st).wp Q = (evE G cp cm o ε st).wp fun x st1 => r1Ok m x st1 = true ∧ (evE G cp cm a ε st1).wp fun u st2 => (m1D m x u st2).wp Q := by
  rw [evE, wp_bind]
  congr 1; funext x st1
  by_cases h : r1Ok m x st1 = true
  · rw [if_pos h, wp_bind]; exact propext ⟨fun q => ⟨h, q⟩, fun q => q.2⟩
  · rw [if_neg h]; exact propext ⟨fun q => q.elim, fun q => absurd q.1 h⟩
theorem r_dict {ks : List Str} : (evE G cp cm (.dict ks es) ε st).wp Q = (evEs G cp cm es ε st).wp fun us st1 => optQ (dictU ks us) fun z => Q z st1 := by
  rw [evE, wp_bind]
  congr 1; funext us st1
  cases dictU ks us <;> rfl
theorem r_slice {lo hi : Es} : (evE G cp cm (.slice a lo hi) ε st).wp Q = (evE G cp cm a ε st).wp fun x st1 => ((evEs G cp cm lo ε st1).bind partI).wp fun l st2 => ((evEs G cp cm hi ε st2).bind partI).wp fun h st3 => optQ (slU x l h st3) fun z => Q z st3 := by
  rw [evE, wp_bind]
  congr 1; funext x st1
  rw [wp_bind]
  congr 1; funext l st2
  rw [wp_bind]
  congr 1; funext h st3
  cases slU x l h st3 <;> rfl
theorem r_nil : (evEs G cp cm .nil ε st).wp Qs = Qs [] st := by rw [evEs]; rfl
theorem r_cons : (evEs G cp cm (.cons e es) ε st).wp Qs = (evE G cp cm e ε st).wp fun u st1 => (evEs G cp cm es ε st1).wp fun us st2 => Qs (u :: us) st2 := by
  rw [evEs, wp_bind]
  congr 1; funext u st1
  rw [wp_bind]
  rfl
/-! ### statements -/
variable {D : Out} {s : S} {p q : Ss} {t : Tg}
theorem s_pass : (exS G W cp cm .pass ε st).wp D = D.nx ε st := by rw [exS]; rfl
theorem s_ret : (exS G W cp cm (.ret e) ε st).wp D = (evE G cp cm e ε st).wp D.rt := by
  rw [exS, wpS_bind]; rfl
theorem s_retN : (exS G W cp cm .retN ε st).wp D = D.rt (.d .none) st := by rw [exS]; rfl
theorem s_asg {i : Nat} : (exS G W cp cm (.asg (.name i) e) ε st).wp D = (evE G cp cm e ε st).wp fun u st1 => D.nx (setE i u ε) st1 := by
  rw [exS, wpS_bind]; rfl
theorem s_sub {u : U} : (asgTg G cp cm (.sub o a) u ε st).wp D = (evE G cp cm o ε st).wp fun ov st1 => (evE G cp cm a ε st1).wp fun iv st2 => (setSub ov iv u st2).wp fun _ st3 => D.nx ε st3 := by
  unfold asgTg
  rw [wpS_bind]
  congr 1; funext ov st1
  rw [wpS_bind]
  congr 1; funext iv st2
  rw [wpS_bind]
  rfl
theorem s_asgS : (exS G W cp cm (.asg (.sub o a) e) ε st).wp D = (evE G cp cm e ε st).wp fun u st1 => (asgTg G cp cm (.sub o a) u ε st1).wp D := by
  rw [exS, wpS_bind]
theorem s_tup {ts : List Tg} : (exS G W cp cm (.tup ts e) ε st).wp D = (evE G cp cm e ε st).wp fun u st1 => untQ ts.length u fun us => (asgTgs G cp cm ts us ε st1).wp D := by
  rw [exS, wpS_bind]
  congr 1; funext u st1
  rcases u with (_ | _ | _ | _ | _ | xs | _) | _ <;> try rfl
  show (if xs.length = ts.length then asgTgs G cp cm ts (xs.map .d) ε st1 else .stuck).wp D = _
  unfold untQ
  by_cases h : xs.length = ts.length
  · rw [if_pos h]; exact propext ⟨fun q => ⟨h, q⟩, fun q => q.2⟩
  · rw [if_neg h]; exact propext ⟨fun q => q.elim, fun q => absurd q.1 h⟩
theorem s_tgs0 : (asgTgs G cp cm [] [] ε st).wp D = D.nx ε st := rfl
theorem s_tgs {ts : List Tg} {u : U} {us : List U} : (asgTgs G cp cm (t :: ts) (u :: us) ε st).wp D = (asgTg G cp cm t u ε st).wp { D with nx := fun ε1 st1 => (asgTgs G cp cm ts us ε1 st1).wp D } := by
  have e : asgTgs G cp cm (t :: ts) (u :: us) ε st = match asgTg G cp cm t u ε st with
    | .nx ε1 st1 => asgTgs G cp cm ts us ε1 st1
    | r => r := by first | (rw [asgTgs]; rfl) | rw [asgTgs]
  rw [e]
  cases asgTg G cp cm t u ε st <;> rfl
theorem s_tgN {i : Nat} {u : U} : (asgTg G cp cm (.name i) u ε st).wp D = D.nx (setE i u ε) st := rfl
theorem s_par {is : List Nat} : (exS G W cp cm (.par is es) ε st).wp D = (evEs G cp cm es ε st).wp fun us st1 => optQ (setEs is us ε) fun ε1 => D.nx ε1 st1 := by
  rw [exS, wpS_bind]
  congr 1; funext us st1
  cases setEs is us ε <;> rfl
theorem s_ex : (exS G W cp cm (.ex e) ε st).wp D = (evE G cp cm e ε st).wp fun _ st1 => D.nx ε st1 := by
  rw [exS, wpS_bind]; rfl
theorem s_aug {i : Nat} {op : Operator} : (exS G W cp cm (.aug i op e) ε st).wp D = augQ op ε i fun x => (evE G cp cm e ε st).wp fun u st1 => augR op x u fun z => D.nx (setE i z ε) st1 := by
  rw [exS]
  unfold augQ
  cases h : ε[i]? with
  | none => rfl
  | some w => cases w with
    | none => rfl
    | some u => cases u with
      | m => rfl
      | d x =>
        simp only
        rw [wpS_bind]
        congr 1; funext u st1
        cases u with
        | m => rfl
        | d y =>
          show (match augD op x y with
            | some z => RS.nx (setE i (.d z) ε) st1
            | none => .stuck).wp D = optQ (augD op x y) fun z => D.nx (setE i (.d z) ε) st1
          cases augD op x y <;> rfl
theorem s_if : (exS G W cp cm (.ifs e p q) ε st).wp D = (evE G cp cm e ε st).wp fun u st1 => tstQ u ((exSs G W cp cm p ε st1).wp D) ((exSs G W cp cm q ε st1).wp D) := by
  rw [exS, wpS_bind]
  congr 1; funext u st1
  rcases u with (_ | b | _ | _ | _ | _ | _) | _ <;> try rfl
  cases b <;> rfl
theorem s_for {t : Tn} {ik : Ik} : (exS G W cp cm (.for_ t ik es p) ε st).wp D = (evEs G cp cm es ε st).wp fun us st1 => optQ (walkU ik us st1) fun items => (forLoop (setTn t) (fun ε1 st2 => exSs G W cp cm p ε1 st2) items ε st1).wp D := by
  rw [exS, wpS_bind, wp_bind]
  congr 1; funext us st1
  cases walkU ik us st1 <;> rfl
theorem s_brk : (exS G W cp cm .brk ε st).wp D = D.bk ε st := by rw [exS]; rfl
theorem s_cnt : (exS G W cp cm .cnt ε st).wp D = D.ct ε st := by rw [exS]; rfl
end
theorem set_0 {u : U} {x : Option U} {ε : Env} : setE 0 u (x :: ε) = some u :: ε := rfl
theorem set_s {n : Nat} {u : U} {x : Option U} {ε : Env} : setE (n + 1) u (x :: ε) = x :: setE n u ε := rfl
theorem cmp_eqB {a b : Bool} {Qb : Bool → Prop} : cmpQ .Eq (.d (.bool a)) (.d (.bool b)) Qb = Qb (a == b) := rfl
/-! ### kinds -/
def intB : D → Bool
  | .int _ => true
  | .bool _ => true
  | _ => false
def boolB : D → Bool
  | .bool _ => true
  | _ => false
def strB : D → Bool
  | .str _ => true
  | _ => false
def tupB : D → Bool
  | .tuple _ => true
  | _ => false
def lstB : D → Bool
  | .list _ => true
  | _ => false
theorem ty_int {Q : Bool → Prop} : ∀ x : D, optQ (isTy Ty.int.name x) Q = Q (intB x)
  | .none => by rw [show isTy Ty.int.name .none = some false from (by decide : L2.kitB "NoneType" "int" = some false)]; rfl
  | .bool b => by rw [show isTy Ty.int.name (.bool b) = some true from (by decide : L2.kitB "bool" "int" = some true)]; rfl
  | .int b => by rw [show isTy Ty.int.name (.int b) = some true from (by decide : L2.kitB "int" "int" = some true)]; rfl
  | .str b => by rw [show isTy Ty.int.name (.str b) = some false from (by decide : L2.kitB "str" "int" = some false)]; rfl
  | .list b => by rw [show isTy Ty.int.name (.list b) = some false from (by decide : L2.kitB "list" "int" = some false)]; rfl
  | .tuple b => by rw [show isTy Ty.int.name (.tuple b) = some false from (by decide : L2.kitB "tuple" "int" = some false)]; rfl
  | .dict b => by rw [show isTy Ty.int.name (.dict b) = some false from (by decide : L2.kitB "dict" "int" = some false)]; rfl
theorem ty_bool {Q : Bool → Prop} : ∀ x : D, optQ (isTy Ty.bool.name x) Q = Q (boolB x)
  | .none => by rw [show isTy Ty.bool.name .none = some false from (by decide : L2.kitB "NoneType" "bool" = some false)]; rfl
  | .bool b => by rw [show isTy Ty.bool.name (.bool b) = some true from (by decide : L2.kitB "bool" "bool" = some true)]; rfl
  | .int b => by rw [show isTy Ty.bool.name (.int b) = some false from (by decide : L2.kitB "int" "bool" = some false)]; rfl
  | .str b => by rw [show isTy Ty.bool.name (.str b) = some false from (by decide : L2.kitB "str" "bool" = some false)]; rfl
  | .list b => by rw [show isTy Ty.bool.name (.list b) = some false from (by decide : L2.kitB "list" "bool" = some false)]; rfl
  | .tuple b => by rw [show isTy Ty.bool.name (.tuple b) = some false from (by decide : L2.kitB "tuple" "bool" = some false)]; rfl
  | .dict b => by rw [show isTy Ty.bool.name (.dict b) = some false from (by decide : L2.kitB "dict" "bool" = some false)]; rfl
theorem ty_str {Q : Bool → Prop} : ∀ x : D, optQ (isTy Ty.str.name x) Q = Q (strB x)
  | .none => by rw [show isTy Ty.str.name .none = some false from (by decide : L2.kitB "NoneType" "str" = some false)]; rfl
  | .bool b => by rw [show isTy Ty.str.name (.bool b) = some false from (by decide : L2.kitB "bool" "str" = some false)]; rfl
  | .int b => by rw [show isTy Ty.str.name (.int b) = some false from (by decide : L2.kitB "int" "str" = some false)]; rfl
  | .str b => by rw [show isTy Ty.str.name (.str b) = some true from (by decide : L2.kitB "str" "str" = some true)]; rfl
  | .list b => by rw [show isTy Ty.str.name (.list b) = some false from (by decide : L2.kitB "list" "str" = some false)]; rfl
  | .tuple b => by rw [show isTy Ty.str.name (.tuple b) = some false from (by decide : L2.kitB "tuple" "str" = some false)]; rfl
  | .dict b => by rw [show isTy Ty.str.name (.dict b) = some false from (by decide : L2.kitB "dict" "str" = some false)]; rfl
theorem ty_tup {Q : Bool → Prop} : ∀ x : D, optQ (isTy Ty.tuple.name x) Q = Q (tupB x)
  | .none => by rw [show isTy Ty.tuple.name .none = some false from (by decide : L2.kitB "NoneType" "tuple" = some false)]; rfl
  | .bool b => by rw [show isTy Ty.tuple.name (.bool b) = some false from (by decide : L2.kitB "bool" "tuple" = some false)]; rfl
  | .int b => by rw [show isTy Ty.tuple.name (.int b) = some false from (by decide : L2.kitB "int" "tuple" = some false)]; rfl
  | .str b => by rw [show isTy Ty.tuple.name (.str b) = some false from (by decide : L2.kitB "str" "tuple" = some false)]; rfl
  | .list b => by rw [show isTy Ty.tuple.name (.list b) = some false from (by decide : L2.kitB "list" "tuple" = some false)]; rfl
  | .tuple b => by rw [show isTy Ty.tuple.name (.tuple b) = some true from (by decide : L2.kitB "tuple" "tuple" = some true)]; rfl
  | .dict b => by rw [show isTy Ty.tuple.name (.dict b) = some false from (by decide : L2.kitB "dict" "tuple" = some false)]; rfl
theorem chr_inj {c d : Char} (h : c.toNat = d.toNat) : c = d := Char.ext (UInt32.toNat_inj.mp h)
theorem chrs_inj : ∀ {l m : List Char}, l.map Char.toNat = m.map Char.toNat → l = m
  | [], [], _ => rfl
  | [], _ :: _, h => by cases h
  | _ :: _, [], h => by cases h
  | c :: l, d :: m, h => by
    rw [List.map_cons, List.map_cons] at h
    injection h with h1 h2
    rw [chr_inj h1, chrs_inj h2]
theorem str_eq {s t : String} : (Str.ofString s = Str.ofString t) = (s = t) := by
  refine propext ⟨fun h => ?_, fun h => by rw [h]⟩
  rw [Str.ofString_eq_toList, Str.ofString_eq_toList] at h
  injection h with h
  have h2 : s.toList.map Char.toNat = t.toList.map Char.toNat := by
    have := congrArg Array.toList h
    simpa using this
  exact String.toList_injective (chrs_inj h2) 
/-- among texts -/
theorem mem_nil {x : D} : memD x [] = false := rfl
theorem mem_str {s t : Str} {ys : List D} : memD (.str s) (.str t :: ys) = (decide (s = t) || memD (.str s) ys) := by
  show (PyData.eqv (.str t) (.str s) || _) = _
  have : PyData.eqv (.str t) (.str s) = decide (s = t) := by
    show (t == s) = _
    rw [beq_dec]
    by_cases h : s = t
    · subst h; rfl
    · rw [decide_eq_false h, decide_eq_false fun z => h z.symm]
  rw [this]
  rfl
theorem flat_str {s : Str} : flatD (.str s) = true := rfl
theorem flat_int {s : Int} : flatD (.int s) = true := rfl
section
variable {st : Store} {Q : Option Int → Store → Prop} {xs : List D}
theorem part_0 : (partI [] st).wp Q = Q none st := rfl
theorem part_1 {i : Int} : (partI [.d (.int i)] st).wp Q = Q (some i) st := rfl
theorem sl_list {lo hi : Option Int} : slU (.d (.list xs)) lo hi st = some (.d (.list (sl xs lo hi))) := rfl
theorem sl_tuple {lo hi : Option Int} : slU (.d (.tuple xs)) lo hi st = some (.d (.tuple (sl xs lo hi))) := rfl
theorem wk_list : walkU .val [.d (.list xs)] st = some (xs.map .d) := rfl
theorem wk_tuple : walkU .val [.d (.tuple xs)] st = some (xs.map .d) := rfl
end
theorem sl_map {α β : Type} {f : α → β} {xs : List α} {lo hi : Option Int} : sl (xs.map f) lo hi = (sl xs lo hi).map f := by
  unfold sl
  rw [List.length_map, List.map_take, List.map_drop]
theorem mem_ints {u : U} {ns : List Int} (h : u ∈ (ns.map PyData.int).map U.d) : ∃ i : Int, u = .d (.int i) := by
  rw [List.map_map, List.mem_map] at h
  obtain ⟨i, _, e⟩ := h
  exact ⟨i, e.symm⟩
theorem range_mem : ∀ {n : Nat} {lo : Int} {u : U}, u ∈ rangeU lo n → ∃ i : Int, u = .d (.int i) ∧ lo ≤ i ∧ i < lo + n
  | 0, _, _, h => nomatch h
  | n + 1, lo, u, h => by
    unfold rangeU at h
    rcases List.mem_cons.mp h with rfl | h
    · exact ⟨lo, rfl, by omega, by omega⟩
    · obtain ⟨i, e, h1, h2⟩ := range_mem h
      exact ⟨i, e, by omega, by omega⟩
theorem range_len : ∀ {n : Nat} {lo : Int}, (rangeU lo n).length = n
  | 0, _ => rfl
  | n + 1, lo => by
    unfold rangeU
    rw [List.length_cons, range_len]
theorem walk_r1 {j : Int} {st : Store} {Q : List U → Prop} : optQ (walkU .r1 [.d (.int j)] st) Q ↔ (-(2 ^ 62) ≤ j ∧ j < 2 ^ 62) ∧ Q (rangeU 0 j.toNat) := opt_ite rfl
theorem walk_r2 {i j : Int} {st : Store} {Q : List U → Prop} : optQ (walkU .r2 [.d (.int i), .d (.int j)] st) Q ↔ (-(2 ^ 62) ≤ i ∧ i < 2 ^ 62 ∧ -(2 ^ 62) ≤ j ∧ j < 2 ^ 62) ∧ Q (rangeU i (j - i).toNat) := opt_ite rfl
section
variable {G : Gm} {W : Nat} {cp : Nat → List D → R D} {cm : Nat → List U → Store → R U} {ε : Env} {st : Store} {Q : U → Store → Prop}
theorem r_comp {mu : Bool} {elt : E} {tg : Tn} {ik : Ik} {its ifs : Es} {own : List Nat} : (evE G cp cm (.comp mu elt tg ik its ifs own) ε st).wp Q = (evEs G cp cm its ε st).wp fun us st1 => optQ (walkU ik us st1) fun items => (compLoop (fun u st2 => match setTn tg u (wipeE ε own) with
        | none => .stuck
        | some ε1 => (evEs G cp cm ifs ε1 st2).nox.bind fun bs st3 => match bs with
          | [] => (evE G cp cm elt ε1 st3).nox.bind fun x st4 => .ok (some x) st4
          | [.d (.bool true)] => (evE G cp cm elt ε1 st3).nox.bind fun x st4 => .ok (some x) st4
          | [.d (.bool false)] => .ok none st3
          | _ => .stuck) items [] st1).wp fun acc st5 => (allocL mu acc st5).wp Q := by
  rw [evE]
  rw [wp_bind, wp_bind]
  congr 1; funext us st1
  cases walkU ik us st1 with
  | none => rfl
  | some items => exact wp_bind
theorem nox_wp {α : Type} {r : R α} {Q : α → Store → Prop} : r.nox.wp Q = r.wp Q := by
  cases r <;> rfl
/-- one turn of a comprehension -/
def compQ (G : Gm) (cp : Nat → List D → R D) (cm : Nat → List U → Store → R U) (elt : E) (ifs : Es) (ε1 : Env) (st : Store) (Q : Option U → Store → Prop) : Prop :=
  (evEs G cp cm ifs ε1 st).wp fun bs st3 => match bs with
    | [] => (evE G cp cm elt ε1 st3).wp fun x st4 => Q (some x) st4
    | [b] => tstQ b ((evE G cp cm elt ε1 st3).wp fun x st4 => Q (some x) st4) (Q none st3)
    | _ => False
theorem turn_wp {elt : E} {ifs : Es} {tg : Tn} {u : U} {ε1 : Env} {Q : Option U → Store → Prop} (h : setTn tg u ε = some ε1) : R.wp (match setTn tg u ε with
        | none => .stuck
        | some ε1 => (evEs G cp cm ifs ε1 st).nox.bind fun bs st3 => match bs with
          | [] => (evE G cp cm elt ε1 st3).nox.bind fun x st4 => .ok (some x) st4
          | [.d (.bool true)] => (evE G cp cm elt ε1 st3).nox.bind fun x st4 => .ok (some x) st4
          | [.d (.bool false)] => .ok none st3
          | _ => .stuck) Q = compQ G cp cm elt ifs ε1 st Q := by
  rw [h]
  show R.wp (R.bind _ _) _ = _
  rw [wp_bind, nox_wp]
  unfold compQ
  congr 1; funext bs st3
  rcases bs with _ | ⟨b, _ | ⟨c, bs⟩⟩
  · show R.wp (R.bind _ _) _ = _
    rw [wp_bind, nox_wp]; rfl
  · rcases b with (_ | b | _ | _ | _ | _ | _) | _ <;> try rfl
    cases b
    · rfl
    · show R.wp (R.bind _ _) _ = _
      rw [wp_bind, nox_wp]; rfl
  · rcases b with (_ | b | _ | _ | _ | _ | _) | _ <;> try rfl
    cases b <;> rfl
end
theorem cmp_isB {a b : Bool} {Qb : Bool → Prop} : cmpQ .Is (.d (.bool a)) (.d (.bool b)) Qb = Qb (decide (a = b)) := rfl
theorem cmp_isnB {a b : Bool} {Qb : Bool → Prop} : cmpQ .IsNot (.d (.bool a)) (.d (.bool b)) Qb = Qb (!decide (a = b)) := rfl
/-! ### loops that are followed turn by turn -/
theorem for_wp_n {set : U → Env → Option Env} {body : Env → Store → RS} {D : Out} (I : Nat → Env → Store → Prop) : ∀ {items : List U}, (∀ u ∈ items, ∀ n ε st, I (n + 1) ε st → ∃ ε1, set u ε = some ε1 ∧ (body ε1 st).wp { D with nx := I n, ct := I n, bk := D.nx }) → (∀ ε st, I 0 ε st → D.nx ε st) → ∀ {ε : Env} {st : Store}, I items.length ε st → (forLoop set body items ε st).wp D
  | [], _, fin, ε, st, h => fin ε st h
  | u :: us, step, fin, ε, st, h => by
    obtain ⟨ε1, e1, b⟩ := step u (List.mem_cons_self ..) us.length ε st h
    unfold forLoop
    rw [e1]
    simp only
    cases r : body ε1 st with
    | nx ε2 st2 => rw [r] at b; exact for_wp_n I (fun v hv => step v (List.mem_cons_of_mem _ hv)) fin b
    | cnt ε2 st2 => rw [r] at b; exact for_wp_n I (fun v hv => step v (List.mem_cons_of_mem _ hv)) fin b
    | brk ε2 st2 => rw [r] at b; exact b
    | ret => rw [r] at b; exact b
    | exc => rw [r] at b; exact b
    | stuck => rw [r] at b; exact b
/-- a comprehension whose turns leave the store alone -/
theorem comp_pure {f : U → Store → R (Option U)} {Q : List U → Store → Prop} {g : U → Option U} {st : Store} : ∀ {items acc : List U}, acc.length + items.length ≤ sizeMax → (∀ u ∈ items, ∀ Q : Option U → Store → Prop, Q (g u) st → (f u st).wp Q) → Q (acc ++ items.filterMap g) st → (compLoop f items acc st).wp Q
  | [], acc, _, _, q => by
    rw [List.filterMap_nil, List.append_nil] at q
    exact q
  | u :: us, acc, hl, step, q => by
    rw [List.length_cons] at hl
    unfold compLoop
    rw [wp_bind]
    refine step u (List.mem_cons_self ..) _ ?_
    cases hg : g u with
    | none =>
      rw [List.filterMap_cons_none hg] at q
      exact comp_pure (by omega) (fun v hv => step v (List.mem_cons_of_mem _ hv)) q
    | some x =>
      simp only
      rw [if_pos (by omega)]
      rw [List.filterMap_cons_some hg] at q
      refine comp_pure (by rw [List.length_append, List.length_singleton]; omega) (fun v hv => step v (List.mem_cons_of_mem _ hv)) ?_
      rw [List.append_assoc]
      exact q
theorem compA_pure {f : U → List U → Store → R (List U)} {Q : List U → Store → Prop} {g : U → List U} {st : Store} {B : Nat} : ∀ {items acc : List U}, acc.length + B * items.length ≤ sizeMax → (∀ u ∈ items, (g u).length ≤ B) → (∀ u ∈ items, ∀ (acc : List U) (Q : List U → Store → Prop), acc.length + B ≤ sizeMax → Q (acc ++ g u) st → (f u acc st).wp Q) → Q (acc ++ items.flatMap g) st → (compLoopA f items acc st).wp Q
  | [], acc, _, _, _, q => by
    rw [List.flatMap_nil, List.append_nil] at q
    exact q
  | u :: us, acc, hl, hb, step, q => by
    rw [List.length_cons, Nat.mul_succ] at hl
    unfold compLoopA
    rw [wp_bind]
    refine step u (List.mem_cons_self ..) acc _ (by omega) ?_
    rw [List.flatMap_cons, ← List.append_assoc] at q
    have := hb u (List.mem_cons_self ..)
    exact compA_pure (by rw [List.length_append]; omega) (fun v hv => hb v (List.mem_cons_of_mem _ hv)) (fun v hv => step v (List.mem_cons_of_mem _ hv)) q
section
variable {G : Gm} {W : Nat} {cp : Nat → List D → R D} {cm : Nat → List U → Store → R U} {ε : Env} {st : Store} {Q : U → Store → Prop} {es : Es}
theorem r_rep {n : Nat} : (evE G cp cm (.rep es n) ε st).wp Q = (evEs G cp cm es ε st).wp fun us st1 => optQ (repU n us) fun z => Q z st1 := by
  rw [evE, wp_bind]
  congr 1; funext us st1
  cases repU n us <;> rfl
theorem r_comp2 {mu : Bool} {elt : E} {tg : Tn} {ik : Ik} {its ifs : Es} {tg1 : Tn} {ik1 : Ik} {its1 ifs1 : Es} {own own1 : List Nat} : (evE G cp cm (.comp2 mu elt tg ik its ifs tg1 ik1 its1 ifs1 own own1) ε st).wp Q = (evEs G cp cm its ε st).wp fun us st1 => optQ (walkU ik us st1) fun items => (compLoopA (fun u acc st2 => match setTn tg u (wipeE ε own) with
        | none => .stuck
        | some ε1 => (evEs G cp cm ifs ε1 st2).nox.bind fun bs st3 => match tstB bs with
          | some true => ((evEs G cp cm its1 ε1 st3).bind fun us st4 => ofO (walkU ik1 us st4) st4).nox.bind fun items1 st5 => compLoop (fun u st2 => match setTn tg1 u (wipeE ε1 own1) with
            | none => .stuck
            | some ε2 => (evEs G cp cm ifs1 ε2 st2).nox.bind fun bs st3 => match bs with
              | [] => (evE G cp cm elt ε2 st3).nox.bind fun x st4 => .ok (some x) st4
              | [.d (.bool true)] => (evE G cp cm elt ε2 st3).nox.bind fun x st4 => .ok (some x) st4
              | [.d (.bool false)] => .ok none st3
              | _ => .stuck) items1 acc st5
          | some false => .ok acc st3
          | none => .stuck) items [] st1).wp fun acc st5 => (allocL mu acc st5).wp Q := by
  rw [evE]
  rw [wp_bind, wp_bind]
  congr 1; funext us st1
  cases walkU ik us st1 with
  | none => rfl
  | some items => exact wp_bind
end
section
variable {α : Type} {a b : α}
theorem at1_0 : L2.atI [a] 0 = some a := rfl
theorem at2_0 : L2.atI [a, b] 0 = some a := rfl
theorem at2_1 : L2.atI [a, b] 1 = some b := rfl
end
section
variable {G : Gm} {W : Nat} {cp : Nat → List D → R D} {cm : Nat → List U → Store → R U} {ε ε1 : Env} {st : Store}
/-- an outer turn of a comprehension of two fors -/
theorem turn2_wp {elt : E} {tg tg1 : Tn} {ifs its1 ifs1 : Es} {ik1 : Ik} {own1 : List Nat} {u : U} {acc : List U} {Q : List U → Store → Prop} (h : setTn tg u ε = some ε1) : R.wp (match setTn tg u ε with
        | none => .stuck
        | some ε1 => (evEs G cp cm ifs ε1 st).nox.bind fun bs st3 => match tstB bs with
          | some true => ((evEs G cp cm its1 ε1 st3).bind fun us st4 => ofO (walkU ik1 us st4) st4).nox.bind fun items1 st5 => compLoop (fun u st2 => match setTn tg1 u (wipeE ε1 own1) with
            | none => .stuck
            | some ε2 => (evEs G cp cm ifs1 ε2 st2).nox.bind fun bs st3 => match bs with
              | [] => (evE G cp cm elt ε2 st3).nox.bind fun x st4 => .ok (some x) st4
              | [.d (.bool true)] => (evE G cp cm elt ε2 st3).nox.bind fun x st4 => .ok (some x) st4
              | [.d (.bool false)] => .ok none st3
              | _ => .stuck) items1 acc st5
          | some false => .ok acc st3
          | none => .stuck) Q = (evEs G cp cm ifs ε1 st).wp fun bs st3 => optQ (tstB bs) fun b => tstQ (.d (.bool b)) ((evEs G cp cm its1 ε1 st3).wp fun us st4 => optQ (walkU ik1 us st4) fun items1 => (compLoop (fun u st2 => match setTn tg1 u (wipeE ε1 own1) with
            | none => .stuck
            | some ε2 => (evEs G cp cm ifs1 ε2 st2).nox.bind fun bs st3 => match bs with
              | [] => (evE G cp cm elt ε2 st3).nox.bind fun x st4 => .ok (some x) st4
              | [.d (.bool true)] => (evE G cp cm elt ε2 st3).nox.bind fun x st4 => .ok (some x) st4
              | [.d (.bool false)] => .ok none st3
              | _ => .stuck) items1 acc st4).wp Q) (Q acc st3) := by
  rw [h]
  show R.wp (R.bind _ _) _ = _
  rw [wp_bind, nox_wp]
  congr 1; funext bs st3
  cases tstB bs with
  | none => rfl
  | some b =>
    cases b with
    | false => rfl
    | true =>
      show R.wp (R.bind _ _) _ = R.wp _ _
      rw [wp_bind, nox_wp, wp_bind]
      congr 1; funext us st4
      cases walkU ik1 us st4 <;> rfl
end
end Ev
end

section
set_option maxRecDepth 100000
set_option autoImplicit false
namespace K75
open Ev PySem PySem.Spec PyProof.Rows L2

/-- is_whole -/
def b0 : Ss := (.cons (.ret (.and_ (.isty .int (.var 0)) (.not_ (.isty .bool (.var 0))))) .nil)
def f0 : Fn := ⟨"is_whole", ["value"], ["value"], true, b0, [], []⟩
/-- is_number -/
def b1 : Ss := (.cons (.ret (.and_ (.call 0 (.cons (.var 0) .nil)) (.and_ (.cmp .LtE (.var 1) (.var 0)) (.or_ (.cmp .Is (.var 2) (.con .none)) (.cmp .LtE (.var 0) (.var 2)))))) .nil)
def f1 : Fn := ⟨"is_number", ["value", "low", "high"], ["value", "low", "high"], true, b1, [.none], []⟩
/-- is_tuple_of -/
def b2 : Ss := (.cons (.ret (.and_ (.isty .tuple (.var 0)) (.cmp .Eq (.bcall .len (.cons (.var 0) .nil)) (.var 1)))) .nil)
def f2 : Fn := ⟨"is_tuple_of", ["value", "many"], ["value", "many"], true, b2, [], []⟩
/-- is_text_of -/
def b3 : Ss := (.cons (.ret (.and_ (.isty .str (.var 0)) (.and_ (.cmp .NotEq (.var 0) (.con (.str ""))) (.bcall .all (.cons (.comp false (.cmp .In (.var 2) (.var 1)) (.one 2) .val (.cons (.var 0) .nil) .nil [2]) .nil))))) .nil)
def f3 : Fn := ⟨"is_text_of", ["value", "signs"], ["value", "signs", "sign"], true, b3, [], []⟩
/-- is_plain_name -/
def b4 : Ss := (.cons (.ret (.and_ (.call 3 (.cons (.var 0) (.cons (.glob 0) .nil))) (.and_ (.cmp .LtE (.bcall .len (.cons (.var 0) .nil)) (.glob 1)) (.cmp .NotIn (.var 0) (.glob 2))))) .nil)
def f4 : Fn := ⟨"is_plain_name", ["value"], ["value"], true, b4, [], []⟩
/-- wrap -/
def b5 : Ss := (.cons (.ret (.bin .Add (.bin .Mod (.bin .Sub (.var 0) (.glob 3)) (.glob 4)) (.glob 3))) .nil)
def f5 : Fn := ⟨"wrap", ["number"], ["number"], true, b5, [], []⟩
/-- numbered -/
def b6 : Ss := (.cons (.ifs (.cmp .Eq (.var 0) (.con (.str "add"))) (.cons (.ret (.bin .Add (.var 1) (.var 2))) .nil) .nil) (.cons (.ifs (.cmp .Eq (.var 0) (.con (.str "sub"))) (.cons (.ret (.bin .Sub (.var 1) (.var 2))) .nil) .nil) (.cons (.ifs (.cmp .Eq (.var 0) (.con (.str "mul"))) (.cons (.ret (.bin .Mult (.var 1) (.var 2))) .nil) .nil) (.cons (.ret (.ite (.cmp .Eq (.var 0) (.con (.str "div"))) (.bin .FloorDiv (.var 1) (.var 2)) (.bin .Mod (.var 1) (.var 2)))) .nil))))
def f6 : Fn := ⟨"numbered", ["op", "one", "two"], ["op", "one", "two"], true, b6, [], []⟩
/-- truth_of -/
def b7 : Ss := (.cons (.ifs (.cmp .Eq (.var 0) (.con (.str "less"))) (.cons (.ret (.cmp .Lt (.var 1) (.var 2))) .nil) .nil) (.cons (.ifs (.cmp .Eq (.var 0) (.con (.str "same"))) (.cons (.ret (.cmp .Eq (.var 1) (.var 2))) .nil) .nil) (.cons (.ret (.ite (.cmp .Eq (.var 0) (.con (.str "and"))) (.and_ (.cmp .NotEq (.var 1) (.con (.int 0))) (.cmp .NotEq (.var 2) (.con (.int 0)))) (.or_ (.cmp .NotEq (.var 1) (.con (.int 0))) (.cmp .NotEq (.var 2) (.con (.int 0)))))) .nil)))
def f7 : Fn := ⟨"truth_of", ["op", "one", "two"], ["op", "one", "two"], true, b7, [], []⟩
/-- reckon -/
def b8 : Ss := (.cons (.ifs (.cmp .In (.var 0) (.tup (.cons (.con (.str "less")) (.cons (.con (.str "same")) (.cons (.con (.str "and")) (.cons (.con (.str "or")) .nil)))))) (.cons (.ret (.bcall .int (.cons (.call 7 (.cons (.var 0) (.cons (.var 1) (.cons (.var 2) .nil)))) .nil))) .nil) .nil) (.cons (.ret (.ite (.or_ (.cmp .NotEq (.var 2) (.con (.int 0))) (.cmp .NotIn (.var 0) (.glob 5))) (.call 5 (.cons (.call 6 (.cons (.var 0) (.cons (.var 1) (.cons (.var 2) .nil)))) .nil)) (.con .none))) .nil))
def f8 : Fn := ⟨"reckon", ["op", "one", "two"], ["op", "one", "two"], true, b8, [], []⟩
/-- head_of -/
def b9 : Ss := (.cons (.ret (.ite (.and_ (.isty .tuple (.var 0)) (.and_ (.cmp .Gt (.bcall .len (.cons (.var 0) .nil)) (.con (.int 0))) (.isty .str (.ix (.var 0) (.con (.int 0)))))) (.lst false (.cons (.ix (.var 0) (.con (.int 0))) .nil)) (.lst false .nil))) .nil)
def f9 : Fn := ⟨"head_of", ["value"], ["value"], true, b9, [], []⟩
/-- parts_in -/
def b10 : Ss := (.cons (.asg (.name 1) (.ix (.var 0) (.con (.int 0)))) (.cons (.ifs (.cmp .Eq (.var 1) (.con (.str "cell"))) (.cons (.ret (.lst false (.cons (.ix (.var 0) (.con (.int 2))) .nil))) .nil) .nil) (.cons (.ifs (.cmp .In (.var 1) (.glob 6)) (.cons (.ret (.lst false (.cons (.ix (.var 0) (.con (.int 1))) .nil))) .nil) .nil) (.cons (.ret (.ite (.cmp .In (.var 1) (.glob 7)) (.lst false (.cons (.ix (.var 0) (.con (.int 1))) (.cons (.ix (.var 0) (.con (.int 2))) .nil))) (.lst false .nil))) .nil))))
def f10 : Fn := ⟨"parts_in", ["expression"], ["expression", "head"], true, b10, [], []⟩
/-- has_own_form -/
def b11 : Ss := (.cons (.for_ (.one 1) .val (.cons (.call 9 (.cons (.var 0) .nil)) .nil) (.cons (.ifs (.cmp .Eq (.var 1) (.con (.str "number"))) (.cons (.ret (.and_ (.call 2 (.cons (.var 0) (.cons (.con (.int 2)) .nil))) (.call 1 (.cons (.ix (.var 0) (.con (.int 1))) (.cons (.con (.int 0)) (.cons (.glob 8) .nil)))))) .nil) .nil) (.cons (.ifs (.cmp .Eq (.var 1) (.con (.str "name"))) (.cons (.ret (.and_ (.call 2 (.cons (.var 0) (.cons (.con (.int 2)) .nil))) (.call 4 (.cons (.ix (.var 0) (.con (.int 1))) .nil)))) .nil) .nil) (.cons (.ifs (.cmp .In (.var 1) (.glob 9)) (.cons (.ret (.cmp .Eq (.bcall .len (.cons (.var 0) .nil)) (.con (.int 1)))) .nil) .nil) (.cons (.ifs (.cmp .Eq (.var 1) (.con (.str "cell"))) (.cons (.ret (.and_ (.call 2 (.cons (.var 0) (.cons (.con (.int 3)) .nil))) (.call 4 (.cons (.ix (.var 0) (.con (.int 1))) .nil)))) .nil) .nil) (.cons (.ret (.or_ (.and_ (.cmp .In (.var 1) (.glob 6)) (.cmp .Eq (.bcall .len (.cons (.var 0) .nil)) (.con (.int 2)))) (.and_ (.cmp .In (.var 1) (.glob 7)) (.cmp .Eq (.bcall .len (.cons (.var 0) .nil)) (.con (.int 3)))))) .nil)))))) (.cons (.ret (.con (.bool false))) .nil))
def f11 : Fn := ⟨"has_own_form", ["value"], ["value", "head"], true, b11, [], []⟩
/-- is_expression_form -/
def b12 : Ss := (.cons (.asg (.name 1) (.lst false (.cons (.var 0) .nil))) (.cons (.for_ (.one 2) .r1 (.cons (.glob 10) .nil) (.cons (.ifs (.not_ (.bcall .all (.cons (.comp false (.call 11 (.cons (.var 3) .nil)) (.one 3) .val (.cons (.var 1) .nil) .nil [3]) .nil))) (.cons (.ret (.con (.bool false))) .nil) .nil) (.cons (.asg (.name 1) (.comp2 false (.var 4) (.one 3) .val (.cons (.var 1) .nil) .nil (.one 4) .val (.cons (.call 10 (.cons (.var 3) .nil)) .nil) .nil [3, 4] [4])) .nil))) (.cons (.ret (.cmp .Eq (.var 1) (.lst false .nil))) .nil)))
def f12 : Fn := ⟨"is_expression_form", ["value"], ["value", "layer", "_", "each", "part"], true, b12, [], []⟩
/-- is_number_form -/
def b13 : Ss := (.cons (.ret (.cmp .Eq (.ix (.var 0) (.con (.int 0))) (.con (.str "number")))) .nil)
def f13 : Fn := ⟨"is_number_form", ["form"], ["form"], true, b13, [], []⟩
/-- negated -/
def b14 : Ss := (.cons (.ifs (.call 13 (.cons (.var 0) .nil)) (.cons (.ret (.tup (.cons (.con (.str "number")) (.cons (.call 5 (.cons (.bin .Sub (.con (.int 0)) (.ix (.var 0) (.con (.int 1)))) .nil)) .nil)))) .nil) .nil) (.cons (.ret (.ite (.cmp .Eq (.ix (.var 0) (.con (.int 0))) (.con (.str "neg"))) (.ix (.var 0) (.con (.int 1))) (.tup (.cons (.con (.str "neg")) (.cons (.var 0) .nil))))) .nil))
def f14 : Fn := ⟨"negated", ["form"], ["form"], true, b14, [], []⟩
/-- denied -/
def b15 : Ss := (.cons (.ifs (.call 13 (.cons (.var 0) .nil)) (.cons (.ret (.tup (.cons (.con (.str "number")) (.cons (.ite (.cmp .Eq (.ix (.var 0) (.con (.int 1))) (.con (.int 0))) (.con (.int 1)) (.con (.int 0))) .nil)))) .nil) .nil) (.cons (.ret (.tup (.cons (.con (.str "not")) (.cons (.var 0) .nil)))) .nil))
def f15 : Fn := ⟨"denied", ["form"], ["form"], true, b15, [], []⟩
/-- joined -/
def b16 : Ss := (.cons (.ifs (.and_ (.call 13 (.cons (.var 1) .nil)) (.call 13 (.cons (.var 2) .nil))) (.cons (.asg (.name 3) (.call 8 (.cons (.var 0) (.cons (.ix (.var 1) (.con (.int 1))) (.cons (.ix (.var 2) (.con (.int 1))) .nil))))) (.cons (.ifs (.cmp .IsNot (.var 3) (.con .none)) (.cons (.ret (.tup (.cons (.con (.str "number")) (.cons (.var 3) .nil)))) .nil) .nil) .nil)) .nil) (.cons (.ret (.tup (.cons (.var 0) (.cons (.var 1) (.cons (.var 2) .nil))))) .nil))
def f16 : Fn := ⟨"joined", ["op", "form", "form2"], ["op", "form", "form2", "found"], true, b16, [], []⟩
/-- normal_form -/
def b17 : Ss := (.cons (.asg (.name 1) (.ix (.var 0) (.con (.int 0)))) (.cons (.ifs (.cmp .Eq (.var 1) (.con (.str "cell"))) (.cons (.ret (.tup (.cons (.var 1) (.cons (.ix (.var 0) (.con (.int 1))) (.cons (.call 17 (.cons (.ix (.var 0) (.con (.int 2))) .nil)) .nil))))) .nil) .nil) (.cons (.ifs (.cmp .Eq (.var 1) (.con (.str "neg"))) (.cons (.ret (.call 14 (.cons (.call 17 (.cons (.ix (.var 0) (.con (.int 1))) .nil)) .nil))) .nil) .nil) (.cons (.ifs (.cmp .Eq (.var 1) (.con (.str "not"))) (.cons (.ret (.call 15 (.cons (.call 17 (.cons (.ix (.var 0) (.con (.int 1))) .nil)) .nil))) .nil) .nil) (.cons (.ifs (.cmp .In (.var 1) (.glob 7)) (.cons (.ret (.call 16 (.cons (.var 1) (.cons (.call 17 (.cons (.ix (.var 0) (.con (.int 1))) .nil)) (.cons (.call 17 (.cons (.ix (.var 0) (.con (.int 2))) .nil)) .nil))))) .nil) .nil) (.cons (.ret (.var 0)) .nil))))))
def f17 : Fn := ⟨"normal_form", ["expression"], ["expression", "word"], true, b17, [], []⟩
/-- check_expression -/
def b18 : Ss := (.cons (.ifs (.not_ (.call 12 (.cons (.var 0) .nil))) (.cons .never .nil) .nil) .nil)
def f18 : Fn := ⟨"check_expression", ["value"], ["value"], true, b18, [], []⟩
/-- normal -/
def b19 : Ss := (.cons (.ex (.call 18 (.cons (.var 0) .nil))) (.cons (.ret (.call 17 (.cons (.var 0) .nil))) .nil))
def f19 : Fn := ⟨"normal", ["value"], ["value"], true, b19, [], [([0], [0])]⟩
/-- has_number -/
def b20 : Ss := (.cons (.ex (.call 18 (.cons (.var 0) .nil))) (.cons (.ret (.call 13 (.cons (.call 17 (.cons (.var 0) .nil)) .nil))) .nil))
def f20 : Fn := ⟨"has_number", ["value"], ["value"], true, b20, [], [([0], [0])]⟩
/-- is_expression -/
def b21 : Ss := (.cons (.ret (.call 12 (.cons (.var 0) .nil))) .nil)
def f21 : Fn := ⟨"is_expression", ["value"], ["value"], true, b21, [], []⟩
/-- _law_pail -/
def b22 : Ss := (.cons (.asg (.name 2) (.bin .Add (.con (.int 92003)) (.bin .Mult (.con (.int 10601)) (.var 1)))) (.cons (.for_ (.one 3) .val (.cons (.slice (.var 0) .nil (.cons (.con (.int 12)) .nil)) .nil) (.cons (.asg (.name 2) (.bin .Mod (.bcall .int (.cons (.bin .Add (.bin .Add (.bin .Mult (.var 2) (.con (.int 66013))) (.bin .Mult (.bin .Mod (.bcall .int (.cons (.var 3) .nil)) (.con (.int 2147483489))) (.con (.int 13)))) (.con (.int 7))) .nil)) (.con (.int 2147483489)))) .nil)) (.cons (.asg (.name 4) (.ite (.cmp .Lt (.var 1) (.bcall .len (.cons (.var 0) .nil))) (.bcall .int (.cons (.ix (.var 0) (.var 1)) .nil)) (.con (.int 0)))) (.cons (.asg (.name 2) (.bin .Mod (.bcall .int (.cons (.bin .Add (.bin .Add (.bin .Mult (.var 2) (.con (.int 89))) (.bin .Mult (.bin .Mod (.var 4) (.con (.int 2147483489))) (.con (.int 76003)))) (.con (.int 11))) .nil)) (.con (.int 2147483489)))) (.cons (.ret (.lst true (.cons (.ite (.or_ (.cmp .Lt (.var 4) (.con (.int 0))) (.cmp .GtE (.var 4) (.bin .Pow (.con (.int 10)) (.con (.int 15))))) (.bcall .abs (.cons (.var 4) .nil)) (.con (.int 0))) (.cons (.var 2) (.cons (.con (.int 0)) .nil))))) .nil)))))
def f22 : Fn := ⟨"_law_pail", ["script", "turn"], ["script", "turn", "mixed", "cell", "own"], false, b22, [], []⟩
/-- _law_deal -/
def b23 : Ss := (.cons (.ifs (.cmp .Gt (.ix (.var 0) (.con (.int 0))) (.con (.int 0))) (.cons (.tup [(.sub (.var 0) (.con (.int 0))), (.name 2)] (.bcall .divmod (.cons (.ix (.var 0) (.con (.int 0))) (.cons (.var 1) .nil)))) (.cons (.ret (.var 2)) .nil)) .nil) (.cons (.asg (.sub (.var 0) (.con (.int 2))) (.bin .Add (.ix (.var 0) (.con (.int 2))) (.con (.int 1)))) (.cons (.asg (.name 3) (.bin .Mod (.bcall .int (.cons (.bin .Add (.bin .Mult (.ix (.var 0) (.con (.int 1))) (.con (.int 15511))) (.bin .Mult (.con (.int 11903)) (.ix (.var 0) (.con (.int 2))))) .nil)) (.con (.int 2147483489)))) (.cons (.asg (.sub (.var 0) (.con (.int 1))) (.bin .Mod (.bcall .int (.cons (.bin .Add (.bin .Mult (.var 3) (.bin .Add (.bin .Mod (.bcall .int (.cons (.var 3) .nil)) (.con (.int 5119))) (.con (.int 30011)))) (.bin .Mult (.con (.int 31)) (.ix (.var 0) (.con (.int 2))))) .nil)) (.con (.int 2147483489)))) (.cons (.ret (.bin .Mod (.bcall .int (.cons (.bin .FloorDiv (.ix (.var 0) (.con (.int 1))) (.con (.int 349))) .nil)) (.var 1))) .nil)))))
def f23 : Fn := ⟨"_law_deal", ["pail", "top"], ["pail", "top", "figure", "mixed"], false, b23, [], []⟩
/-- _law_any -/
def b24 : Ss := (.cons (.ret (.ix (.var 1) (.call 23 (.cons (.var 0) (.cons (.bcall .len (.cons (.var 1) .nil)) .nil))))) .nil)
def f24 : Fn := ⟨"_law_any", ["pail", "some"], ["pail", "some"], false, b24, [], []⟩
/-- _law_wrapped -/
def b25 : Ss := (.cons (.ret (.bin .Sub (.bin .Mod (.bin .Add (.var 0) (.con (.int 32768))) (.con (.int 65536))) (.con (.int 32768)))) .nil)
def f25 : Fn := ⟨"_law_wrapped", ["number"], ["number"], true, b25, [], []⟩
/-- _law_op -/
def b26 : Ss := (.cons (.ifs (.cmp .In (.var 0) (.tup (.cons (.con (.str "div")) (.cons (.con (.str "rem")) .nil)))) (.cons (.ret (.ite (.cmp .Eq (.var 2) (.con (.int 0))) (.con .none) (.call 25 (.cons (.ite (.cmp .Eq (.var 0) (.con (.str "div"))) (.bin .FloorDiv (.var 1) (.var 2)) (.bin .Mod (.var 1) (.var 2))) .nil)))) .nil) .nil) (.cons (.ifs (.cmp .In (.var 0) (.tup (.cons (.con (.str "less")) (.cons (.con (.str "same")) .nil)))) (.cons (.ret (.ite (.ite (.cmp .Eq (.var 0) (.con (.str "less"))) (.cmp .Lt (.var 1) (.var 2)) (.cmp .Eq (.var 1) (.var 2))) (.con (.int 1)) (.con (.int 0)))) .nil) .nil) (.cons (.ifs (.cmp .In (.var 0) (.tup (.cons (.con (.str "and")) (.cons (.con (.str "or")) .nil)))) (.cons (.ret (.ite (.ite (.cmp .Eq (.var 0) (.con (.str "and"))) (.and_ (.cmp .NotEq (.var 1) (.con (.int 0))) (.cmp .NotEq (.var 2) (.con (.int 0)))) (.or_ (.cmp .NotEq (.var 1) (.con (.int 0))) (.cmp .NotEq (.var 2) (.con (.int 0))))) (.con (.int 1)) (.con (.int 0)))) .nil) .nil) (.cons (.ret (.call 25 (.cons (.ite (.cmp .Eq (.var 0) (.con (.str "add"))) (.bin .Add (.var 1) (.var 2)) (.ite (.cmp .Eq (.var 0) (.con (.str "sub"))) (.bin .Sub (.var 1) (.var 2)) (.bin .Mult (.var 1) (.var 2)))) .nil))) .nil))))
def f26 : Fn := ⟨"_law_op", ["op", "one", "two"], ["op", "one", "two"], true, b26, [], []⟩
/-- _law_expression -/
def b27 : Ss := (.cons (.asg (.name 2) (.ite (.cmp .Gt (.var 1) (.con (.int 0))) (.call 23 (.cons (.var 0) (.cons (.con (.int 9)) .nil))) (.call 23 (.cons (.var 0) (.cons (.con (.int 4)) .nil))))) (.cons (.ifs (.cmp .Lt (.var 2) (.con (.int 2))) (.cons (.ret (.tup (.cons (.con (.str "number")) (.cons (.call 24 (.cons (.var 0) (.cons (.lst false (.cons (.con (.int 0)) (.cons (.con (.int 1)) (.cons (.con (.int 2)) (.cons (.con (.int 3)) (.cons (.con (.int 300)) (.cons (.con (.int 32767)) .nil))))))) .nil))) .nil)))) .nil) .nil) (.cons (.ifs (.cmp .Lt (.var 2) (.con (.int 4))) (.cons (.ret (.call 24 (.cons (.var 0) (.cons (.lst false (.cons (.tup (.cons (.con (.str "name")) (.cons (.con (.str "x")) .nil))) (.cons (.tup (.cons (.con (.str "name")) (.cons (.con (.str "y")) .nil))) (.cons (.tup (.cons (.con (.str "me")) .nil)) (.cons (.tup (.cons (.con (.str "all")) .nil)) .nil))))) .nil)))) .nil) .nil) (.cons (.ifs (.cmp .Eq (.var 2) (.con (.int 4))) (.cons (.ret (.tup (.cons (.con (.str "cell")) (.cons (.con (.str "a")) (.cons (.call 27 (.cons (.var 0) (.cons (.bin .Sub (.var 1) (.con (.int 1))) .nil))) .nil))))) .nil) .nil) (.cons (.ifs (.cmp .Eq (.var 2) (.con (.int 5))) (.cons (.ret (.tup (.cons (.call 24 (.cons (.var 0) (.cons (.lst false (.cons (.con (.str "neg")) (.cons (.con (.str "not")) .nil))) .nil))) (.cons (.call 27 (.cons (.var 0) (.cons (.bin .Sub (.var 1) (.con (.int 1))) .nil))) .nil)))) .nil) .nil) (.cons (.asg (.name 3) (.call 24 (.cons (.var 0) (.cons (.lst false (.cons (.con (.str "add")) (.cons (.con (.str "sub")) (.cons (.con (.str "mul")) (.cons (.con (.str "div")) (.cons (.con (.str "rem")) (.cons (.con (.str "less")) (.cons (.con (.str "same")) (.cons (.con (.str "and")) (.cons (.con (.str "or")) .nil)))))))))) .nil)))) (.cons (.ret (.tup (.cons (.var 3) (.cons (.call 27 (.cons (.var 0) (.cons (.bin .Sub (.var 1) (.con (.int 1))) .nil))) (.cons (.call 27 (.cons (.var 0) (.cons (.bin .Sub (.var 1) (.con (.int 1))) .nil))) .nil))))) .nil)))))))
def f27 : Fn := ⟨"_law_expression", ["pail", "depth"], ["pail", "depth", "sort", "op"], false, b27, [], []⟩
/-- _law_normal -/
def b28 : Ss := (.cons (.ifs (.cmp .In (.ix (.var 0) (.con (.int 0))) (.tup (.cons (.con (.str "number")) (.cons (.con (.str "name")) (.cons (.con (.str "me")) (.cons (.con (.str "all")) .nil)))))) (.cons (.ret (.var 0)) .nil) .nil) (.cons (.ifs (.cmp .Eq (.ix (.var 0) (.con (.int 0))) (.con (.str "cell"))) (.cons (.ret (.tup (.cons (.ix (.var 0) (.con (.int 0))) (.cons (.ix (.var 0) (.con (.int 1))) (.cons (.call 28 (.cons (.ix (.var 0) (.con (.int 2))) .nil)) .nil))))) .nil) .nil) (.cons (.asg (.name 1) (.comp false (.call 28 (.cons (.var 4) .nil)) (.one 4) .val (.cons (.slice (.var 0) (.cons (.con (.int 1)) .nil) .nil) .nil) .nil [4])) (.cons (.ifs (.cmp .Eq (.comp false (.var 4) (.one 4) .val (.cons (.var 1) .nil) (.cons (.cmp .NotEq (.ix (.var 4) (.con (.int 0))) (.con (.str "number"))) .nil) [4]) (.lst false .nil)) (.cons (.asg (.name 2) (.comp false (.ix (.var 4) (.con (.int 1))) (.one 4) .val (.cons (.var 1) .nil) .nil [4])) (.cons (.ifs (.cmp .In (.ix (.var 0) (.con (.int 0))) (.tup (.cons (.con (.str "neg")) (.cons (.con (.str "not")) .nil)))) (.cons (.ret (.tup (.cons (.con (.str "number")) (.cons (.ite (.cmp .Eq (.ix (.var 0) (.con (.int 0))) (.con (.str "neg"))) (.call 25 (.cons (.bin .Sub (.con (.int 0)) (.ix (.var 2) (.con (.int 0)))) .nil)) (.ite (.cmp .Eq (.ix (.var 2) (.con (.int 0))) (.con (.int 0))) (.con (.int 1)) (.con (.int 0)))) .nil)))) .nil) .nil) (.cons (.asg (.name 3) (.call 26 (.cons (.ix (.var 0) (.con (.int 0))) (.cons (.ix (.var 2) (.con (.int 0))) (.cons (.ix (.var 2) (.con (.int 1))) .nil))))) (.cons (.ret (.ite (.cmp .IsNot (.var 3) (.con .none)) (.tup (.cons (.con (.str "number")) (.cons (.var 3) .nil))) (.bin .Add (.tup (.cons (.ix (.var 0) (.con (.int 0))) .nil)) (.bcall .tuple (.cons (.var 1) .nil))))) .nil)))) .nil) (.cons (.ifs (.and_ (.cmp .Eq (.ix (.var 0) (.con (.int 0))) (.con (.str "neg"))) (.cmp .Eq (.ix (.ix (.var 1) (.con (.int 0))) (.con (.int 0))) (.con (.str "neg")))) (.cons (.ret (.ix (.ix (.var 1) (.con (.int 0))) (.con (.int 1)))) .nil) .nil) (.cons (.ret (.bin .Add (.tup (.cons (.ix (.var 0) (.con (.int 0))) .nil)) (.bcall .tuple (.cons (.var 1) .nil)))) .nil))))))
def f28 : Fn := ⟨"_law_normal", ["simple"], ["simple", "parts", "words", "found", "own"], true, b28, [], []⟩
/-- _law_right -/
def b29 : Ss := (.cons (.for_ (.one 1) .r1 (.cons (.con (.int 40)) .nil) (.cons (.asg (.name 2) (.call 27 (.cons (.var 0) (.cons (.bin .Add (.con (.int 1)) (.call 23 (.cons (.var 0) (.cons (.con (.int 4)) .nil)))) .nil)))) (.cons (.asg (.name 3) (.call 28 (.cons (.var 2) .nil))) (.cons (.asg (.name 4) (.lst false (.cons (.call 19 (.cons (.var 2) .nil)) (.cons (.callK 19 [0] [0] (.cons (.var 2) .nil)) (.cons (.call 20 (.cons (.var 2) .nil)) (.cons (.callK 20 [0] [0] (.cons (.var 2) .nil)) .nil)))))) (.cons (.ifs (.or_ (.cmp .NotEq (.bcall .repr (.cons (.var 4) .nil)) (.bcall .repr (.cons (.bin .Add (.lst false (.cons (.var 3) (.cons (.var 3) .nil))) (.rep (.cons (.cmp .Eq (.ix (.var 3) (.con (.int 0))) (.con (.str "number"))) .nil) 2)) .nil))) (.cmp .IsNot (.call 21 (.cons (.var 2) .nil)) (.con (.bool true)))) (.cons (.ret (.con (.bool false))) .nil) .nil) (.cons (.ifs (.and_ (.cmp .NotEq (.ix (.var 3) (.con (.int 0))) (.con (.str "number"))) (.cmp .NotEq (.comp false (.var 5) (.one 5) .val (.cons (.tup (.cons (.var 3) (.cons (.call 28 (.cons (.var 3) .nil)) .nil))) .nil) (.cons (.cmp .NotEq (.var 5) (.var 3)) .nil) [5]) (.lst false .nil))) (.cons (.ret (.con (.bool false))) .nil) .nil) .nil)))))) (.cons (.ret (.con (.bool true))) .nil))
def f29 : Fn := ⟨"_law_right", ["pail"], ["pail", "lap", "simple", "due", "told", "own"], false, b29, [], []⟩
/-- law -/
def b30 : Ss := (.cons (.ret (.bcall .all (.cons (.comp false (.call 29 (.cons (.call 22 (.cons (.var 0) (.cons (.var 1) .nil))) .nil)) (.one 1) .r1 (.cons (.bcall .max2 (.cons (.con (.int 2)) (.cons (.bcall .min2 (.cons (.bcall .len (.cons (.var 0) .nil)) (.cons (.con (.int 3)) .nil))) .nil))) .nil) .nil [1]) .nil))) .nil)
def f30 : Fn := ⟨"law", ["script"], ["script", "turn"], false, b30, [], []⟩
def G : Gm where
  fns := [f0, f1, f2, f3, f4, f5, f6, f7, f8, f9, f10, f11, f12, f13, f14, f15, f16, f17, f18, f19, f20, f21, f22, f23, f24, f25, f26, f27, f28, f29, f30]
  consts := [("LETTERS", .str "abcdefghijklmnopqrstuvwxyz"), ("MOST_LETTERS", .int 8), ("RESERVED", .tuple [.str "all", .str "and", .str "crowd", .str "deed", .str "do", .str "else", .str "fence", .str "give", .str "if", .str "let", .str "me", .str "most", .str "next", .str "not", .str "or", .str "out", .str "say", .str "share", .str "stop", .str "while"]), ("LEAST_WORD", .int (-32768)), ("ROUND", .int 65536), ("DIVISIONS", .tuple [.str "div", .str "rem"]), ("SINGLE", .tuple [.str "neg", .str "not"]), ("OPS", .tuple [.str "add", .str "sub", .str "mul", .str "div", .str "rem", .str "less", .str "same", .str "and", .str "or"]), ("MOST_WORD", .int 32767), ("PLAIN", .tuple [.str "me", .str "all"]), ("MOST_DEEP", .int 5)]
  bts := ["isinstance", "int", "bool", "tuple", "len", "str", "all", "range", "abs", "divmod", "repr", "max", "min"]
  excs := []
def top (i : Nat) : Stmt := PySem.Challenge.pw_stepcrowds_k75_whole_normal_forms.main.body.getD i (.Pass ⟨0, 0, 0, 0⟩)
abbrev t0 : Stmt := top 9
theorem s0 : FnScope f0.N f0.ps (defScope t0) := ⟨rfl, rfl, rfl, by decide +kernel, rfl, by decide +kernel, by decide +kernel⟩
theorem k0 : chkSs G ⟨f0.N, defScope t0, fun x => locB (defScope t0) x⟩ f0.body (defBody t0) = true := by decide +kernel
abbrev t1 : Stmt := top 10
theorem s1 : FnScope f1.N f1.ps (defScope t1) := ⟨rfl, rfl, rfl, by decide +kernel, rfl, by decide +kernel, by decide +kernel⟩
theorem k1 : chkSs G ⟨f1.N, defScope t1, fun x => locB (defScope t1) x⟩ f1.body (defBody t1) = true := by decide +kernel
abbrev t2 : Stmt := top 11
theorem s2 : FnScope f2.N f2.ps (defScope t2) := ⟨rfl, rfl, rfl, by decide +kernel, rfl, by decide +kernel, by decide +kernel⟩
theorem k2 : chkSs G ⟨f2.N, defScope t2, fun x => locB (defScope t2) x⟩ f2.body (defBody t2) = true := by decide +kernel
abbrev t3 : Stmt := top 12
theorem s3 : FnScope f3.N f3.ps (defScope t3) := ⟨rfl, rfl, rfl, by decide +kernel, rfl, by decide +kernel, by decide +kernel⟩
theorem k3 : chkSs G ⟨f3.N, defScope t3, fun x => locB (defScope t3) x⟩ f3.body (defBody t3) = true := by decide +kernel
abbrev t4 : Stmt := top 13
theorem s4 : FnScope f4.N f4.ps (defScope t4) := ⟨rfl, rfl, rfl, by decide +kernel, rfl, by decide +kernel, by decide +kernel⟩
theorem k4 : chkSs G ⟨f4.N, defScope t4, fun x => locB (defScope t4) x⟩ f4.body (defBody t4) = true := by decide +kernel
abbrev t5 : Stmt := top 18
theorem s5 : FnScope f5.N f5.ps (defScope t5) := ⟨rfl, rfl, rfl, by decide +kernel, rfl, by decide +kernel, by decide +kernel⟩
theorem k5 : chkSs G ⟨f5.N, defScope t5, fun x => locB (defScope t5) x⟩ f5.body (defBody t5) = true := by decide +kernel
abbrev t6 : Stmt := top 19
theorem s6 : FnScope f6.N f6.ps (defScope t6) := ⟨rfl, rfl, rfl, by decide +kernel, rfl, by decide +kernel, by decide +kernel⟩
theorem k6 : chkSs G ⟨f6.N, defScope t6, fun x => locB (defScope t6) x⟩ f6.body (defBody t6) = true := by decide +kernel
abbrev t7 : Stmt := top 20
theorem s7 : FnScope f7.N f7.ps (defScope t7) := ⟨rfl, rfl, rfl, by decide +kernel, rfl, by decide +kernel, by decide +kernel⟩
theorem k7 : chkSs G ⟨f7.N, defScope t7, fun x => locB (defScope t7) x⟩ f7.body (defBody t7) = true := by decide +kernel
abbrev t8 : Stmt := top 21
theorem s8 : FnScope f8.N f8.ps (defScope t8) := ⟨rfl, rfl, rfl, by decide +kernel, rfl, by decide +kernel, by decide +kernel⟩
theorem k8 : chkSs G ⟨f8.N, defScope t8, fun x => locB (defScope t8) x⟩ f8.body (defBody t8) = true := by decide +kernel
abbrev t9 : Stmt := top 26
theorem s9 : FnScope f9.N f9.ps (defScope t9) := ⟨rfl, rfl, rfl, by decide +kernel, rfl, by decide +kernel, by decide +kernel⟩
theorem k9 : chkSs G ⟨f9.N, defScope t9, fun x => locB (defScope t9) x⟩ f9.body (defBody t9) = true := by decide +kernel
abbrev t10 : Stmt := top 27
theorem s10 : FnScope f10.N f10.ps (defScope t10) := ⟨rfl, rfl, rfl, by decide +kernel, rfl, by decide +kernel, by decide +kernel⟩
theorem k10 : chkSs G ⟨f10.N, defScope t10, fun x => locB (defScope t10) x⟩ f10.body (defBody t10) = true := by decide +kernel
abbrev t11 : Stmt := top 28
theorem s11 : FnScope f11.N f11.ps (defScope t11) := ⟨rfl, rfl, rfl, by decide +kernel, rfl, by decide +kernel, by decide +kernel⟩
theorem k11 : chkSs G ⟨f11.N, defScope t11, fun x => locB (defScope t11) x⟩ f11.body (defBody t11) = true := by decide +kernel
abbrev t12 : Stmt := top 29
theorem s12 : FnScope f12.N f12.ps (defScope t12) := ⟨rfl, rfl, rfl, by decide +kernel, rfl, by decide +kernel, by decide +kernel⟩
theorem k12 : chkSs G ⟨f12.N, defScope t12, fun x => locB (defScope t12) x⟩ f12.body (defBody t12) = true := by decide +kernel
abbrev t13 : Stmt := top 31
theorem s13 : FnScope f13.N f13.ps (defScope t13) := ⟨rfl, rfl, rfl, by decide +kernel, rfl, by decide +kernel, by decide +kernel⟩
theorem k13 : chkSs G ⟨f13.N, defScope t13, fun x => locB (defScope t13) x⟩ f13.body (defBody t13) = true := by decide +kernel
abbrev t14 : Stmt := top 32
theorem s14 : FnScope f14.N f14.ps (defScope t14) := ⟨rfl, rfl, rfl, by decide +kernel, rfl, by decide +kernel, by decide +kernel⟩
theorem k14 : chkSs G ⟨f14.N, defScope t14, fun x => locB (defScope t14) x⟩ f14.body (defBody t14) = true := by decide +kernel
abbrev t15 : Stmt := top 33
theorem s15 : FnScope f15.N f15.ps (defScope t15) := ⟨rfl, rfl, rfl, by decide +kernel, rfl, by decide +kernel, by decide +kernel⟩
theorem k15 : chkSs G ⟨f15.N, defScope t15, fun x => locB (defScope t15) x⟩ f15.body (defBody t15) = true := by decide +kernel
abbrev t16 : Stmt := top 34
theorem s16 : FnScope f16.N f16.ps (defScope t16) := ⟨rfl, rfl, rfl, by decide +kernel, rfl, by decide +kernel, by decide +kernel⟩
theorem k16 : chkSs G ⟨f16.N, defScope t16, fun x => locB (defScope t16) x⟩ f16.body (defBody t16) = true := by decide +kernel
abbrev t17 : Stmt := top 35
theorem s17 : FnScope f17.N f17.ps (defScope t17) := ⟨rfl, rfl, rfl, by decide +kernel, rfl, by decide +kernel, by decide +kernel⟩
theorem k17 : chkSs G ⟨f17.N, defScope t17, fun x => locB (defScope t17) x⟩ f17.body (defBody t17) = true := by decide +kernel
abbrev t18 : Stmt := top 37
theorem s18 : FnScope f18.N f18.ps (defScope t18) := ⟨rfl, rfl, rfl, by decide +kernel, rfl, by decide +kernel, by decide +kernel⟩
theorem k18 : chkSs G ⟨f18.N, defScope t18, fun x => locB (defScope t18) x⟩ f18.body (defBody t18) = true := by decide +kernel
abbrev t19 : Stmt := top 38
theorem s19 : FnScope f19.N f19.ps (defScope t19) := ⟨rfl, rfl, rfl, by decide +kernel, rfl, by decide +kernel, by decide +kernel⟩
theorem k19 : chkSs G ⟨f19.N, defScope t19, fun x => locB (defScope t19) x⟩ f19.body (defBody t19) = true := by decide +kernel
abbrev t20 : Stmt := top 39
theorem s20 : FnScope f20.N f20.ps (defScope t20) := ⟨rfl, rfl, rfl, by decide +kernel, rfl, by decide +kernel, by decide +kernel⟩
theorem k20 : chkSs G ⟨f20.N, defScope t20, fun x => locB (defScope t20) x⟩ f20.body (defBody t20) = true := by decide +kernel
abbrev t21 : Stmt := top 41
theorem s21 : FnScope f21.N f21.ps (defScope t21) := ⟨rfl, rfl, rfl, by decide +kernel, rfl, by decide +kernel, by decide +kernel⟩
theorem k21 : chkSs G ⟨f21.N, defScope t21, fun x => locB (defScope t21) x⟩ f21.body (defBody t21) = true := by decide +kernel
abbrev t22 : Stmt := top 43
theorem s22 : FnScope f22.N f22.ps (defScope t22) := ⟨rfl, rfl, rfl, by decide +kernel, rfl, by decide +kernel, by decide +kernel⟩
theorem k22 : chkSs G ⟨f22.N, defScope t22, fun x => locB (defScope t22) x⟩ f22.body (defBody t22) = true := by decide +kernel
abbrev t23 : Stmt := top 44
theorem s23 : FnScope f23.N f23.ps (defScope t23) := ⟨rfl, rfl, rfl, by decide +kernel, rfl, by decide +kernel, by decide +kernel⟩
theorem k23 : chkSs G ⟨f23.N, defScope t23, fun x => locB (defScope t23) x⟩ f23.body (defBody t23) = true := by decide +kernel
abbrev t24 : Stmt := top 45
theorem s24 : FnScope f24.N f24.ps (defScope t24) := ⟨rfl, rfl, rfl, by decide +kernel, rfl, by decide +kernel, by decide +kernel⟩
theorem k24 : chkSs G ⟨f24.N, defScope t24, fun x => locB (defScope t24) x⟩ f24.body (defBody t24) = true := by decide +kernel
abbrev t25 : Stmt := top 46
theorem s25 : FnScope f25.N f25.ps (defScope t25) := ⟨rfl, rfl, rfl, by decide +kernel, rfl, by decide +kernel, by decide +kernel⟩
theorem k25 : chkSs G ⟨f25.N, defScope t25, fun x => locB (defScope t25) x⟩ f25.body (defBody t25) = true := by decide +kernel
abbrev t26 : Stmt := top 47
theorem s26 : FnScope f26.N f26.ps (defScope t26) := ⟨rfl, rfl, rfl, by decide +kernel, rfl, by decide +kernel, by decide +kernel⟩
theorem k26 : chkSs G ⟨f26.N, defScope t26, fun x => locB (defScope t26) x⟩ f26.body (defBody t26) = true := by decide +kernel
abbrev t27 : Stmt := top 48
theorem s27 : FnScope f27.N f27.ps (defScope t27) := ⟨rfl, rfl, rfl, by decide +kernel, rfl, by decide +kernel, by decide +kernel⟩
theorem k27 : chkSs G ⟨f27.N, defScope t27, fun x => locB (defScope t27) x⟩ f27.body (defBody t27) = true := by decide +kernel
abbrev t28 : Stmt := top 49
theorem s28 : FnScope f28.N f28.ps (defScope t28) := ⟨rfl, rfl, rfl, by decide +kernel, rfl, by decide +kernel, by decide +kernel⟩
theorem k28 : chkSs G ⟨f28.N, defScope t28, fun x => locB (defScope t28) x⟩ f28.body (defBody t28) = true := by decide +kernel
abbrev t29 : Stmt := top 50
theorem s29 : FnScope f29.N f29.ps (defScope t29) := ⟨rfl, rfl, rfl, by decide +kernel, rfl, by decide +kernel, by decide +kernel⟩
theorem k29 : chkSs G ⟨f29.N, defScope t29, fun x => locB (defScope t29) x⟩ f29.body (defBody t29) = true := by decide +kernel
abbrev t30 : Stmt := top 51
theorem s30 : FnScope f30.N f30.ps (defScope t30) := ⟨rfl, rfl, rfl, by decide +kernel, rfl, by decide +kernel, by decide +kernel⟩
theorem k30 : chkSs G ⟨f30.N, defScope t30, fun x => locB (defScope t30) x⟩ f30.body (defBody t30) = true := by decide +kernel
end K75
end

section
set_option maxRecDepth 100000
set_option autoImplicit false
namespace K75
open Ev PySem
theorem c0 : G.consts[0]? = some (("LETTERS" : Str), PyData.str "abcdefghijklmnopqrstuvwxyz") := rfl
theorem c1 : G.consts[1]? = some (("MOST_LETTERS" : Str), PyData.int 8) := rfl
theorem c2 : G.consts[2]? = some (("RESERVED" : Str), PyData.tuple [.str "all", .str "and", .str "crowd", .str "deed", .str "do", .str "else", .str "fence", .str "give", .str "if", .str "let", .str "me", .str "most", .str "next", .str "not", .str "or", .str "out", .str "say", .str "share", .str "stop", .str "while"]) := rfl
theorem c3 : G.consts[3]? = some (("LEAST_WORD" : Str), PyData.int (-32768)) := rfl
theorem c4 : G.consts[4]? = some (("ROUND" : Str), PyData.int 65536) := rfl
theorem c5 : G.consts[5]? = some (("DIVISIONS" : Str), PyData.tuple [.str "div", .str "rem"]) := rfl
theorem c6 : G.consts[6]? = some (("SINGLE" : Str), PyData.tuple [.str "neg", .str "not"]) := rfl
theorem c7 : G.consts[7]? = some (("OPS" : Str), PyData.tuple [.str "add", .str "sub", .str "mul", .str "div", .str "rem", .str "less", .str "same", .str "and", .str "or"]) := rfl
theorem c8 : G.consts[8]? = some (("MOST_WORD" : Str), PyData.int 32767) := rfl
theorem c9 : G.consts[9]? = some (("PLAIN" : Str), PyData.tuple [.str "me", .str "all"]) := rfl
theorem c10 : G.consts[10]? = some (("MOST_DEEP" : Str), PyData.int 5) := rfl
/-- the evaluator's steps -/
local macro_rules | `(tactic| trivial) => `(tactic| simp only [wps_cons, wps_nil, wp_ok, r_int, r_str, r_bool, r_none, r_var, r_bin, r_neg, r_not, r_cmp, r_chain, r_and, r_or, r_ite, r_tup, r_lst, r_alloc, r_alloc0, r_ix, r_call, r_callK, r_bcall, r_isty, r_meth0, r_meth1, r_dict, r_slice, r_rep, r_nil, r_cons, s_pass, s_ret, s_retN, s_asg, s_asgS, s_sub, s_tup, s_tgs0, s_tgs, s_tgN, s_par, s_ex, s_aug, s_if, s_for, s_brk, s_cnt,
  var_0, var_s, tst_t, tst_f, tst_d, tst_n, neg_i, not_b, bin_add, bin_sub, bin_mul, bin_fdiv, bin_mod, bin_pow, bin_str, bin_lst, bin_tup, cmp_lt, cmp_le, cmp_gt, cmp_ge, cmp_eqI, cmp_neI, cmp_eqS, cmp_neS, cmp_eqB, cmp_is, cmp_isn, cmp_isB, cmp_isnB, cmp_inT, cmp_inL, cmp_ninT, cmp_ninL, ty_d, ty_int, ty_bool, ty_str, ty_tup, unt_t, aug_0, aug_s, augr_add, augr_sub, opt_some, opt_map, opt_if, set_0, set_s, tupQ, toDs, Option.map_some, Option.map_none,
  wp_bind, part_0, part_1, sl_list, sl_tuple, sl_map, wk_list, wk_tuple, walk_r1, walk_r2, at3_0, at3_1, at3_2, ix_list, ix_tuple, bf_int, bf_intB, bf_abs, bf_lenL, bf_lenT, bf_max, bf_min, divmod_wp, bf_repr,
  str_eq, String.reduceEq, mem_str, mem_nil, flat_str, flat_int, List.all_cons, List.all_nil, Bool.and_self, Bool.or_false, decide_true, decide_false, not_true, not_false_eq_true, true_and, and_true, true_implies, false_implies, implies_true, Bool.not_true, Bool.not_false, Bool.false_or, Bool.true_or, Bool.or_true, List.length_cons, List.length_nil, sizeMax, Nat.reduceAdd, Nat.reduceLeDiff, ne_eq, pick, List.getElem?_cons_zero, List.getElem?_cons_succ,
  r_glob c0, r_glob c1, r_glob c2, r_glob c3, r_glob c4, r_glob c5, r_glob c6, r_glob c7, r_glob c8, r_glob c9, r_glob c10])
variable {W k : Nat} {st : Store} {Q : U → Store → Prop}
def wholeD : D → Bool
  | .int _ => true
  | _ => false
theorem r0 (x : D) (q : Q (.d (.bool (wholeD x))) st) : (callRaw G W (k + 1) 0 [.d x] st).wp Q := by
  refine call_by (F := f0) rfl rfl ?_
  show (exSs G W _ _ b0 [some (.d x)] st).wp _
  unfold b0
  trivial
  cases x <;> exact q
theorem p0 (x : D) : (callU G (cpK G W (k + 1)) (cmK G W (k + 1)) 0 [.d x] st).wp Q = Q (.d (.bool (wholeD x))) st := pure_eq (F := f0) rfl rfl rfl fun Q q => r0 x q
theorem r1 (x : D) (l h : Int) (q : Q (.d (.bool (match x with | .int i => decide (l ≤ i) && decide (i ≤ h) | _ => false))) st) : (callRaw G W (k + 2) 1 [.d x, .d (.int l), .d (.int h)] st).wp Q := by
  refine call_by (F := f1) rfl rfl ?_
  show (exSs G W _ _ b1 [some (.d x), some (.d (.int l)), some (.d (.int h))] st).wp _
  unfold b1
  trivial
  rw [p0]
  cases x with
  | int i =>
    simp only [wholeD]
    trivial
    simp only [isNoneD]
    trivial
    refine ⟨fun h1 => ?_, fun h1 => ?_⟩
    · simp only [decide_eq_true h1, Bool.true_and] at q; exact q
    · simp only [decide_eq_false h1, Bool.false_and] at q; exact q
  | _ => exact q
theorem p1 (x : D) (l h : Int) : (callU G (cpK G W (k + 2)) (cmK G W (k + 2)) 1 [.d x, .d (.int l), .d (.int h)] st).wp Q = Q (.d (.bool (match x with | .int i => decide (l ≤ i) && decide (i ≤ h) | _ => false))) st := pure_eq (F := f1) rfl rfl rfl fun Q q => r1 x l h q
def wrapI (n : Int) : Int := (n + 32768) % 65536 - 32768
theorem r5 (n : Int) (q : Q (.d (.int (wrapI n))) st) : (callRaw G W (k + 1) 5 [.d (.int n)] st).wp Q := by
  refine call_by (F := f5) rfl rfl ?_
  show (exSs G W _ _ b5 [some (.d (.int n))] st).wp _
  unfold b5
  trivial
  refine ⟨by decide, ?_⟩
  rw [fmod_pos (by decide)]
  have e : (n - -32768) % 65536 + -32768 = wrapI n := by unfold wrapI; omega
  rw [e]
  exact q
theorem p5 (n : Int) : (callU G (cpK G W (k + 1)) (cmK G W (k + 1)) 5 [.d (.int n)] st).wp Q = Q (.d (.int (wrapI n))) st := pure_eq (F := f5) rfl rfl rfl fun Q q => r5 n q
def isW (i : Int) : Prop := -32768 ≤ i ∧ i ≤ 32767
def numI (op : Str) (i j : Int) : Int := if op = "add" then i + j else if op = "sub" then i - j else if op = "mul" then i * j else if op = "div" then i.fdiv j else i.fmod j
def truB (op : Str) (i j : Int) : Bool := if op = "less" then decide (i < j) else if op = "same" then decide (i = j) else if op = "and" then !decide (i = 0) && !decide (j = 0) else !decide (i = 0) || !decide (j = 0)
theorem r6 (op : Str) (i j : Int) (hi : isW i) (hj : isW j) (h0 : op = "div" ∨ op = "rem" → j ≠ 0) (hop : op = "add" ∨ op = "sub" ∨ op = "mul" ∨ op = "div" ∨ op = "rem") (q : Q (.d (.int (numI op i j))) st) : (callRaw G W (k + 1) 6 [.d (.str op), .d (.int i), .d (.int j)] st).wp Q := by
  refine call_by (F := f6) rfl rfl ?_
  show (exSs G W _ _ b6 [some (.d (.str op)), some (.d (.int i)), some (.d (.int j))] st).wp _
  unfold b6
  trivial
  obtain ⟨hi1, hi2⟩ := hi
  obtain ⟨hj1, hj2⟩ := hj
  have hm : cmulOk i j = true := cmul_r (by omega) (by omega)
  unfold numI at q
  refine ⟨fun h => by rw [if_pos h] at q; exact q, fun h1 => ?_⟩
  rw [if_neg h1] at q
  refine ⟨fun h => by rw [if_pos h] at q; exact q, fun h2 => ?_⟩
  rw [if_neg h2] at q
  refine ⟨fun h => by rw [if_pos h] at q; exact ⟨hm, q⟩, fun h3 => ?_⟩
  rw [if_neg h3] at q
  have h4 : op = "div" ∨ op = "rem" := by
    rcases hop with h | h | h | h
    · exact absurd h h1
    · exact absurd h h2
    · exact absurd h h3
    · exact h
  have hz := h0 h4
  refine ⟨fun h => by rw [if_pos h] at q; exact ⟨⟨hz, by omega⟩, q⟩, fun h5 => ?_⟩
  rw [if_neg h5] at q
  exact ⟨hz, q⟩
theorem r7 (op : Str) (i j : Int) (q : Q (.d (.bool (truB op i j))) st) : (callRaw G W (k + 1) 7 [.d (.str op), .d (.int i), .d (.int j)] st).wp Q := by
  refine call_by (F := f7) rfl rfl ?_
  show (exSs G W _ _ b7 [some (.d (.str op)), some (.d (.int i)), some (.d (.int j))] st).wp _
  unfold b7
  trivial
  unfold truB at q
  refine ⟨fun h => by rw [if_pos h] at q; exact q, fun h1 => ?_⟩
  rw [if_neg h1] at q
  refine ⟨fun h => by rw [if_pos h] at q; exact q, fun h2 => ?_⟩
  rw [if_neg h2] at q
  refine ⟨fun h => ?_, fun h3 => ?_⟩
  · rw [if_pos h] at q
    refine ⟨fun z => ?_, fun z => ?_⟩
    · rw [decide_eq_true z] at q; exact q
    · rw [decide_eq_false z] at q; exact q
  · rw [if_neg h3] at q
    refine ⟨fun z => ?_, fun z => ?_⟩
    · rw [decide_eq_true z] at q; exact q
    · rw [decide_eq_false z] at q; exact q
theorem p7 (op : Str) (i j : Int) : (callU G (cpK G W (k + 1)) (cmK G W (k + 1)) 7 [.d (.str op), .d (.int i), .d (.int j)] st).wp Q = Q (.d (.bool (truB op i j))) st := pure_eq (F := f7) rfl rfl rfl fun Q q => r7 op i j q
inductive Op : Str → Prop
  | add : Op "add"
  | sub : Op "sub"
  | mul : Op "mul"
  | div : Op "div"
  | rem : Op "rem"
  | less : Op "less"
  | same : Op "same"
  | and : Op "and"
  | or : Op "or"
def recD (op : Str) (i j : Int) : D :=
  if op = "less" ∨ op = "same" ∨ op = "and" ∨ op = "or" then .int (if truB op i j then 1 else 0) else if j = 0 ∧ (op = "div" ∨ op = "rem") then .none else .int (wrapI (numI op i j))
theorem r8 (op : Str) (i j : Int) (hi : isW i) (hj : isW j) (o : Op op) (q : Q (.d (recD op i j)) st) : (callRaw G W (k + 2) 8 [.d (.str op), .d (.int i), .d (.int j)] st).wp Q := by
  refine call_by (F := f8) rfl rfl ?_
  show (exSs G W _ _ b8 [some (.d (.str op)), some (.d (.int i)), some (.d (.int j))] st).wp _
  unfold b8
  have five : ∀ {Q : U → Store → Prop}, (op = "div" ∨ op = "rem" → j ≠ 0) → (op = "add" ∨ op = "sub" ∨ op = "mul" ∨ op = "div" ∨ op = "rem") → (callU G (cpK G W (k + 1)) (cmK G W (k + 1)) 6 [.d (.str op), .d (.int i), .d (.int j)] st).wp Q = Q (.d (.int (numI op i j))) st :=
    fun h1 h2 => pure_eq (F := f6) rfl rfl rfl fun Q q => r6 op i j hi hj h1 h2 q
  unfold recD at q
  cases o <;> trivial <;> simp only [str_eq, String.reduceEq, or_false, or_true, false_or, true_or, if_true, if_false, and_true, and_false, not_true, not_false_eq_true] at q five ⊢
  case less => rw [p7]; exact q
  case same => rw [p7]; exact q
  case and => rw [p7]; exact q
  case or => rw [p7]; exact q
  case div =>
    refine ⟨fun h => by rw [if_pos h] at q; exact q, fun h => ?_⟩
    rw [five (fun _ => h) trivial, p5]
    rw [if_neg h] at q; exact q
  case rem =>
    refine ⟨fun h => by rw [if_pos h] at q; exact q, fun h => ?_⟩
    rw [five (fun _ => h) trivial, p5]
    rw [if_neg h] at q; exact q
  all_goals exact ⟨fun _ => by rw [five (fun z => z.elim) trivial, p5]; exact q, fun _ => by rw [five (fun z => z.elim) trivial, p5]; exact q⟩
theorem p8 (op : Str) (i j : Int) (hi : isW i) (hj : isW j) (o : Op op) : (callU G (cpK G W (k + 2)) (cmK G W (k + 2)) 8 [.d (.str op), .d (.int i), .d (.int j)] st).wp Q = Q (.d (recD op i j)) st := pure_eq (F := f8) rfl rfl rfl fun Q q => r8 op i j hi hj o q
theorem fm_bounds (i j : Int) (hi : isW i) (hj : isW j) (h0 : j ≠ 0) : isW (i.fmod j) := by
  obtain ⟨i1, i2⟩ := hi
  obtain ⟨j1, j2⟩ := hj
  unfold isW
  by_cases h : 0 < j
  · rw [fmod_pos h]
    have h1 := Int.emod_nonneg i h0
    have h2 := Int.emod_lt_of_pos i h
    omega
  · have e : i.fmod j = -((-i) % (-j)) := by
      rw [Int.fmod_def, (Int.neg_fdiv_neg i j).symm, fdiv_pos (by omega)]
      have e2 := Int.mul_ediv_add_emod (-i) (-j)
      rw [Int.neg_mul] at e2
      omega
    rw [e]
    have h1 := Int.emod_nonneg (-i) (b := -j) (by omega)
    have h2 := Int.emod_lt_of_pos (-i) (b := -j) (by omega)
    omega
theorem wrap_word {n : Int} (h : isW n) : wrapI n = n := by
  obtain ⟨h1, h2⟩ := h
  unfold wrapI
  omega
theorem wrap_isW (n : Int) : isW (wrapI n) := by
  unfold isW wrapI
  omega
theorem num_add (i j : Int) : numI "add" i j = i + j := by simp [numI]
theorem num_sub (i j : Int) : numI "sub" i j = i - j := by simp [numI, str_eq]
theorem num_mul (i j : Int) : numI "mul" i j = i * j := by simp [numI, str_eq]
theorem num_div (i j : Int) : numI "div" i j = i.fdiv j := by simp [numI, str_eq]
theorem num_rem (i j : Int) : numI "rem" i j = i.fmod j := by simp [numI, str_eq]
theorem tru_less (i j : Int) : truB "less" i j = decide (i < j) := by simp [truB]
theorem tru_same (i j : Int) : truB "same" i j = decide (i = j) := by simp [truB, str_eq]
theorem tru_and (i j : Int) : truB "and" i j = (!decide (i = 0) && !decide (j = 0)) := by simp [truB, str_eq]
theorem tru_or (i j : Int) : truB "or" i j = (!decide (i = 0) || !decide (j = 0)) := by simp [truB, str_eq]
end K75
end

section
set_option maxRecDepth 100000
set_option autoImplicit false
namespace K75
open Ev PySem
/-- the evaluator's steps -/
local macro_rules | `(tactic| trivial) => `(tactic| simp only [wps_cons, wps_nil, wp_ok, r_int, r_str, r_bool, r_none, r_var, r_bin, r_neg, r_not, r_cmp, r_chain, r_and, r_or, r_ite, r_tup, r_lst, r_alloc, r_alloc0, r_ix, r_call, r_callK, r_bcall, r_isty, r_meth0, r_meth1, r_dict, r_slice, r_rep, r_nil, r_cons, s_pass, s_ret, s_retN, s_asg, s_asgS, s_sub, s_tup, s_tgs0, s_tgs, s_tgN, s_par, s_ex, s_aug, s_if, s_for, s_brk, s_cnt,
  var_0, var_s, tst_t, tst_f, tst_d, tst_n, neg_i, not_b, bin_add, bin_sub, bin_mul, bin_fdiv, bin_mod, bin_pow, bin_str, bin_lst, bin_tup, cmp_lt, cmp_le, cmp_gt, cmp_ge, cmp_eqI, cmp_neI, cmp_eqS, cmp_neS, cmp_eqB, cmp_is, cmp_isn, cmp_isB, cmp_isnB, cmp_inT, cmp_inL, cmp_ninT, cmp_ninL, ty_d, ty_int, ty_bool, ty_str, ty_tup, unt_t, aug_0, aug_s, augr_add, augr_sub, opt_some, opt_map, opt_if, set_0, set_s, tupQ, toDs, Option.map_some, Option.map_none,
  wp_bind, part_0, part_1, sl_list, sl_tuple, sl_map, wk_list, wk_tuple, walk_r1, walk_r2, at1_0, at2_0, at2_1, at3_0, at3_1, at3_2, ix_list, ix_tuple, bf_int, bf_intB, bf_abs, bf_lenL, bf_lenT, bf_max, bf_min, divmod_wp, bf_repr,
  str_eq, String.reduceEq, mem_str, mem_nil, flat_str, flat_int, List.all_cons, List.all_nil, Bool.and_self, Bool.or_false, decide_true, decide_false, not_true, not_false_eq_true, true_and, and_true, true_implies, false_implies, implies_true, Bool.not_true, Bool.not_false, Bool.false_or, Bool.true_or, Bool.or_true, List.length_cons, List.length_nil, sizeMax, Nat.reduceAdd, Nat.reduceLeDiff, ne_eq, pick, List.getElem?_cons_zero, List.getElem?_cons_succ,
  r_glob c0, r_glob c1, r_glob c2, r_glob c3, r_glob c4, r_glob c5, r_glob c6, r_glob c7, r_glob c8, r_glob c9, r_glob c10])
variable {W k : Nat} {st : Store} {Q : U → Store → Prop}
/-! ### expressions -/
inductive X where
  | num (v : Int)
  | nm (s : Str)
  | me
  | all
  | cell (s : Str) (a : X)
  | neg (a : X)
  | not (a : X)
  | bin (op : Str) (a b : X)
def toD : X → D
  | .num v => .tuple [.str "number", .int v]
  | .nm s => .tuple [.str "name", .str s]
  | .me => .tuple [.str "me"]
  | .all => .tuple [.str "all"]
  | .cell s a => .tuple [.str "cell", .str s, toD a]
  | .neg a => .tuple [.str "neg", toD a]
  | .not a => .tuple [.str "not", toD a]
  | .bin op a b => .tuple [.str op, toD a, toD b]
def Good : X → Prop
  | .num v => isW v
  | .nm s => s = "x" ∨ s = "y"
  | .me => True
  | .all => True
  | .cell s a => s = "a" ∧ Good a
  | .neg a => Good a
  | .not a => Good a
  | .bin op a b => Op op ∧ Good a ∧ Good b
def height : X → Nat
  | .cell _ a => height a + 1
  | .neg a => height a + 1
  | .not a => height a + 1
  | .bin _ a b => max (height a) (height b) + 1
  | _ => 1
def isNum : X → Bool
  | .num _ => true
  | _ => false
def negX : X → X
  | .num v => .num (wrapI (0 - v))
  | .neg b => b
  | b => .neg b
def notX : X → X
  | .num v => .num (if v = 0 then 1 else 0)
  | b => .not b
def binX (op : Str) : X → X → X
  | .num v, .num w => match recD op v w with
    | .int z => .num z
    | _ => .bin op (.num v) (.num w)
  | a, b => .bin op a b
def N : X → X
  | .cell s a => .cell s (N a)
  | .neg a => negX (N a)
  | .not a => notX (N a)
  | .bin op a b => binX op (N a) (N b)
  | x => x
theorem rec_cases (op : Str) (i j : Int) : recD op i j = .none ∨ ∃ z, isW z ∧ recD op i j = .int z := by
  unfold recD
  split
  · right
    split
    · exact ⟨1, ⟨by decide, by decide⟩, rfl⟩
    · exact ⟨0, ⟨by decide, by decide⟩, rfl⟩
  · split
    · exact .inl rfl
    · exact .inr ⟨_, wrap_isW _, rfl⟩
theorem bin_none {op : Str} {v w : Int} (e : recD op v w = .none) : binX op (.num v) (.num w) = .bin op (.num v) (.num w) := by
  simp only [binX, e]
theorem bin_int {op : Str} {v w z : Int} (e : recD op v w = .int z) : binX op (.num v) (.num w) = .num z := by
  simp only [binX, e]
theorem good_neg {x : X} (h : Good x) : Good (negX x) := by
  cases x with
  | num v => exact wrap_isW _
  | neg b => exact h
  | _ => exact h
theorem good_not {x : X} (h : Good x) : Good (notX x) := by
  cases x with
  | num v =>
    show isW (if v = 0 then 1 else 0)
    split <;> exact ⟨by decide, by decide⟩
  | _ => exact h
theorem good_bin {op : Str} {x y : X} (o : Op op) (h1 : Good x) (h2 : Good y) : Good (binX op x y) := by
  cases x with
  | num v =>
    cases y with
    | num w =>
      rcases rec_cases op v w with e | ⟨z, hz, e⟩
      · rw [bin_none e]; exact ⟨o, h1, h2⟩
      · rw [bin_int e]; exact hz
    | _ => exact ⟨o, h1, h2⟩
  | _ => exact ⟨o, h1, h2⟩
theorem good_N : ∀ {x : X}, Good x → Good (N x)
  | .num _, h => h
  | .nm _, h => h
  | .me, h => h
  | .all, h => h
  | .cell _ _, h => ⟨h.1, good_N h.2⟩
  | .neg _, h => good_neg (good_N h)
  | .not _, h => good_not (good_N h)
  | .bin _ _ _, h => good_bin h.1 (good_N h.2.1) (good_N h.2.2)
/-! ### the program's own -/
theorem r13 (x : X) (g : Good x) (q : Q (.d (.bool (isNum x))) st) : (callRaw G W (k + 1) 13 [.d (toD x)] st).wp Q := by
  refine call_by (F := f13) rfl rfl ?_
  show (exSs G W _ _ b13 [some (.d (toD x))] st).wp _
  unfold b13
  cases x with
  | bin op a b =>
    obtain ⟨o, _⟩ := g
    simp only [toD]
    cases o <;> trivial <;> exact q
  | _ =>
    simp only [toD]
    trivial
    exact q
theorem p13 (x : X) (g : Good x) : (callU G (cpK G W (k + 1)) (cmK G W (k + 1)) 13 [.d (toD x)] st).wp Q = Q (.d (.bool (isNum x))) st := pure_eq (F := f13) rfl rfl rfl fun Q q => r13 x g q
theorem r14 (x : X) (g : Good x) (q : Q (.d (toD (negX x))) st) : (callRaw G W (k + 2) 14 [.d (toD x)] st).wp Q := by
  refine call_by (F := f14) rfl rfl ?_
  show (exSs G W _ _ b14 [some (.d (toD x))] st).wp _
  unfold b14
  trivial
  rw [p13 x g]
  cases x with
  | num v =>
    simp only [isNum, toD]
    trivial
    rw [p5]
    trivial
    exact q
  | bin op a b =>
    obtain ⟨o, _⟩ := g
    simp only [isNum, toD]
    cases o <;> trivial <;> exact q
  | _ =>
    simp only [isNum, toD]
    trivial
    exact q
theorem p14 (x : X) (g : Good x) : (callU G (cpK G W (k + 2)) (cmK G W (k + 2)) 14 [.d (toD x)] st).wp Q = Q (.d (toD (negX x))) st := pure_eq (F := f14) rfl rfl rfl fun Q q => r14 x g q
theorem r15 (x : X) (g : Good x) (q : Q (.d (toD (notX x))) st) : (callRaw G W (k + 2) 15 [.d (toD x)] st).wp Q := by
  refine call_by (F := f15) rfl rfl ?_
  show (exSs G W _ _ b15 [some (.d (toD x))] st).wp _
  unfold b15
  trivial
  rw [p13 x g]
  cases x with
  | num v =>
    simp only [isNum, toD]
    trivial
    unfold notX toD at q
    refine ⟨fun h => ?_, fun h => ?_⟩
    · rw [if_pos h] at q; exact q
    · rw [if_neg h] at q; exact q
  | _ =>
    simp only [isNum]
    trivial
    exact q
theorem p15 (x : X) (g : Good x) : (callU G (cpK G W (k + 2)) (cmK G W (k + 2)) 15 [.d (toD x)] st).wp Q = Q (.d (toD (notX x))) st := pure_eq (F := f15) rfl rfl rfl fun Q q => r15 x g q
theorem r16 (op : Str) (x y : X) (o : Op op) (g : Good x) (g2 : Good y) (q : Q (.d (toD (binX op x y))) st) : (callRaw G W (k + 3) 16 [.d (.str op), .d (toD x), .d (toD y)] st).wp Q := by
  refine call_by (F := f16) rfl rfl ?_
  show (exSs G W _ _ b16 [some (.d (.str op)), some (.d (toD x)), some (.d (toD y)), none] st).wp _
  unfold b16
  trivial
  rw [p13 x g, p13 y g2]
  cases x with
  | num v =>
    cases y with
    | num w =>
      simp only [isNum, toD]
      trivial
      rw [p8 op v w g g2 o]
      trivial
      rcases rec_cases op v w with e | ⟨z, hz, e⟩
      · rw [bin_none e] at q
        rw [e]
        simp only [isNoneD]
        trivial
        exact q
      · rw [bin_int e] at q
        rw [e]
        simp only [isNoneD]
        trivial
        exact q
    | _ =>
      simp only [isNum]
      trivial
      exact q
  | _ =>
    simp only [isNum]
    trivial
    exact q
theorem p16 (op : Str) (x y : X) (o : Op op) (g : Good x) (g2 : Good y) : (callU G (cpK G W (k + 3)) (cmK G W (k + 3)) 16 [.d (.str op), .d (toD x), .d (toD y)] st).wp Q = Q (.d (toD (binX op x y))) st := pure_eq (F := f16) rfl rfl rfl fun Q q => r16 op x y o g g2 q
theorem r17 : ∀ (m : Nat) (x : X), Good x → height x ≤ m → ∀ {st : Store} {Q : U → Store → Prop}, Q (.d (toD (N x))) st → (callRaw G W (k + m + 3) 17 [.d (toD x)] st).wp Q
  | 0, x, _, h => by cases x <;> simp [height] at h
  | m + 1, x, g, h => by
    intro q
    have ih : ∀ (y : X), Good y → height y ≤ m → ∀ {st : Store} {Q : U → Store → Prop}, (callU G (cpK G W (k + m + 3)) (cmK G W (k + m + 3)) 17 [.d (toD y)] st).wp Q = Q (.d (toD (N y))) st :=
      fun y gy hy => pure_eq (F := f17) rfl rfl rfl fun Q q => r17 m y gy hy q
    show (callRaw G W ((k + m + 3) + 1) 17 [.d (toD x)] _).wp _
    refine call_by (F := f17) rfl rfl ?_
    show (exSs G W _ _ b17 [some (.d (toD x)), none] _).wp _
    unfold b17
    cases x with
    | num v => simp only [toD]; trivial; exact q
    | nm s => simp only [toD]; trivial; exact q
    | me => simp only [toD]; trivial; exact q
    | all => simp only [toD]; trivial; exact q
    | cell s a =>
      simp only [toD]
      trivial
      rw [ih a g.2 (by simp only [height] at h; omega)]
      trivial
      exact q
    | neg a =>
      simp only [toD]
      trivial
      rw [ih a g (by simp only [height] at h; omega), p14 (k := k + m + 1) (N a) (good_N g)]
      exact q
    | not a =>
      simp only [toD]
      trivial
      rw [ih a g (by simp only [height] at h; omega), p15 (k := k + m + 1) (N a) (good_N g)]
      exact q
    | bin op a b =>
      obtain ⟨o, ga, gb⟩ := g
      have ha : height a ≤ m := by simp only [height] at h; omega
      have hb : height b ≤ m := by simp only [height] at h; omega
      have o' := o
      simp only [toD]
      cases o <;> trivial <;> (rw [ih a ga ha, ih b gb hb, p16 (k := k + m) _ (N a) (N b) o' (good_N ga) (good_N gb)]; exact q)
theorem p17 (m : Nat) (x : X) (g : Good x) (h : height x ≤ m) : (callU G (cpK G W (k + m + 3)) (cmK G W (k + m + 3)) 17 [.d (toD x)] st).wp Q = Q (.d (toD (N x))) st := pure_eq (F := f17) rfl rfl rfl fun Q q => r17 m x g h q
end K75
end

section
set_option maxRecDepth 100000
set_option autoImplicit false
namespace K75
open Ev PySem
/-- the evaluator's steps -/
local macro_rules | `(tactic| trivial) => `(tactic| simp only [wps_cons, wps_nil, wp_ok, r_int, r_str, r_bool, r_none, r_var, r_bin, r_neg, r_not, r_cmp, r_chain, r_and, r_or, r_ite, r_tup, r_lst, r_alloc, r_alloc0, r_ix, r_call, r_callK, r_bcall, r_isty, r_meth0, r_meth1, r_dict, r_slice, r_rep, r_nil, r_cons, s_pass, s_ret, s_retN, s_asg, s_asgS, s_sub, s_tup, s_tgs0, s_tgs, s_tgN, s_par, s_ex, s_aug, s_if, s_for, s_brk, s_cnt,
  var_0, var_s, tst_t, tst_f, tst_d, tst_n, neg_i, not_b, bin_add, bin_sub, bin_mul, bin_fdiv, bin_mod, bin_pow, bin_str, bin_lst, bin_tup, cmp_lt, cmp_le, cmp_gt, cmp_ge, cmp_eqI, cmp_neI, cmp_eqS, cmp_neS, cmp_eqB, cmp_is, cmp_isn, cmp_isB, cmp_isnB, cmp_inT, cmp_inL, cmp_ninT, cmp_ninL, ty_d, ty_int, ty_bool, ty_str, ty_tup, unt_t, aug_0, aug_s, augr_add, augr_sub, opt_some, opt_map, opt_if, set_0, set_s, tupQ, toDs, Option.map_some, Option.map_none,
  wp_bind, part_0, part_1, sl_list, sl_tuple, sl_map, wk_list, wk_tuple, walk_r1, walk_r2, at1_0, at2_0, at2_1, at3_0, at3_1, at3_2, ix_list, ix_tuple, bf_int, bf_intB, bf_abs, bf_lenL, bf_lenT, bf_max, bf_min, divmod_wp, bf_repr,
  str_eq, String.reduceEq, mem_str, mem_nil, flat_str, flat_int, List.all_cons, List.all_nil, Bool.and_self, Bool.or_false, decide_true, decide_false, not_true, not_false_eq_true, true_and, and_true, true_implies, false_implies, implies_true, Bool.not_true, Bool.not_false, Bool.false_or, Bool.true_or, Bool.or_true, List.length_cons, List.length_nil, sizeMax, Nat.reduceAdd, Nat.reduceLeDiff, ne_eq, pick, List.getElem?_cons_zero, List.getElem?_cons_succ,
  r_glob c0, r_glob c1, r_glob c2, r_glob c3, r_glob c4, r_glob c5, r_glob c6, r_glob c7, r_glob c8, r_glob c9, r_glob c10])
variable {W k : Nat} {st : Store} {Q : U → Store → Prop}
/-! ### the form -/
/-- as drawn -/
def Fresh : X → Prop
  | .num v => 0 ≤ v ∧ v ≤ 32767
  | .nm s => s = "x" ∨ s = "y"
  | .me => True
  | .all => True
  | .cell s a => s = "a" ∧ Fresh a
  | .neg a => Fresh a
  | .not a => Fresh a
  | .bin op a b => Op op ∧ Fresh a ∧ Fresh b
theorem fresh_good : ∀ {x : X}, Fresh x → Good x
  | .num _, h => ⟨by have := h.1; omega, h.2⟩
  | .nm _, h => h
  | .me, h => h
  | .all, h => h
  | .cell _ _, h => ⟨h.1, fresh_good h.2⟩
  | .neg a, h => fresh_good (x := a) h
  | .not a, h => fresh_good (x := a) h
  | .bin _ _ _, h => ⟨h.1, fresh_good h.2.1, fresh_good h.2.2⟩
def kids : X → List X
  | .cell _ a => [a]
  | .neg a => [a]
  | .not a => [a]
  | .bin _ a b => [a, b]
  | _ => []
def headS : X → Str
  | .num _ => "number"
  | .nm _ => "name"
  | .me => "me"
  | .all => "all"
  | .cell _ _ => "cell"
  | .neg _ => "neg"
  | .not _ => "not"
  | .bin op _ _ => op
theorem r10 (x : X) (g : Good x) (q : Q (.d (.list ((kids x).map toD))) st) : (callRaw G W (k + 1) 10 [.d (toD x)] st).wp Q := by
  refine call_by (F := f10) rfl rfl ?_
  show (exSs G W _ _ b10 [some (.d (toD x)), none] st).wp _
  unfold b10
  cases x with
  | bin op a b =>
    obtain ⟨o, _⟩ := g
    simp only [toD]
    cases o <;> trivial <;> exact q
  | _ =>
    simp only [toD]
    trivial
    exact q
theorem p10 (x : X) (g : Good x) : (callU G (cpK G W (k + 1)) (cmK G W (k + 1)) 10 [.d (toD x)] st).wp Q = Q (.d (.list ((kids x).map toD))) st := pure_eq (F := f10) rfl rfl rfl fun Q q => r10 x g q
theorem r9 (x : X) (q : Q (.d (.list [.str (headS x)])) st) : (callRaw G W (k + 1) 9 [.d (toD x)] st).wp Q := by
  refine call_by (F := f9) rfl rfl ?_
  show (exSs G W _ _ b9 [some (.d (toD x))] st).wp _
  unfold b9
  cases x <;> simp only [toD] <;> trivial <;> simp only [tupB, strB] <;> trivial <;> refine ⟨fun _ => ?_, fun h => ?_⟩ <;> first | (simp only [strB]; trivial; exact q) | (exfalso; revert h; decide) | exact q | trace_state
theorem p9 (x : X) : (callU G (cpK G W (k + 1)) (cmK G W (k + 1)) 9 [.d (toD x)] st).wp Q = Q (.d (.list [.str (headS x)])) st := pure_eq (F := f9) rfl rfl rfl fun Q q => r9 x q
theorem one_sign {s : String} {c : Nat} (h : Str.ofString s = ⟨#[c]⟩) : walkU .val [.d (.str (Str.ofString s))] st = some [.d (.str (Str.ofString s))] := by
  rw [h]
  rfl
theorem r3 {s : String} {c : Nat} (h : Str.ofString s = ⟨#[c]⟩) (h2 : (!(Builtin.Str.occurrences (Str.ofString "abcdefghijklmnopqrstuvwxyz") (Str.ofString s) 0 (Str.ofString "abcdefghijklmnopqrstuvwxyz").length 1).isEmpty) = true) (h3 : s ≠ "") (q : Q (.d (.bool true)) st) :
    (callRaw G W (k + 1) 3 [.d (.str (Str.ofString s)), .d (.str "abcdefghijklmnopqrstuvwxyz")] st).wp Q := by
  refine call_by (F := f3) rfl rfl ?_
  show (exSs G W _ _ b3 [some (.d (.str (Str.ofString s))), some (.d (.str "abcdefghijklmnopqrstuvwxyz")), none] st).wp _
  unfold b3
  trivial
  simp only [strB]
  trivial
  refine ⟨fun z => absurd z h3, fun _ => ?_⟩
  simp only [r_comp]
  trivial
  rw [one_sign h]
  trivial
  refine comp_pure (g := fun _ => some (.d (.bool true))) (by show 0 + 1 ≤ 16777216; omega) (fun u hu Q q => ?_) ?_
  · obtain rfl := List.mem_singleton.mp hu
    rw [turn_wp rfl]
    unfold compQ
    simp only [wipeE, setE, List.set_cons_succ, List.set_cons_zero]
    trivial
    show Q (some (.d (.bool (!(Builtin.Str.occurrences (Str.ofString "abcdefghijklmnopqrstuvwxyz") (Str.ofString s) 0 (Str.ofString "abcdefghijklmnopqrstuvwxyz").length 1).isEmpty)))) st
    rw [h2]
    exact q
  · simp only [List.filterMap_cons, List.filterMap_nil, List.nil_append]
    trivial
    rw [bf_all (bs := [true]) rfl]
    exact q
theorem len_str {s : Str} : (bfD .len [.d (.str s)] st).wp Q ↔ s.length ≤ sizeMax ∧ Q (.d (.int s.length)) st := by
  show (if s.length ≤ sizeMax then R.ok _ st else .stuck).wp Q ↔ _
  by_cases h : s.length ≤ sizeMax
  · rw [if_pos h]; exact ⟨fun q => ⟨h, q⟩, fun q => q.2⟩
  · rw [if_neg h]; exact ⟨fun q => q.elim, fun q => absurd q.1 h⟩
def Plain (s : Str) : Prop := s = "x" ∨ s = "y" ∨ s = "a"
theorem r4 (s : Str) (hs : Plain s) (q : Q (.d (.bool true)) st) : (callRaw G W (k + 2) 4 [.d (.str s)] st).wp Q := by
  have key : ∀ (t : String) (c : Nat), Str.ofString t = ⟨#[c]⟩ → (!(Builtin.Str.occurrences (Str.ofString "abcdefghijklmnopqrstuvwxyz") (Str.ofString t) 0 (Str.ofString "abcdefghijklmnopqrstuvwxyz").length 1).isEmpty) = true → t ≠ "" →
      memD (.str (Str.ofString t)) [.str "all", .str "and", .str "crowd", .str "deed", .str "do", .str "else", .str "fence", .str "give", .str "if", .str "let", .str "me", .str "most", .str "next", .str "not", .str "or", .str "out", .str "say", .str "share", .str "stop", .str "while"] = false →
      (callRaw G W (k + 2) 4 [.d (.str (Str.ofString t))] st).wp Q := by
    intro t c h1 h2 h3 h4
    refine call_by (F := f4) rfl rfl ?_
    show (exSs G W _ _ b4 [some (.d (.str (Str.ofString t)))] st).wp _
    unfold b4
    simp only [wps_cons, wps_nil, s_ret, r_and, r_call, r_cons, r_nil, r_var, var_0, r_glob c0, r_glob c1, r_glob c2, r_cmp, r_bcall, len_str]
    refine pure_wp (F := f3) rfl rfl rfl (r3 h1 h2 h3 ⟨_, rfl, ?_⟩)
    have hl : (Str.ofString t).length = 1 := by rw [h1]; rfl
    rw [tst_t, hl]
    refine ⟨by decide, ?_⟩
    simp only [cmp_le, cmp_ninT]
    rw [show decide (((1 : Nat) : Int) ≤ 8) = true from rfl, tst_t]
    refine ⟨rfl, ?_⟩
    rw [h4]
    exact q
  rcases hs with rfl | rfl | rfl
  · exact key "x" 120 (by rw [Str.ofString_eq_toList]; rfl) (by decide +kernel) (by decide) (by simp only [mem_str, mem_nil, str_eq, String.reduceEq, decide_false, Bool.or_false])
  · exact key "y" 121 (by rw [Str.ofString_eq_toList]; rfl) (by decide +kernel) (by decide) (by simp only [mem_str, mem_nil, str_eq, String.reduceEq, decide_false, Bool.or_false])
  · exact key "a" 97 (by rw [Str.ofString_eq_toList]; rfl) (by decide +kernel) (by decide) (by simp only [mem_str, mem_nil, str_eq, String.reduceEq, decide_false, Bool.or_false])
theorem p4 (s : Str) (hs : Plain s) : (callU G (cpK G W (k + 2)) (cmK G W (k + 2)) 4 [.d (.str s)] st).wp Q = Q (.d (.bool true)) st := pure_eq (F := f4) rfl rfl rfl fun Q q => r4 s hs q
theorem r2 (xs : List D) (n : Int) (q : Q (.d (.bool (decide ((xs.length : Int) = n)))) st) : (callRaw G W (k + 1) 2 [.d (.tuple xs), .d (.int n)] st).wp Q := by
  refine call_by (F := f2) rfl rfl ?_
  show (exSs G W _ _ b2 [some (.d (.tuple xs)), some (.d (.int n))] st).wp _
  unfold b2
  trivial
  simp only [tupB]
  trivial
  exact q
theorem p2 (xs : List D) (n : Int) : (callU G (cpK G W (k + 1)) (cmK G W (k + 1)) 2 [.d (.tuple xs), .d (.int n)] st).wp Q = Q (.d (.bool (decide ((xs.length : Int) = n)))) st := pure_eq (F := f2) rfl rfl rfl fun Q q => r2 xs n q
theorem r11 (x : X) (g : Fresh x) (q : Q (.d (.bool true)) st) : (callRaw G W (k + 3) 11 [.d (toD x)] st).wp Q := by
  refine call_by (F := f11) rfl rfl ?_
  show (exSs G W _ _ b11 [some (.d (toD x)), none] st).wp _
  unfold b11
  trivial
  rw [p9]
  trivial
  rw [List.map_cons, List.map_nil]
  refine for_wp_n (fun n ε st' => n = 1 ∧ st' = st ∧ ε = [some (.d (toD x)), none]) (fun u hu n ε st' hI => ?_) (fun ε st' hI => absurd hI.1 (by decide)) ⟨rfl, rfl, rfl⟩
  obtain ⟨_, rfl, rfl⟩ := hI
  obtain rfl := List.mem_singleton.mp hu
  refine ⟨_, rfl, ?_⟩
  show (exSs G W _ _ _ [some (.d (toD x)), some (.d (.str (headS x)))] _).wp _
  cases x with
  | num v =>
    simp only [toD, headS]
    trivial
    rw [p2]
    trivial
    rw [p1]
    simp only [decide_eq_true g.1, decide_eq_true g.2]
    exact ⟨fun _ => q, fun h => absurd rfl h⟩
  | nm s =>
    simp only [toD, headS]
    trivial
    rw [p2]
    trivial
    refine ⟨fun _ => ?_, fun h => absurd rfl h⟩
    rw [p4 s (g.imp id .inl)]
    exact q
  | cell s a =>
    simp only [toD, headS]
    trivial
    rw [p2]
    trivial
    refine ⟨fun _ => ?_, fun h => absurd rfl h⟩
    rw [p4 s (.inr (.inr g.1))]
    exact q
  | bin op a b =>
    obtain ⟨o, _⟩ := g
    simp only [toD, headS]
    cases o <;> trivial <;> exact q
  | me =>
    simp only [toD, headS]
    trivial
    exact q
  | all =>
    simp only [toD, headS]
    trivial
    exact q
  | neg a =>
    simp only [toD, headS]
    trivial
    exact ⟨fun _ => q, fun h => absurd rfl h⟩
  | not a =>
    simp only [toD, headS]
    trivial
    exact ⟨fun _ => q, fun h => absurd rfl h⟩
theorem p11 (x : X) (g : Fresh x) : (callU G (cpK G W (k + 3)) (cmK G W (k + 3)) 11 [.d (toD x)] st).wp Q = Q (.d (.bool true)) st := pure_eq (F := f11) rfl rfl rfl fun Q q => r11 x g q
theorem mem_toD {u : U} {xs : List X} (h : u ∈ (xs.map toD).map U.d) : ∃ x ∈ xs, u = .d (toD x) := by
  rw [List.map_map, List.mem_map] at h
  obtain ⟨x, hx, e⟩ := h
  exact ⟨x, hx, e.symm⟩
theorem rep_true : ∀ xs : List U, xs.filterMap (fun _ => some (U.d (.bool true))) = (List.replicate xs.length (PyData.bool true)).map U.d
  | [] => rfl
  | x :: xs => by
    rw [List.filterMap_cons]
    simp only
    rw [rep_true xs]
    rfl
theorem kids_len (x : X) : (kids x).length ≤ 2 := by cases x <;> simp [kids]
theorem kids_ok {x y : X} (h : y ∈ kids x) (g : Fresh x) {n : Nat} (hn : height x ≤ n + 1) : Fresh y ∧ height y ≤ n := by
  cases x with
  | bin op a b =>
    simp only [kids, List.mem_cons, List.not_mem_nil, or_false] at h
    simp only [height] at hn
    rcases h with rfl | rfl
    · exact ⟨g.2.1, by omega⟩
    · exact ⟨g.2.2, by omega⟩
  | cell s a =>
    simp only [kids, List.mem_cons, List.not_mem_nil, or_false] at h
    simp only [height] at hn
    subst h
    exact ⟨g.2, by omega⟩
  | neg a =>
    simp only [kids, List.mem_cons, List.not_mem_nil, or_false] at h
    simp only [height] at hn
    subst h
    exact ⟨g, by omega⟩
  | not a =>
    simp only [kids, List.mem_cons, List.not_mem_nil, or_false] at h
    simp only [height] at hn
    subst h
    exact ⟨g, by omega⟩
  | _ => simp [kids] at h
theorem kids_flat : ∀ (xs : List X) {g : U → List U}, (∀ x ∈ xs, g (.d (toD x)) = ((kids x).map toD).map U.d) → ((xs.map toD).map U.d).flatMap g = ((xs.flatMap kids).map toD).map U.d
  | [], _, _ => rfl
  | x :: xs, g, h => by
    rw [List.map_cons, List.map_cons, List.flatMap_cons, List.flatMap_cons, List.map_append, List.map_append, h x (List.mem_cons_self ..), kids_flat xs fun y hy => h y (List.mem_cons_of_mem _ hy)]
theorem flat_len : ∀ xs : List X, (xs.flatMap kids).length ≤ 2 * xs.length
  | [] => Nat.le_refl _
  | x :: xs => by
    rw [List.flatMap_cons, List.length_append, List.length_cons]
    have := flat_len xs
    have := kids_len x
    omega
end K75
end

section
set_option maxRecDepth 100000
set_option autoImplicit false
namespace K75
open Ev PySem
/-- the evaluator's steps -/
local macro_rules | `(tactic| trivial) => `(tactic| simp only [wps_cons, wps_nil, wp_ok, r_int, r_str, r_bool, r_none, r_var, r_bin, r_neg, r_not, r_cmp, r_chain, r_and, r_or, r_ite, r_tup, r_lst, r_alloc, r_alloc0, r_ix, r_call, r_callK, r_bcall, r_isty, r_meth0, r_meth1, r_dict, r_slice, r_rep, r_nil, r_cons, s_pass, s_ret, s_retN, s_asg, s_asgS, s_sub, s_tup, s_tgs0, s_tgs, s_tgN, s_par, s_ex, s_aug, s_if, s_for, s_brk, s_cnt,
  var_0, var_s, tst_t, tst_f, tst_d, tst_n, neg_i, not_b, bin_add, bin_sub, bin_mul, bin_fdiv, bin_mod, bin_pow, bin_str, bin_lst, bin_tup, cmp_lt, cmp_le, cmp_gt, cmp_ge, cmp_eqI, cmp_neI, cmp_eqS, cmp_neS, cmp_eqB, cmp_is, cmp_isn, cmp_isB, cmp_isnB, cmp_inT, cmp_inL, cmp_ninT, cmp_ninL, ty_d, ty_int, ty_bool, ty_str, ty_tup, unt_t, aug_0, aug_s, augr_add, augr_sub, opt_some, opt_map, opt_if, set_0, set_s, tupQ, toDs, Option.map_some, Option.map_none,
  wp_bind, part_0, part_1, sl_list, sl_tuple, sl_map, wk_list, wk_tuple, walk_r1, walk_r2, at1_0, at2_0, at2_1, at3_0, at3_1, at3_2, ix_list, ix_tuple, bf_int, bf_intB, bf_abs, bf_lenL, bf_lenT, bf_max, bf_min, divmod_wp, bf_repr,
  str_eq, String.reduceEq, mem_str, mem_nil, flat_str, flat_int, List.all_cons, List.all_nil, Bool.and_self, Bool.or_false, decide_true, decide_false, not_true, not_false_eq_true, true_and, and_true, true_implies, false_implies, implies_true, Bool.not_true, Bool.not_false, Bool.false_or, Bool.true_or, Bool.or_true, List.length_cons, List.length_nil, sizeMax, Nat.reduceAdd, Nat.reduceLeDiff, ne_eq, pick, List.getElem?_cons_zero, List.getElem?_cons_succ,
  r_glob c0, r_glob c1, r_glob c2, r_glob c3, r_glob c4, r_glob c5, r_glob c6, r_glob c7, r_glob c8, r_glob c9, r_glob c10])
variable {W k : Nat} {st : Store} {Q : U → Store → Prop}
theorem toD_tup (x : X) : ∃ l, toD x = .tuple l := by cases x <;> exact ⟨_, rfl⟩
def kidsD : D → List D
  | .tuple [_, .tuple a] => [.tuple a]
  | .tuple [_, .tuple a, .tuple b] => [.tuple a, .tuple b]
  | .tuple [_, .str _, .tuple a] => [.tuple a]
  | _ => []
theorem kidsD_toD (x : X) : kidsD (toD x) = (kids x).map toD := by
  cases x with
  | bin op a b =>
    obtain ⟨l, e⟩ := toD_tup a
    obtain ⟨l2, e2⟩ := toD_tup b
    simp only [toD, kids, List.map_cons, List.map_nil, e, e2, kidsD]
  | cell s a =>
    obtain ⟨l, e⟩ := toD_tup a
    simp only [toD, kids, List.map_cons, List.map_nil, e, kidsD]
  | neg a =>
    obtain ⟨l, e⟩ := toD_tup a
    simp only [toD, kids, List.map_cons, List.map_nil, e, kidsD]
  | not a =>
    obtain ⟨l, e⟩ := toD_tup a
    simp only [toD, kids, List.map_cons, List.map_nil, e, kidsD]
  | _ => simp only [toD, kids, List.map_nil, kidsD]
def kidsU : U → List U
  | .d d => (kidsD d).map .d
  | .m _ => []
theorem filter_some : ∀ {α β : Type} (f : α → β) (xs : List α), xs.filterMap (fun x => some (f x)) = xs.map f
  | _, _, _, [] => rfl
  | _, _, f, x :: xs => by
    rw [List.filterMap_cons]
    simp only
    rw [filter_some f xs]
    rfl
theorem r12 (x : X) (g : Fresh x) (h : height x ≤ 5) (q : Q (.d (.bool true)) st) : (callRaw G W (k + 4) 12 [.d (toD x)] st).wp Q := by
  refine call_by (F := f12) rfl rfl ?_
  show (exSs G W _ _ b12 [some (.d (toD x)), none, none, none, none] st).wp _
  unfold b12
  trivial
  refine ⟨by decide, ?_⟩
  refine for_wp_n (fun n ε st' => st' = st ∧ ∃ (xs : List X) (x2 x3 x4 : Option U), ε = [some (.d (toD x)), some (.d (.list (xs.map toD))), x2, x3, x4] ∧ (∀ y ∈ xs, Fresh y ∧ height y ≤ n) ∧ xs.length * 2 ^ n ≤ 32)
    (fun u hu n ε st' hI => ?_) (fun ε st' hI => ?_) ⟨rfl, [x], none, none, none, rfl, fun y hy => ?_, by rw [range_len]; exact Nat.le_refl 32⟩
  · obtain ⟨rfl, xs, x2, x3, x4, rfl, hx, hl⟩ := hI
    have hp : 1 ≤ 2 ^ n := Nat.one_le_two_pow
    have hl2 : xs.length * 2 * 2 ^ n ≤ 32 := by rw [Nat.mul_assoc, Nat.mul_comm 2, ← Nat.pow_succ]; exact hl
    have hl3 : xs.length * 2 ≤ 32 := Nat.le_trans (Nat.le_mul_of_pos_right _ hp) hl2
    refine ⟨_, rfl, ?_⟩
    show (exSs G W _ _ _ [some (.d (toD x)), some (.d (.list (xs.map toD))), some u, x3, x4] _).wp _
    trivial
    simp only [r_comp]
    trivial
    refine comp_pure (g := fun _ => some (.d (.bool true))) (by simp only [List.length_map, List.length_nil, sizeMax]; omega) (fun u2 hu2 Q q => ?_) ?_
    · obtain ⟨y, hy, rfl⟩ := mem_toD hu2
      rw [turn_wp rfl]
      unfold compQ
      simp only [wipeE, setE, List.set_cons_succ, List.set_cons_zero]
      trivial
      rw [p11 y (hx y hy).1]
      exact q
    · rw [rep_true, List.nil_append, toDs_map]
      trivial
      rw [bf_all (toB_true _)]
      have : (List.replicate ((xs.map toD).map U.d).length true).all id = true := by simp
      rw [this]
      trivial
      simp only [r_comp2]
      trivial
      refine compA_pure (g := kidsU) (B := 2) (by simp only [List.length_map, List.length_nil, sizeMax]; omega) (fun u2 hu2 => ?_) (fun u2 hu2 acc Q ha q => ?_) ?_
      · obtain ⟨y, hy, rfl⟩ := mem_toD hu2
        show ((kidsD (toD y)).map U.d).length ≤ 2
        rw [kidsD_toD, List.length_map, List.length_map]
        exact kids_len y
      · obtain ⟨y, hy, rfl⟩ := mem_toD hu2
        have q : Q (acc ++ (kidsD (toD y)).map U.d) st' := q
        rw [kidsD_toD] at q
        rw [turn2_wp rfl]
        trivial
        simp only [tstB]
        trivial
        simp only [wipeE, setE, List.set_cons_succ, List.set_cons_zero]
        trivial
        rw [p10 y (fresh_good (hx y hy).1)]
        trivial
        refine comp_pure (g := fun u => some u) (by have := kids_len y; simp only [List.length_map]; omega) (fun u3 hu3 Q q => ?_) ?_
        · rw [turn_wp rfl]
          unfold compQ
          simp only [wipeE, setE, List.set_cons_succ, List.set_cons_zero]
          trivial
          exact q
        · rw [filter_some (fun u => u), List.map_id']
          exact q
      · rw [kids_flat xs (g := kidsU) fun y hy => by show (kidsD (toD y)).map U.d = _; rw [kidsD_toD]]
        rw [List.nil_append, toDs_map]
        trivial
        refine ⟨xs.flatMap kids, _, _, _, rfl, fun y hy => ?_, ?_⟩
        · obtain ⟨z, hz, hy⟩ := List.mem_flatMap.mp hy
          exact kids_ok hy (hx z hz).1 (hx z hz).2
        · exact Nat.le_trans (Nat.mul_le_mul_right _ (by have := flat_len xs; omega)) hl2
  · obtain ⟨rfl, xs, x2, x3, x4, rfl, hx, hl⟩ := hI
    have : xs = [] := by
      cases xs with
      | nil => rfl
      | cons y ys =>
        have := (hx y (List.mem_cons_self ..)).2
        cases y <;> simp [height] at this
    subst this
    trivial
    rw [List.map_nil, cmp_eq]
    exact ⟨by decide, q⟩
  · obtain rfl := List.mem_singleton.mp hy
    exact ⟨g, by rw [range_len]; exact h⟩
theorem p12 (x : X) (g : Fresh x) (h : height x ≤ 5) : (callU G (cpK G W (k + 4)) (cmK G W (k + 4)) 12 [.d (toD x)] st).wp Q = Q (.d (.bool true)) st := pure_eq (F := f12) rfl rfl rfl fun Q q => r12 x g h q
end K75
end

section
set_option maxRecDepth 100000
set_option autoImplicit false
namespace K75
open Ev PySem
/-- the evaluator's steps -/
local macro_rules | `(tactic| trivial) => `(tactic| simp only [wps_cons, wps_nil, wp_ok, r_int, r_str, r_bool, r_none, r_var, r_bin, r_neg, r_not, r_cmp, r_chain, r_and, r_or, r_ite, r_tup, r_lst, r_alloc, r_alloc0, r_ix, r_call, r_callK, r_bcall, r_isty, r_meth0, r_meth1, r_dict, r_slice, r_rep, r_nil, r_cons, s_pass, s_ret, s_retN, s_asg, s_asgS, s_sub, s_tup, s_tgs0, s_tgs, s_tgN, s_par, s_ex, s_aug, s_if, s_for, s_brk, s_cnt,
  var_0, var_s, tst_t, tst_f, tst_d, tst_n, neg_i, not_b, bin_add, bin_sub, bin_mul, bin_fdiv, bin_mod, bin_pow, bin_str, bin_lst, bin_tup, cmp_lt, cmp_le, cmp_gt, cmp_ge, cmp_eqI, cmp_neI, cmp_eqS, cmp_neS, cmp_eqB, cmp_is, cmp_isn, cmp_isB, cmp_isnB, cmp_inT, cmp_inL, cmp_ninT, cmp_ninL, ty_d, ty_int, ty_bool, ty_str, ty_tup, unt_t, aug_0, aug_s, augr_add, augr_sub, opt_some, opt_map, opt_if, set_0, set_s, tupQ, toDs, Option.map_some, Option.map_none,
  wp_bind, part_0, part_1, sl_list, sl_tuple, sl_map, wk_list, wk_tuple, walk_r1, walk_r2, at1_0, at2_0, at2_1, at3_0, at3_1, at3_2, ix_list, ix_tuple, bf_int, bf_intB, bf_abs, bf_lenL, bf_lenT, bf_max, bf_min, divmod_wp, bf_repr,
  str_eq, String.reduceEq, mem_str, mem_nil, flat_str, flat_int, List.all_cons, List.all_nil, Bool.and_self, Bool.or_false, decide_true, decide_false, not_true, not_false_eq_true, true_and, and_true, true_implies, false_implies, implies_true, Bool.not_true, Bool.not_false, Bool.false_or, Bool.true_or, Bool.or_true, List.length_cons, List.length_nil, sizeMax, Nat.reduceAdd, Nat.reduceLeDiff, ne_eq, pick, List.getElem?_cons_zero, List.getElem?_cons_succ,
  r_glob c0, r_glob c1, r_glob c2, r_glob c3, r_glob c4, r_glob c5, r_glob c6, r_glob c7, r_glob c8, r_glob c9, r_glob c10])
variable {W k : Nat} {st : Store} {Q : U → Store → Prop}
theorem r18 (x : X) (g : Fresh x) (h : height x ≤ 5) (q : Q (.d .none) st) : (callRaw G W (k + 5) 18 [.d (toD x)] st).wp Q := by
  refine call_by (F := f18) rfl rfl ?_
  show (exSs G W _ _ b18 [some (.d (toD x))] st).wp _
  unfold b18
  trivial
  rw [p12 x g h]
  trivial
  exact q
theorem p18 (x : X) (g : Fresh x) (h : height x ≤ 5) : (callU G (cpK G W (k + 5)) (cmK G W (k + 5)) 18 [.d (toD x)] st).wp Q = Q (.d .none) st := pure_eq (F := f18) rfl rfl rfl fun Q q => r18 x g h q
theorem r19 (x : X) (g : Fresh x) (h : height x ≤ 5) (q : Q (.d (toD (N x))) st) : (callRaw G W (k + 9) 19 [.d (toD x)] st).wp Q := by
  refine call_by (F := f19) rfl rfl ?_
  show (exSs G W _ _ b19 [some (.d (toD x))] st).wp _
  unfold b19
  trivial
  rw [p18 (k := k + 3) x g h, p17 (k := k) 5 x (fresh_good g) h]
  exact q
theorem p19 (x : X) (g : Fresh x) (h : height x ≤ 5) : (callU G (cpK G W (k + 9)) (cmK G W (k + 9)) 19 [.d (toD x)] st).wp Q = Q (.d (toD (N x))) st := pure_eq (F := f19) rfl rfl rfl fun Q q => r19 x g h q
theorem r20 (x : X) (g : Fresh x) (h : height x ≤ 5) (q : Q (.d (.bool (isNum (N x)))) st) : (callRaw G W (k + 9) 20 [.d (toD x)] st).wp Q := by
  refine call_by (F := f20) rfl rfl ?_
  show (exSs G W _ _ b20 [some (.d (toD x))] st).wp _
  unfold b20
  trivial
  rw [p18 (k := k + 3) x g h, p17 (k := k) 5 x (fresh_good g) h, p13 (k := k + 7) _ (good_N (fresh_good g))]
  exact q
theorem p20 (x : X) (g : Fresh x) (h : height x ≤ 5) : (callU G (cpK G W (k + 9)) (cmK G W (k + 9)) 20 [.d (toD x)] st).wp Q = Q (.d (.bool (isNum (N x)))) st := pure_eq (F := f20) rfl rfl rfl fun Q q => r20 x g h q
theorem r21 (x : X) (g : Fresh x) (h : height x ≤ 5) (q : Q (.d (.bool true)) st) : (callRaw G W (k + 5) 21 [.d (toD x)] st).wp Q := by
  refine call_by (F := f21) rfl rfl ?_
  show (exSs G W _ _ b21 [some (.d (toD x))] st).wp _
  unfold b21
  trivial
  rw [p12 x g h]
  exact q
theorem p21 (x : X) (g : Fresh x) (h : height x ≤ 5) : (callU G (cpK G W (k + 5)) (cmK G W (k + 5)) 21 [.d (toD x)] st).wp Q = Q (.d (.bool true)) st := pure_eq (F := f21) rfl rfl rfl fun Q q => r21 x g h q
theorem r25 (n : Int) (q : Q (.d (.int (wrapI n))) st) : (callRaw G W (k + 1) 25 [.d (.int n)] st).wp Q := by
  refine call_by (F := f25) rfl rfl ?_
  show (exSs G W _ _ b25 [some (.d (.int n))] st).wp _
  unfold b25
  trivial
  refine ⟨by decide, ?_⟩
  rw [fmod_pos (by decide)]
  exact q
theorem p25 (n : Int) : (callU G (cpK G W (k + 1)) (cmK G W (k + 1)) 25 [.d (.int n)] st).wp Q = Q (.d (.int (wrapI n))) st := pure_eq (F := f25) rfl rfl rfl fun Q q => r25 n q
theorem r26 (op : Str) (i j : Int) (hi : isW i) (hj : isW j) (o : Op op) (q : Q (.d (recD op i j)) st) : (callRaw G W (k + 2) 26 [.d (.str op), .d (.int i), .d (.int j)] st).wp Q := by
  refine call_by (F := f26) rfl rfl ?_
  show (exSs G W _ _ b26 [some (.d (.str op)), some (.d (.int i)), some (.d (.int j))] st).wp _
  unfold b26
  unfold recD at q
  have hc : cmulOk i j = true := cmul_r (by have := hj.1; omega) (by have := hj.2; omega)
  have hb : j.natAbs < 1073741824 := by have := hj.1; have := hj.2; omega
  cases o <;> trivial <;> simp only [str_eq, String.reduceEq, or_false, or_true, false_or, true_or, if_true, if_false, and_true, and_false, not_true, not_false_eq_true] at q ⊢
  case add => rw [p25]; rw [num_add] at q; exact q
  case sub => rw [p25]; rw [num_sub] at q; exact q
  case mul => rw [p25]; rw [num_mul] at q; exact ⟨hc, q⟩
  case less =>
    rw [tru_less] at q
    refine ⟨fun h => ?_, fun h => ?_⟩
    · rw [decide_eq_true h] at q; exact q
    · rw [decide_eq_false h] at q; exact q
  case same =>
    rw [tru_same] at q
    refine ⟨fun h => ?_, fun h => ?_⟩
    · rw [decide_eq_true h] at q; exact q
    · rw [decide_eq_false h] at q; exact q
  case and =>
    rw [tru_and] at q
    exact ⟨fun h => by rw [decide_eq_true h] at q; exact q, fun h => ⟨fun h2 => by rw [decide_eq_false h, decide_eq_true h2] at q; exact q, fun h2 => by rw [decide_eq_false h, decide_eq_false h2] at q; exact q⟩⟩
  case or =>
    rw [tru_or] at q
    exact ⟨fun h => ⟨fun h2 => by rw [decide_eq_true h, decide_eq_true h2] at q; exact q, fun h2 => by rw [decide_eq_true h, decide_eq_false h2] at q; exact q⟩, fun h => by rw [decide_eq_false h] at q; exact q⟩
  case div =>
    rw [num_div] at q
    refine ⟨fun h => by rw [if_pos h] at q; exact q, fun h => ?_⟩
    rw [if_neg h] at q
    refine ⟨⟨h, hb⟩, ?_⟩
    rw [p25]; exact q
  case rem =>
    rw [num_rem] at q
    refine ⟨fun h => by rw [if_pos h] at q; exact q, fun h => ?_⟩
    rw [if_neg h] at q
    refine ⟨h, ?_⟩
    rw [p25]; exact q
theorem p26 (op : Str) (i j : Int) (hi : isW i) (hj : isW j) (o : Op op) : (callU G (cpK G W (k + 2)) (cmK G W (k + 2)) 26 [.d (.str op), .d (.int i), .d (.int j)] st).wp Q = Q (.d (recD op i j)) st := pure_eq (F := f26) rfl rfl rfl fun Q q => r26 op i j hi hj o q
theorem r22 (ns : List Int) (lap : Int) (hl : 0 ≤ lap) (q : ∀ c, Well c → Q (.m st.length) (st ++ [c])) : (callRaw G W (k + 1) 22 [.d (.list (ns.map .int)), .d (.int lap)] st).wp Q := by
  refine call_by (F := f22) rfl rfl ?_
  show (exSs G W _ _ b22 [some (.d (.list (ns.map .int))), some (.d (.int lap)), none, none, none] st).wp _
  unfold b22
  trivial
  refine ⟨cmul_l (by decide), ?_⟩
  refine for_wp (fun ε st' => st' = st ∧ ∃ (s : Int) (x y : Option U), ε = [some (.d (.list (ns.map .int))), some (.d (.int lap)), some (.d (.int s)), x, y]) (fun u hu ε st' hI => ?_) (fun ε st' hI => ?_) ⟨rfl, _, _, _, rfl⟩
  · obtain ⟨rfl, s, x, y, rfl⟩ := hI
    obtain ⟨c, rfl⟩ := mem_ints hu
    refine ⟨_, rfl, ?_⟩
    show (exSs G W _ _ _ [some (.d (.list (ns.map .int))), some (.d (.int lap)), some (.d (.int s)), some (.d (.int c)), y] _).wp _
    trivial
    exact ⟨cmul_r (by decide) (by decide), by decide, cmul_r (by decide) (by decide), by decide, _, _, _, rfl⟩
  · obtain ⟨rfl, s, x, y, rfl⟩ := hI
    trivial
    refine ⟨fun h => ?_, fun h => ?_⟩
    · obtain ⟨v, hv, e⟩ := at_in hl h
      rw [List.mem_map] at hv
      obtain ⟨v, _, rfl⟩ := hv
      rw [e]
      trivial
      refine ⟨cmul_r (by decide) (by decide), by decide, cmul_r (by decide) (by decide), by decide, fun h => ?_, fun h => ⟨by decide, fun h => ?_, fun h => ?_⟩⟩
      · exact q _ ⟨_, _, _, rfl, by split <;> omega⟩
      · exact q _ ⟨_, _, _, rfl, by split <;> omega⟩
      · exact q _ ⟨_, _, _, rfl, by omega⟩
    · refine ⟨cmul_r (by decide) (by decide), by decide, by decide, by decide, fun h => ?_, fun h => ⟨by decide, fun h => ?_, fun h => ?_⟩⟩
      · exact q _ ⟨_, _, _, rfl, by split <;> omega⟩
      · exact q _ ⟨_, _, _, rfl, by split <;> omega⟩
      · exact q _ ⟨_, _, _, rfl, by omega⟩
theorem r23 (n : Nat) (c : Cell) (hw : st[n]? = some c) (w : Well c) (lim : Int) (h1 : 0 < lim) (h2 : lim < 1073741824) (q : ∀ (r : Int) (c : Cell), 0 ≤ r → r < lim → Well c → Q (.d (.int r)) (st.set n c)) : (callRaw G W (k + 1) 23 [.m n, .d (.int lim)] st).wp Q := by
  refine call_by (F := f23) rfl rfl ?_
  show (exSs G W _ _ b23 [some (.m n), some (.d (.int lim)), none, none] st).wp _
  unfold b23
  obtain ⟨a, b, m, rfl, ha⟩ := w
  trivial
  simp only [ix_m hw, at3_0, at3_1, at3_2]
  trivial
  refine ⟨fun h => ⟨⟨h1, h2⟩, ?_⟩, fun h => ?_⟩
  · rw [List.map_cons, List.map_cons, List.map_nil]
    trivial
    rw [sub3_0 hw]
    exact q _ _ (Int.emod_nonneg _ (by omega)) (Int.emod_lt_of_pos _ h1) ⟨_, _, _, rfl, Int.ediv_nonneg ha (by omega)⟩
  · rw [sub3_2 hw]
    simp only [ix_m (get_set hw), at3_0, at3_1, at3_2]
    trivial
    simp only [ix_m (get_set hw), at3_0, at3_1, at3_2]
    trivial
    refine ⟨cmul_r (by decide) (by decide), cmul_l (by decide), by decide, by decide, ?_⟩
    refine ⟨cmul_r ?_ ?_, cmul_l (by decide), by decide, ?_⟩
    · rw [fmod_pos (by decide)]; have := Int.emod_nonneg ((b * 15511 + 11903 * (m + 1)).fmod 2147483489) (b := 5119) (by decide); omega
    · rw [fmod_pos (by decide)]; have := Int.emod_lt_of_pos ((b * 15511 + 11903 * (m + 1)).fmod 2147483489) (b := 5119) (by decide); omega
    rw [sub3_1 (get_set hw), set_set]
    simp only [ix_m (get_set hw), at3_0, at3_1, at3_2]
    trivial
    refine ⟨by decide, by omega, ?_⟩
    rw [fmod_pos h1]
    exact q _ _ (Int.emod_nonneg _ (by omega)) (Int.emod_lt_of_pos _ h1) ⟨_, _, _, rfl, ha⟩
theorem m23 {n : Nat} {c : Cell} (hw : st[n]? = some c) (w : Well c) (lim : Int) (h1 : 0 < lim) (h2 : lim < 1073741824) (q : ∀ (r : Int) (c : Cell), 0 ≤ r → r < lim → Well c → Q (.d (.int r)) (st.set n c)) : (callU G (cpK G W (k + 1)) (cmK G W (k + 1)) 23 [.m n, .d (.int lim)] st).wp Q :=
  mut_wp (F := f23) rfl rfl (r23 n c hw w lim h1 h2 fun r c a b w => ⟨List.length_set .., q r c a b w⟩)
end K75
end

section
set_option maxRecDepth 100000
set_option autoImplicit false
namespace K75
open Ev PySem
/-- the evaluator's steps -/
local macro_rules | `(tactic| trivial) => `(tactic| simp only [wps_cons, wps_nil, wp_ok, r_int, r_str, r_bool, r_none, r_var, r_bin, r_neg, r_not, r_cmp, r_chain, r_and, r_or, r_ite, r_tup, r_lst, r_alloc, r_alloc0, r_ix, r_call, r_callK, r_bcall, r_isty, r_meth0, r_meth1, r_dict, r_slice, r_rep, r_nil, r_cons, s_pass, s_ret, s_retN, s_asg, s_asgS, s_sub, s_tup, s_tgs0, s_tgs, s_tgN, s_par, s_ex, s_aug, s_if, s_for, s_brk, s_cnt,
  var_0, var_s, tst_t, tst_f, tst_d, tst_n, neg_i, not_b, bin_add, bin_sub, bin_mul, bin_fdiv, bin_mod, bin_pow, bin_str, bin_lst, bin_tup, cmp_lt, cmp_le, cmp_gt, cmp_ge, cmp_eqI, cmp_neI, cmp_eqS, cmp_neS, cmp_eqB, cmp_is, cmp_isn, cmp_isB, cmp_isnB, cmp_inT, cmp_inL, cmp_ninT, cmp_ninL, ty_d, ty_int, ty_bool, ty_str, ty_tup, unt_t, aug_0, aug_s, augr_add, augr_sub, opt_some, opt_map, opt_if, set_0, set_s, tupQ, toDs, Option.map_some, Option.map_none,
  wp_bind, part_0, part_1, sl_list, sl_tuple, sl_map, wk_list, wk_tuple, walk_r1, walk_r2, at1_0, at2_0, at2_1, at3_0, at3_1, at3_2, ix_list, ix_tuple, bf_int, bf_intB, bf_abs, bf_lenL, bf_lenT, bf_max, bf_min, divmod_wp, bf_repr,
  str_eq, String.reduceEq, mem_str, mem_nil, flat_str, flat_int, List.all_cons, List.all_nil, Bool.and_self, Bool.or_false, decide_true, decide_false, not_true, not_false_eq_true, true_and, and_true, true_implies, false_implies, implies_true, Bool.not_true, Bool.not_false, Bool.false_or, Bool.true_or, Bool.or_true, List.length_cons, List.length_nil, sizeMax, Nat.reduceAdd, Nat.reduceLeDiff, ne_eq, pick, List.getElem?_cons_zero, List.getElem?_cons_succ,
  r_glob c0, r_glob c1, r_glob c2, r_glob c3, r_glob c4, r_glob c5, r_glob c6, r_glob c7, r_glob c8, r_glob c9, r_glob c10])
variable {W k : Nat} {st : Store} {Q : U → Store → Prop}
theorem r24 {n : Nat} {c : Cell} (hw : st[n]? = some c) (w : Well c) (xs : List D) (h1 : 0 < xs.length) (h2 : xs.length < 1073741824) (q : ∀ (x : D) (c : Cell), x ∈ xs → Well c → Q (.d x) (st.set n c)) : (callRaw G W (k + 2) 24 [.m n, .d (.list xs)] st).wp Q := by
  refine call_by (F := f24) rfl rfl ?_
  show (exSs G W _ _ b24 [some (.m n), some (.d (.list xs))] st).wp _
  unfold b24
  trivial
  refine m23 hw w _ (by omega) (by omega) fun r c a b w => ?_
  obtain ⟨x, hx, e⟩ := at_in a b
  rw [ix_list, e]
  trivial
  exact q x c hx w
theorem m24 {n : Nat} {c : Cell} (hw : st[n]? = some c) (w : Well c) (xs : List D) (h1 : 0 < xs.length) (h2 : xs.length < 1073741824) (q : ∀ (x : D) (c : Cell), x ∈ xs → Well c → Q (.d x) (st.set n c)) : (callU G (cpK G W (k + 2)) (cmK G W (k + 2)) 24 [.m n, .d (.list xs)] st).wp Q :=
  mut_wp (F := f24) rfl rfl (r24 hw w xs h1 h2 fun x c a w => ⟨List.length_set .., q x c a w⟩)
theorem r27 : ∀ (d : Nat) {st : Store} {n : Nat} {c : Cell}, st[n]? = some c → Well c → ∀ {Q : U → Store → Prop}, (∀ (x : X) (c : Cell), Fresh x → height x ≤ d + 1 → Well c → Q (.d (toD x)) (st.set n c)) → (callRaw G W (k + d + 3) 27 [.m n, .d (.int (d : Int))] st).wp Q := by
  intro d
  induction d with
  | zero =>
    intro st n c hw w Q q
    refine call_by (F := f27) rfl rfl ?_
    show (exSs G W (cpK G W (k + 2)) (cmK G W (k + 2)) b27 [some (.m n), some (.d (.int 0)), none, none] st).wp _
    unfold b27
    trivial
    refine ⟨fun h => absurd h (by decide), fun _ => ?_⟩
    refine m23 (k := k + 1) hw w 4 (by decide) (by decide) fun s c s0 s4 w => ?_
    trivial
    refine ⟨fun h2 => ?_, fun h2 => ⟨fun h4 => ?_, fun h4 => absurd s4 h4⟩⟩
    · refine m24 (k := k) (get_set hw) w _ (by simp) (by simp) fun x c hx w => ?_
      try trivial
      rw [set_set]
      simp only [List.mem_cons, List.not_mem_nil, or_false] at hx
      rcases hx with rfl | rfl | rfl | rfl | rfl | rfl <;> exact q (.num _) c ⟨by decide, by decide⟩ (Nat.le_refl _) w
    · refine m24 (k := k) (get_set hw) w _ (by simp) (by simp) fun x c hx w => ?_
      try trivial
      rw [set_set]
      simp only [List.mem_cons, List.not_mem_nil, or_false] at hx
      rcases hx with rfl | rfl | rfl | rfl
      · exact q (.nm "x") c (.inl rfl) (Nat.le_refl _) w
      · exact q (.nm "y") c (.inr rfl) (Nat.le_refl _) w
      · exact q .me c ⟨⟩ (Nat.le_refl _) w
      · exact q .all c ⟨⟩ (Nat.le_refl _) w
  | succ d ih =>
    intro st n c hw w Q q
    have again : ∀ {st : Store} {c : Cell}, st[n]? = some c → Well c → ∀ {Q : U → Store → Prop}, (∀ (x : X) (c : Cell), Fresh x → height x ≤ d + 1 → Well c → Q (.d (toD x)) (st.set n c)) → (callU G (cpK G W (k + d + 3)) (cmK G W (k + d + 3)) 27 [.m n, .d (.int (((d + 1 : Nat) : Int) - 1))] st).wp Q := by
      intro st c hw w Q q
      rw [show (((d + 1 : Nat) : Int) - 1) = (d : Int) by omega]
      exact mut_wp (F := f27) rfl rfl (ih hw w fun x c a b w => ⟨List.length_set .., q x c a b w⟩)
    show (callRaw G W ((k + d + 3) + 1) 27 [.m n, .d (.int ((d + 1 : Nat) : Int))] _).wp _
    refine call_by (F := f27) rfl rfl ?_
    show (exSs G W (cpK G W (k + d + 3)) (cmK G W (k + d + 3)) b27 [some (.m n), some (.d (.int ((d + 1 : Nat) : Int))), none, none] st).wp _
    unfold b27
    trivial
    refine ⟨fun _ => ?_, fun h => absurd (by omega) h⟩
    refine m23 (k := k + d + 2) hw w 9 (by decide) (by decide) fun s c s0 s9 w => ?_
    trivial
    refine ⟨fun h2 => ?_, fun h2 => ⟨fun h4 => ?_, fun h4 => ⟨fun h5 => ?_, fun h5 => ⟨fun h6 => ?_, fun h6 => ?_⟩⟩⟩⟩
    · refine m24 (k := k + d + 1) (get_set hw) w _ (by simp) (by simp) fun x c hx w => ?_
      try trivial
      rw [set_set]
      simp only [List.mem_cons, List.not_mem_nil, or_false] at hx
      rcases hx with rfl | rfl | rfl | rfl | rfl | rfl <;> exact q (.num _) c ⟨by decide, by decide⟩ (by simp only [height]; omega) w
    · refine m24 (k := k + d + 1) (get_set hw) w _ (by simp) (by simp) fun x c hx w => ?_
      try trivial
      rw [set_set]
      simp only [List.mem_cons, List.not_mem_nil, or_false] at hx
      rcases hx with rfl | rfl | rfl | rfl
      · exact q (.nm "x") c (.inl rfl) (by simp only [height]; omega) w
      · exact q (.nm "y") c (.inr rfl) (by simp only [height]; omega) w
      · exact q .me c ⟨⟩ (by simp only [height]; omega) w
      · exact q .all c ⟨⟩ (by simp only [height]; omega) w
    · refine again (get_set hw) w fun x c g h w => ?_
      try trivial
      rw [set_set]
      exact q (.cell "a" x) c ⟨rfl, g⟩ (by simp only [height]; omega) w
    · refine m24 (k := k + d + 1) (get_set hw) w _ (by simp) (by simp) fun y c hy w => ?_
      rw [set_set]
      refine again (get_set hw) w fun x c g h w => ?_
      try trivial
      rw [set_set]
      simp only [List.mem_cons, List.not_mem_nil, or_false] at hy
      rcases hy with rfl | rfl
      · exact q (.neg x) c g (by simp only [height]; omega) w
      · exact q (.not x) c g (by simp only [height]; omega) w
    · refine m24 (k := k + d + 1) (get_set hw) w _ (by simp) (by simp) fun y c hy w => ?_
      rw [set_set]
      obtain ⟨op, o, rfl⟩ : ∃ op, Op op ∧ y = .str op := by
        simp only [List.mem_cons, List.not_mem_nil, or_false] at hy
        rcases hy with rfl | rfl | rfl | rfl | rfl | rfl | rfl | rfl | rfl
        · exact ⟨_, .add, rfl⟩
        · exact ⟨_, .sub, rfl⟩
        · exact ⟨_, .mul, rfl⟩
        · exact ⟨_, .div, rfl⟩
        · exact ⟨_, .rem, rfl⟩
        · exact ⟨_, .less, rfl⟩
        · exact ⟨_, .same, rfl⟩
        · exact ⟨_, .and, rfl⟩
        · exact ⟨_, .or, rfl⟩
      trivial
      refine again (get_set hw) w fun x c g h w => ?_
      try trivial
      rw [set_set]
      refine again (get_set hw) w fun x2 c g2 h2 w => ?_
      try trivial
      rw [set_set]
      exact q (.bin op x x2) c ⟨o, g, g2⟩ (by simp only [height]; omega) w
theorem m27 (d : Nat) {n : Nat} {c : Cell} (hw : st[n]? = some c) (w : Well c) (q : ∀ (x : X) (c : Cell), Fresh x → height x ≤ d + 1 → Well c → Q (.d (toD x)) (st.set n c)) : (callU G (cpK G W (k + d + 3)) (cmK G W (k + d + 3)) 27 [.m n, .d (.int (d : Int))] st).wp Q :=
  mut_wp (F := f27) rfl rfl (r27 d hw w fun x c a b w => ⟨List.length_set .., q x c a b w⟩)
end K75
end

section
set_option maxRecDepth 100000
set_option autoImplicit false
namespace K75
open Ev PySem
/-- the evaluator's steps -/
local macro_rules | `(tactic| trivial) => `(tactic| simp only [wps_cons, wps_nil, wp_ok, r_int, r_str, r_bool, r_none, r_var, r_bin, r_neg, r_not, r_cmp, r_chain, r_and, r_or, r_ite, r_tup, r_lst, r_alloc, r_alloc0, r_ix, r_call, r_callK, r_bcall, r_isty, r_meth0, r_meth1, r_dict, r_slice, r_rep, r_nil, r_cons, s_pass, s_ret, s_retN, s_asg, s_asgS, s_sub, s_tup, s_tgs0, s_tgs, s_tgN, s_par, s_ex, s_aug, s_if, s_for, s_brk, s_cnt,
  var_0, var_s, tst_t, tst_f, tst_d, tst_n, neg_i, not_b, bin_add, bin_sub, bin_mul, bin_fdiv, bin_mod, bin_pow, bin_str, bin_lst, bin_tup, cmp_lt, cmp_le, cmp_gt, cmp_ge, cmp_eqI, cmp_neI, cmp_eqS, cmp_neS, cmp_eqB, cmp_is, cmp_isn, cmp_isB, cmp_isnB, cmp_inT, cmp_inL, cmp_ninT, cmp_ninL, ty_d, ty_int, ty_bool, ty_str, ty_tup, unt_t, aug_0, aug_s, augr_add, augr_sub, opt_some, opt_map, opt_if, set_0, set_s, tupQ, toDs, Option.map_some, Option.map_none,
  wp_bind, part_0, part_1, sl_list, sl_tuple, sl_map, wk_list, wk_tuple, walk_r1, walk_r2, at1_0, at2_0, at2_1, at3_0, at3_1, at3_2, ix_list, ix_tuple, bf_int, bf_intB, bf_abs, bf_lenL, bf_lenT, bf_max, bf_min, divmod_wp, bf_repr,
  str_eq, String.reduceEq, mem_str, mem_nil, flat_str, flat_int, List.all_cons, List.all_nil, Bool.and_self, Bool.or_false, decide_true, decide_false, not_true, not_false_eq_true, true_and, and_true, true_implies, false_implies, implies_true, Bool.not_true, Bool.not_false, Bool.false_or, Bool.true_or, Bool.or_true, List.length_cons, List.length_nil, sizeMax, Nat.reduceAdd, Nat.reduceLeDiff, ne_eq, pick, List.getElem?_cons_zero, List.getElem?_cons_succ,
  r_glob c0, r_glob c1, r_glob c2, r_glob c3, r_glob c4, r_glob c5, r_glob c6, r_glob c7, r_glob c8, r_glob c9, r_glob c10])
variable {W k : Nat} {st : Store} {Q : U → Store → Prop}
theorem comp_on {α : Type} {F : U → Store → R (Option U)} {Q : List U → Store → Prop} {st : Store} {f : α → U} {g : α → Option U} : ∀ {xs : List α} {acc : List U}, acc.length + xs.length ≤ sizeMax → (∀ x ∈ xs, ∀ Q : Option U → Store → Prop, Q (g x) st → (F (f x) st).wp Q) → Q (acc ++ xs.filterMap g) st → (compLoop F (xs.map f) acc st).wp Q
  | [], acc, _, _, q => by
    rw [List.filterMap_nil, List.append_nil] at q
    exact q
  | x :: xs, acc, hl, step, q => by
    rw [List.length_cons] at hl
    rw [List.map_cons]
    unfold compLoop
    rw [wp_bind]
    refine step x (List.mem_cons_self ..) _ ?_
    cases hg : g x with
    | none =>
      rw [List.filterMap_cons_none hg] at q
      exact comp_on (by omega) (fun v hv => step v (List.mem_cons_of_mem _ hv)) q
    | some y =>
      simp only
      rw [if_pos (by omega)]
      rw [List.filterMap_cons_some hg] at q
      refine comp_on (by rw [List.length_append, List.length_singleton]; omega) (fun v hv => step v (List.mem_cons_of_mem _ hv)) ?_
      rw [List.append_assoc]
      exact q
theorem bf_tupL {xs : List D} : (bfD .tuple [.d (.list xs)] st).wp Q = Q (.d (.tuple xs)) st := rfl
theorem ix_head (x : X) : ixU (.d (toD x)) (.d (.int 0)) st = some (.d (.str (headS x))) := by cases x <;> rfl
theorem head_num (x : X) (g : Good x) : (headS x = "number") = (isNum x = true) := by
  cases x with
  | bin op a b =>
    obtain ⟨o, _⟩ := g
    cases o <;> simp [headS, isNum, str_eq]
  | _ => simp [headS, isNum, str_eq]
/-! ### what is normal -/
def NF : X → Prop
  | .cell _ a => NF a
  | .neg a => NF a ∧ isNum a = false ∧ ∀ b, a ≠ .neg b
  | .not a => NF a ∧ isNum a = false
  | .bin op a b => NF a ∧ NF b ∧ binX op a b = .bin op a b
  | _ => True
theorem nf_N : ∀ x : X, NF (N x)
  | .num _ => trivial
  | .nm _ => trivial
  | .me => trivial
  | .all => trivial
  | .cell _ a => nf_N a
  | .neg a => by
    have h := nf_N a
    show NF (negX (N a))
    cases e : N a with
    | num v => exact True.intro
    | neg b => rw [e] at h; exact h.1
    | _ => rw [e] at h; exact ⟨h, rfl, fun _ => by simp⟩
  | .not a => by
    have h := nf_N a
    show NF (notX (N a))
    cases e : N a with
    | num v => exact True.intro
    | _ => rw [e] at h; exact ⟨h, rfl⟩
  | .bin op a b => by
    have h := nf_N a
    have h2 := nf_N b
    show NF (binX op (N a) (N b))
    cases e : N a with
    | num v =>
      cases e2 : N b with
      | num w =>
        rcases rec_cases op v w with e3 | ⟨z, hz, e3⟩
        · rw [bin_none e3]; exact ⟨True.intro, True.intro, bin_none e3⟩
        · rw [bin_int e3]; exact True.intro
      | _ => rw [e2] at h2; exact ⟨True.intro, h2, rfl⟩
    | _ => rw [e] at h; exact ⟨h, h2, rfl⟩
theorem N_nf : ∀ x : X, NF x → N x = x
  | .num _, _ => rfl
  | .nm _, _ => rfl
  | .me, _ => rfl
  | .all, _ => rfl
  | .cell s a, h => by show X.cell s (N a) = _; rw [N_nf a h]
  | .neg a, h => by
    show negX (N a) = _
    rw [N_nf a h.1]
    obtain ⟨_, h1, h2⟩ := h
    cases a with
    | num v => cases h1
    | neg b => exact absurd rfl (h2 b)
    | _ => rfl
  | .not a, h => by
    show notX (N a) = _
    rw [N_nf a h.1]
    obtain ⟨_, h1⟩ := h
    cases a with
    | num v => cases h1
    | _ => rfl
  | .bin op a b, h => by
    show binX op (N a) (N b) = _
    rw [N_nf a h.1, N_nf b h.2.1]
    exact h.2.2
theorem height_N : ∀ x : X, height (N x) ≤ height x
  | .num _ => Nat.le_refl _
  | .nm _ => Nat.le_refl _
  | .me => Nat.le_refl _
  | .all => Nat.le_refl _
  | .cell _ a => Nat.succ_le_succ (height_N a)
  | .neg a => by
    have h := height_N a
    show height (negX (N a)) ≤ height a + 1
    cases e : N a <;> rw [e] at h <;> simp only [negX, height] at h ⊢ <;> omega
  | .not a => by
    have h := height_N a
    show height (notX (N a)) ≤ height a + 1
    cases e : N a <;> rw [e] at h <;> simp only [notX, height] at h ⊢ <;> omega
  | .bin op a b => by
    have h := height_N a
    have h2 := height_N b
    show height (binX op (N a) (N b)) ≤ max (height a) (height b) + 1
    have key : height (binX op (N a) (N b)) ≤ max (height (N a)) (height (N b)) + 1 := by
      cases e : N a with
      | num v =>
        cases e2 : N b with
        | num w =>
          rcases rec_cases op v w with e3 | ⟨z, hz, e3⟩
          · rw [bin_none e3]; exact Nat.le_refl _
          · rw [bin_int e3]; simp only [height]; omega
        | _ => exact Nat.le_refl _
      | _ => exact Nat.le_refl _
    omega
/-! ### how it is written -/
theorem depth_X : ∀ x : X, PyData.depth (toD x) ≤ height x + 1
  | .num _ => by simp [toD, PyData.depth, PyData.depthAll, height]
  | .nm _ => by simp [toD, PyData.depth, PyData.depthAll, height]
  | .me => by simp [toD, PyData.depth, PyData.depthAll, height]
  | .all => by simp [toD, PyData.depth, PyData.depthAll, height]
  | .cell s a => by
    have := depth_X a
    simp only [toD, PyData.depth, PyData.depthAll, height]
    omega
  | .neg a => by
    have := depth_X a
    simp only [toD, PyData.depth, PyData.depthAll, height]
    omega
  | .not a => by
    have := depth_X a
    simp only [toD, PyData.depth, PyData.depthAll, height]
    omega
  | .bin op a b => by
    have := depth_X a
    have := depth_X b
    simp only [toD, PyData.depth, PyData.depthAll, height]
    omega
theorem word_len {i : Int} (h : isW i) : lenD (.int i) ≤ 18 ∧ fineD (.int i) = true := by
  obtain ⟨h1, h2⟩ := h
  have hl : i.natAbs.log2 < 17 := by
    by_cases z : i.natAbs = 0
    · rw [z]; decide
    · exact (Nat.log2_lt z).mpr (by omega)
  exact ⟨by unfold lenD; omega, by unfold fineD; exact decide_eq_true (by omega)⟩
theorem sok {s : Str} (h : (s.cps.toList.all fun c => decide (c < 0x110000)) = true) : PyData.strOk s = true := by
  unfold PyData.strOk
  rw [← Array.all_toList]
  exact h
theorem op_len {op : Str} (o : Op op) : lenD (.str op) ≤ 42 ∧ fineD (.str op) = true ∧ PyData.canLay0 (.str op) = true := by
  cases o <;> exact ⟨by decide, by decide, by simp only [PyData.canLay0]; exact sok (by decide)⟩
theorem len_X : ∀ x : X, Good x → lenD (toD x) + 100 ≤ 200 * 2 ^ height x ∧ fineD (toD x) = true ∧ PyData.canLay0 (toD x) = true
  | .num v, g => by
    have h := word_len g
    have e : lenD (.str "number") = 62 := by decide
    have e2 : fineD (.str "number") = true := by decide
    have e3 : PyData.canLay0 (.str "number") = true := by simp only [PyData.canLay0]; exact sok (by decide)
    refine ⟨?_, ?_, ?_⟩
    · simp only [toD, lenD, lenDs, height] at h e ⊢; omega
    · simp only [toD, fineD, fineDs] at h e2 ⊢; rw [e2, h.2]; rfl
    · simp only [toD, PyData.canLay0, PyData.canLayAll0] at e3 ⊢; rw [e3]; rfl
  | .nm s, g => by rcases g with rfl | rfl <;> exact ⟨by decide, by decide, by simp only [toD, PyData.canLay0, PyData.canLayAll0, Bool.and_true, Bool.and_eq_true]; exact ⟨sok (by decide), sok (by decide)⟩⟩
  | .me, _ => ⟨by decide, by decide, by simp only [toD, PyData.canLay0, PyData.canLayAll0, Bool.and_true, Bool.and_eq_true]; exact sok (by decide)⟩
  | .all, _ => ⟨by decide, by decide, by simp only [toD, PyData.canLay0, PyData.canLayAll0, Bool.and_true, Bool.and_eq_true]; exact sok (by decide)⟩
  | .cell s a, g => by
    obtain ⟨rfl, g⟩ := g
    obtain ⟨h1, h2, h3⟩ := len_X a g
    have e : lenD (.str "cell") = 42 := by decide
    have e2 : fineD (.str "cell") = true := by decide
    have e3 : PyData.canLay0 (.str "cell") = true := by simp only [PyData.canLay0]; exact sok (by decide)
    have a1 : lenD (.str "a") = 12 := by decide
    have a2 : fineD (.str "a") = true := by decide
    have a3 : PyData.canLay0 (.str "a") = true := by simp only [PyData.canLay0]; exact sok (by decide)
    refine ⟨?_, ?_, ?_⟩
    · show 3 + (lenD (.str "cell") + 2 + (lenD (.str "a") + 2 + (lenD (toD a) + 2 + 0))) + 100 ≤ 200 * 2 ^ (height a + 1)
      rw [Nat.pow_succ]; have := Nat.one_le_two_pow (n := height a); omega
    · show (fineD (.str "cell") && (fineD (.str "a") && (fineD (toD a) && true))) = true
      rw [e2, a2, h2]; rfl
    · show (PyData.canLay0 (.str "cell") && (PyData.canLay0 (.str "a") && (PyData.canLay0 (toD a) && true))) = true
      rw [e3, a3, h3]; rfl
  | .neg a, g => by
    obtain ⟨h1, h2, h3⟩ := len_X a g
    have e : lenD (.str "neg") = 32 := by decide
    have e2 : fineD (.str "neg") = true := by decide
    have e3 : PyData.canLay0 (.str "neg") = true := by simp only [PyData.canLay0]; exact sok (by decide)
    refine ⟨?_, ?_, ?_⟩
    · show 3 + (lenD (.str "neg") + 2 + (lenD (toD a) + 2 + 0)) + 100 ≤ 200 * 2 ^ (height a + 1)
      rw [Nat.pow_succ]; have := Nat.one_le_two_pow (n := height a); omega
    · show (fineD (.str "neg") && (fineD (toD a) && true)) = true
      rw [e2, h2]; rfl
    · show (PyData.canLay0 (.str "neg") && (PyData.canLay0 (toD a) && true)) = true
      rw [e3, h3]; rfl
  | .not a, g => by
    obtain ⟨h1, h2, h3⟩ := len_X a g
    have e : lenD (.str "not") = 32 := by decide
    have e2 : fineD (.str "not") = true := by decide
    have e3 : PyData.canLay0 (.str "not") = true := by simp only [PyData.canLay0]; exact sok (by decide)
    refine ⟨?_, ?_, ?_⟩
    · show 3 + (lenD (.str "not") + 2 + (lenD (toD a) + 2 + 0)) + 100 ≤ 200 * 2 ^ (height a + 1)
      rw [Nat.pow_succ]; have := Nat.one_le_two_pow (n := height a); omega
    · show (fineD (.str "not") && (fineD (toD a) && true)) = true
      rw [e2, h2]; rfl
    · show (PyData.canLay0 (.str "not") && (PyData.canLay0 (toD a) && true)) = true
      rw [e3, h3]; rfl
  | .bin op a b, g => by
    obtain ⟨o, ga, gb⟩ := g
    obtain ⟨h1, h2, h3⟩ := len_X a ga
    obtain ⟨k1, k2, k3⟩ := len_X b gb
    obtain ⟨e, e2, e3⟩ := op_len o
    refine ⟨?_, ?_, ?_⟩
    · show 3 + (lenD (.str op) + 2 + (lenD (toD a) + 2 + (lenD (toD b) + 2 + 0))) + 100 ≤ 200 * 2 ^ (max (height a) (height b) + 1)
      have p1 : 2 ^ height a ≤ 2 ^ max (height a) (height b) := Nat.pow_le_pow_right (by decide) (Nat.le_max_left ..)
      have p2 : 2 ^ height b ≤ 2 ^ max (height a) (height b) := Nat.pow_le_pow_right (by decide) (Nat.le_max_right ..)
      rw [Nat.pow_succ]; omega
    · show (fineD (.str op) && (fineD (toD a) && (fineD (toD b) && true))) = true
      rw [e2, h2, k2]; rfl
    · show (PyData.canLay0 (.str op) && (PyData.canLay0 (toD a) && (PyData.canLay0 (toD b) && true))) = true
      rw [e3, h3, k3]; rfl
theorem same_X (x : X) (g : Good x) (h : height x ≤ 5) : eqOk (toD x) (toD x) = true ∧ PyData.eqv (toD x) (toD x) = true := by
  obtain ⟨_, _, h3⟩ := len_X x g
  have hd := depth_X x
  refine ⟨?_, SeqAt.eqv_refl _ h3⟩
  have : SeqAt.shaped (toD x) = true := by
    unfold SeqAt.shaped
    rw [h3, decide_eq_true (by omega : PyData.depth (toD x) ≤ 64)]; rfl
  unfold eqOk
  rw [this, Bool.and_self, Bool.or_true]
theorem told_ok (x : X) (g : Good x) (h : height x ≤ 5) (b c : Bool) : reprOk (.list [toD x, toD x, .bool b, .bool c]) = true := by
  obtain ⟨h1, h2, h3⟩ := len_X x g
  have hd := depth_X x
  have hp : 2 ^ height x ≤ 2 ^ 5 := Nat.pow_le_pow_right (by decide) h
  refine repr_ok ?_ ?_ ?_
  · show (fineD (toD x) && (fineD (toD x) && (fineD (.bool b) && (fineD (.bool c) && true)))) = true
    rw [h2]; rfl
  · simp only [PyData.depth, PyData.depthAll]; omega
  · show 2 + (lenD (toD x) + 2 + (lenD (toD x) + 2 + (5 + 2 + (5 + 2 + 0)))) + 64 ≤ 16777216
    omega
end K75
end

section
set_option maxRecDepth 100000
set_option autoImplicit false
namespace K75
open Ev PySem
/-- the evaluator's steps -/
local macro_rules | `(tactic| trivial) => `(tactic| simp only [wps_cons, wps_nil, wp_ok, r_int, r_str, r_bool, r_none, r_var, r_bin, r_neg, r_not, r_cmp, r_chain, r_and, r_or, r_ite, r_tup, r_lst, r_alloc, r_alloc0, r_ix, r_call, r_callK, r_bcall, r_isty, r_meth0, r_meth1, r_dict, r_slice, r_rep, r_nil, r_cons, s_pass, s_ret, s_retN, s_asg, s_asgS, s_sub, s_tup, s_tgs0, s_tgs, s_tgN, s_par, s_ex, s_aug, s_if, s_for, s_brk, s_cnt,
  var_0, var_s, tst_t, tst_f, tst_d, tst_n, neg_i, not_b, bin_add, bin_sub, bin_mul, bin_fdiv, bin_mod, bin_pow, bin_str, bin_lst, bin_tup, cmp_lt, cmp_le, cmp_gt, cmp_ge, cmp_eqI, cmp_neI, cmp_eqS, cmp_neS, cmp_eqB, cmp_is, cmp_isn, cmp_isB, cmp_isnB, cmp_inT, cmp_inL, cmp_ninT, cmp_ninL, ty_d, ty_int, ty_bool, ty_str, ty_tup, unt_t, aug_0, aug_s, augr_add, augr_sub, opt_some, opt_map, opt_if, set_0, set_s, tupQ, toDs, Option.map_some, Option.map_none,
  wp_bind, part_0, part_1, sl_list, sl_tuple, sl_map, wk_list, wk_tuple, walk_r1, walk_r2, at1_0, at2_0, at2_1, at3_0, at3_1, at3_2, ix_list, ix_tuple, bf_int, bf_intB, bf_abs, bf_lenL, bf_lenT, bf_max, bf_min, divmod_wp, bf_repr,
  str_eq, String.reduceEq, mem_str, mem_nil, flat_str, flat_int, List.all_cons, List.all_nil, Bool.and_self, Bool.or_false, decide_true, decide_false, not_true, not_false_eq_true, true_and, and_true, true_implies, false_implies, implies_true, Bool.not_true, Bool.not_false, Bool.false_or, Bool.true_or, Bool.or_true, List.length_cons, List.length_nil, sizeMax, Nat.reduceAdd, Nat.reduceLeDiff, ne_eq, pick, List.getElem?_cons_zero, List.getElem?_cons_succ,
  r_glob c0, r_glob c1, r_glob c2, r_glob c3, r_glob c4, r_glob c5, r_glob c6, r_glob c7, r_glob c8, r_glob c9, r_glob c10])
variable {W k : Nat} {st : Store} {Q : U → Store → Prop}
theorem lay_all : ∀ {ys : List X}, (∀ y ∈ ys, Good y ∧ height y ≤ 5) → PyData.canLayAll0 (ys.map toD) = true ∧ PyData.depthAll (ys.map toD) ≤ 6
  | [], _ => ⟨rfl, by simp [PyData.depthAll]⟩
  | y :: ys, h => by
    obtain ⟨h1, h2⟩ := lay_all (ys := ys) fun z hz => h z (List.mem_cons_of_mem _ hz)
    obtain ⟨g, hy⟩ := h y (List.mem_cons_self ..)
    have hd := depth_X y
    refine ⟨?_, ?_⟩
    · show (PyData.canLay0 (toD y) && PyData.canLayAll0 (ys.map toD)) = true
      rw [(len_X y g).2.2, h1]; rfl
    · rw [List.map_cons]; simp only [PyData.depthAll]; omega
theorem eqv_nil : ∀ ys : List D, PyData.eqv (.list ys) (.list []) = ys.isEmpty
  | [] => by decide
  | y :: ys => by simp [PyData.eqv, PyData.eqvAll]
theorem filter_all (ys : List X) : ((ys.filter fun y => !isNum y).map toD).isEmpty = ys.all isNum := by
  induction ys with
  | nil => rfl
  | cons y ys ih =>
    cases e : isNum y
    · rw [List.filter_cons_of_pos (by rw [e]; rfl), List.all_cons, e]; rfl
    · rw [List.filter_cons_of_neg (by rw [e]; decide), List.all_cons, e, ih]; rfl
theorem none_num {ys : List X} {Qb : Bool → Prop} (h : ∀ y ∈ ys, Good y ∧ height y ≤ 5) (q : Qb (ys.all isNum)) : cmpQ .Eq (.d (.list ((ys.filter fun y => !isNum y).map toD))) (.d (.list [])) Qb := by
  rw [cmp_eq]
  obtain ⟨h1, h2⟩ := lay_all (ys := ys.filter fun y => !isNum y) fun y hy => h y (List.mem_filter.mp hy).1
  refine ⟨?_, ?_⟩
  · have : SeqAt.shaped (.list ((ys.filter fun y => !isNum y).map toD)) = true := by
      unfold SeqAt.shaped
      have e1 : PyData.canLay0 (.list ((ys.filter fun y => !isNum y).map toD)) = true := h1
      rw [e1, decide_eq_true (by simp only [PyData.depth]; omega)]; rfl
    have h2 : SeqAt.shaped (.list ([] : List D)) = true := by decide
    unfold eqOk
    rw [this, h2, Bool.and_self, Bool.or_true]
  · rw [eqv_nil, filter_all]; exact q
variable {x0 x1 x2 x3 x4 : Option U} {cp : Nat → List D → R D} {cm : Nat → List U → Store → R U}
theorem parts_wp {w : List D} {ys : List X} (hy : sl w (some 1) none = ys.map toD) (hl : ys.length ≤ 2) (ih : ∀ y ∈ ys, ∀ {st : Store} {Q : U → Store → Prop}, (callU G cp cm 28 [.d (toD y)] st).wp Q = Q (.d (toD (N y))) st) (q : Q (.d (.list ((ys.map N).map toD))) st) :
    (evE G cp cm (.comp false (.call 28 (.cons (.var 4) .nil)) (.one 4) .val (.cons (.slice (.var 0) (.cons (.con (.int 1)) .nil) .nil) .nil) .nil [4]) [some (.d (.tuple w)), x1, x2, x3, x4] st).wp Q := by
  rw [r_comp]
  trivial
  rw [hy, List.map_map]
  refine comp_on (g := fun y => some (.d (toD (N y)))) (by simp only [List.length_nil, sizeMax]; omega) (fun y hy Q q => ?_) ?_
  · rw [turn_wp rfl]
    unfold compQ
    simp only [wipeE, setE, List.set_cons_succ, List.set_cons_zero, Function.comp]
    trivial
    rw [ih y hy]
    exact q
  · rw [filter_some, List.nil_append]
    have e : toDs (ys.map fun y => U.d (toD (N y))) = some ((ys.map N).map toD) := by
      rw [← toDs_map, List.map_map, List.map_map]; rfl
    rw [e]
    exact q
theorem cond_wp {ys : List X} (hg : ∀ y ∈ ys, Good y) (hl : ys.length ≤ 2) (q : Q (.d (.list ((ys.filter fun y => !isNum y).map toD))) st) :
    (evE G cp cm (.comp false (.var 4) (.one 4) .val (.cons (.var 1) .nil) (.cons (.cmp .NotEq (.ix (.var 4) (.con (.int 0))) (.con (.str "number"))) .nil) [4]) [x0, some (.d (.list (ys.map toD))), x2, x3, x4] st).wp Q := by
  rw [r_comp]
  trivial
  rw [List.map_map]
  refine comp_on (g := fun y => if isNum y then none else some (.d (toD y))) (by simp only [List.length_nil, sizeMax]; omega) (fun y hy Q q => ?_) ?_
  · rw [turn_wp rfl]
    unfold compQ
    simp only [wipeE, setE, List.set_cons_succ, List.set_cons_zero, Function.comp]
    trivial
    rw [ix_head]
    trivial
    have e := head_num y (hg y hy)
    simp only [e]
    cases hb : isNum y <;> simp only [hb] at q <;> simp <;> exact q
  · have e : ∀ ys : List X, ys.filterMap (fun y => if isNum y then none else some (U.d (toD y))) = ((ys.filter fun y => !isNum y).map toD).map U.d := by
      intro ys
      induction ys with
      | nil => rfl
      | cons y ys ih =>
        cases e : isNum y
        · rw [List.filterMap_cons_some (b := U.d (toD y)) (by rw [e]; rfl), List.filter_cons_of_pos (by rw [e]; rfl), ih]; rfl
        · rw [List.filterMap_cons_none (by rw [e]; rfl), List.filter_cons_of_neg (by rw [e]; decide), ih]
    rw [e, List.nil_append, toDs_map]
    exact q
theorem words_wp {vs : List Int} (hl : vs.length ≤ 2) (q : Q (.d (.list (vs.map .int))) st) :
    (evE G cp cm (.comp false (.ix (.var 4) (.con (.int 1))) (.one 4) .val (.cons (.var 1) .nil) .nil [4]) [x0, some (.d (.list ((vs.map X.num).map toD))), x2, x3, x4] st).wp Q := by
  rw [r_comp]
  trivial
  rw [List.map_map, List.map_map]
  refine comp_on (g := fun v => some (.d (.int v))) (by simp only [List.length_nil, sizeMax]; omega) (fun v hv Q q => ?_) ?_
  · rw [turn_wp rfl]
    unfold compQ
    simp only [wipeE, setE, List.set_cons_succ, List.set_cons_zero, Function.comp, toD]
    trivial
    exact q
  · rw [filter_some, List.nil_append]
    have e : toDs (vs.map fun v => U.d (.int v)) = some (vs.map .int) := by
      rw [← toDs_map, List.map_map]; rfl
    rw [e]
    exact q
set_option maxHeartbeats 4000000 in
theorem r28 : ∀ (m : Nat) (x : X), Good x → height x ≤ m → m ≤ 5 → ∀ {st : Store} {Q : U → Store → Prop}, Q (.d (toD (N x))) st → (callRaw G W (k + m + 3) 28 [.d (toD x)] st).wp Q
  | 0, x, _, h, _ => by cases x <;> simp [height] at h
  | m + 1, x, g, h, hm => by
    rename_i st Q
    intro q
    have ih : ∀ (y : X), Good y → height y ≤ m → ∀ {st : Store} {Q : U → Store → Prop}, (callU G (cpK G W (k + m + 3)) (cmK G W (k + m + 3)) 28 [.d (toD y)] st).wp Q = Q (.d (toD (N y))) st :=
      fun y gy hy => pure_eq (F := f28) rfl rfl rfl fun Q q => r28 m y gy hy (by omega) q
    show (callRaw G W ((k + m + 3) + 1) 28 [.d (toD x)] _).wp _
    refine call_by (F := f28) rfl rfl ?_
    show (exSs G W _ _ b28 [some (.d (toD x)), none, none, none, none] _).wp _
    unfold b28
    cases x with
    | num v => simp only [toD]; trivial; exact q
    | nm s => simp only [toD]; trivial; exact q
    | me => simp only [toD]; trivial; exact q
    | all => simp only [toD]; trivial; exact q
    | cell s a =>
      simp only [toD]
      try trivial
      rw [ih a g.2 (by simp only [height] at h; omega)]
      try trivial
      all_goals first | exact q | exact ⟨by simp, q⟩
    | neg a =>
      have ha : height a ≤ m := by simp only [height] at h; omega
      have hN := height_N a
      have gN : Good (N a) := good_N (x := a) g
      simp only [toD]
      try trivial
      refine parts_wp (ys := [a]) rfl (by simp) (fun y hy => by obtain rfl := List.mem_singleton.mp hy; exact ih y g ha) ?_
      try trivial
      refine cond_wp (ys := [a].map N) (fun y hy => by obtain rfl := List.mem_singleton.mp hy; exact gN) (by simp) ?_
      try trivial
      refine none_num (fun y hy => by obtain rfl := List.mem_singleton.mp hy; exact ⟨gN, by omega⟩) ?_
      change Q (.d (toD (negX (N a)))) st at q
      rw [List.map_cons, List.map_nil]
      generalize N a = b at *
      cases b with
      | num v =>
        simp only [List.all_cons, List.all_nil, isNum, Bool.false_and, Bool.true_and, Bool.and_true, Bool.and_false]
        try trivial
        refine words_wp (vs := [v]) (by simp) ?_
        try trivial
        simp only [List.map_cons, List.map_nil]
        try trivial
        rw [p25 (k := k + m + 2)]
        try trivial
        all_goals first | exact q | exact ⟨by simp, q⟩
      | bin op a b =>
        obtain ⟨o, _⟩ := gN
        simp only [List.all_cons, List.all_nil, isNum, Bool.false_and, Bool.true_and, Bool.and_true, Bool.and_false]
        try trivial
        simp only [List.map_cons, List.map_nil, toD]
        cases o <;> trivial <;> exact q
      | _ =>
        simp only [List.all_cons, List.all_nil, isNum, Bool.false_and, Bool.true_and, Bool.and_true, Bool.and_false]
        try trivial
        simp only [List.map_cons, List.map_nil, toD]
        try trivial
        all_goals first | exact q | exact ⟨by simp, q⟩
    | not a =>
      have ha : height a ≤ m := by simp only [height] at h; omega
      have hN := height_N a
      have gN : Good (N a) := good_N (x := a) g
      simp only [toD]
      try trivial
      refine parts_wp (ys := [a]) rfl (by simp) (fun y hy => by obtain rfl := List.mem_singleton.mp hy; exact ih y g ha) ?_
      try trivial
      refine cond_wp (ys := [a].map N) (fun y hy => by obtain rfl := List.mem_singleton.mp hy; exact gN) (by simp) ?_
      try trivial
      refine none_num (fun y hy => by obtain rfl := List.mem_singleton.mp hy; exact ⟨gN, by omega⟩) ?_
      change Q (.d (toD (notX (N a)))) st at q
      rw [List.map_cons, List.map_nil]
      generalize N a = b at *
      cases b with
      | num v =>
        simp only [List.all_cons, List.all_nil, isNum, Bool.false_and, Bool.true_and, Bool.and_true, Bool.and_false]
        try trivial
        refine words_wp (vs := [v]) (by simp) ?_
        try trivial
        simp only [List.map_cons, List.map_nil]
        try trivial
        unfold notX toD at q
        refine ⟨fun h => ?_, fun h => ?_⟩
        · rw [if_pos h] at q; exact q
        · rw [if_neg h] at q; exact q
      | _ =>
        simp only [List.all_cons, List.all_nil, isNum, Bool.false_and, Bool.true_and, Bool.and_true, Bool.and_false]
        try trivial
        simp only [List.map_cons, List.map_nil, toD]
        try trivial
        all_goals first | exact q | exact ⟨by simp, q⟩
    | bin op a b =>
      obtain ⟨o, ga, gb⟩ := g
      have ha : height a ≤ m := by simp only [height] at h; omega
      have hb : height b ≤ m := by simp only [height] at h; omega
      have hN := height_N a
      have hM := height_N b
      have gN := good_N ga
      have gM := good_N gb
      have o' := o
      have mem2 : ∀ {y : X}, y ∈ [a, b] → Good y ∧ height y ≤ m := fun hy => by
        rcases List.mem_cons.mp hy with rfl | hy
        · exact ⟨ga, ha⟩
        · obtain rfl := List.mem_singleton.mp hy; exact ⟨gb, hb⟩
      have mem3 : ∀ {y : X}, y ∈ [a, b].map N → Good y ∧ height y ≤ 5 := fun hy => by
        obtain ⟨z, hz, rfl⟩ := List.mem_map.mp hy
        have := height_N z
        have := (mem2 hz).2
        exact ⟨good_N (mem2 hz).1, by omega⟩
      simp only [toD]
      have main : ∀ s : Str, op = s → (s = "number" → False) → True := fun _ _ _ => True.intro
      cases o <;> trivial <;> (
        refine parts_wp (ys := [a, b]) rfl (by simp) (fun y hy => ih y (mem2 hy).1 (mem2 hy).2) ?_
        try trivial
        refine cond_wp (ys := [a, b].map N) (fun y hy => (mem3 hy).1) (by simp) ?_
        try trivial
        refine none_num (fun y hy => mem3 hy) ?_
        change Q (.d (toD (binX _ (N a) (N b)))) st at q
        rw [List.map_cons, List.map_cons, List.map_nil]
        generalize N a = c at *
        generalize N b = d at *
        cases c with
        | num v =>
          cases d with
          | num w =>
            simp only [List.all_cons, List.all_nil, isNum, Bool.false_and, Bool.true_and, Bool.and_true, Bool.and_false]
            try trivial
            refine words_wp (vs := [v, w]) (by simp) ?_
            try trivial
            simp only [List.map_cons, List.map_nil]
            try trivial
            rw [p26 (k := k + m + 1) _ v w gN gM o']
            try trivial
            rcases rec_cases _ v w with e | ⟨z, hz, e⟩
            · rw [bin_none e] at q
              rw [e]
              simp only [isNoneD]
              try trivial
              rw [bf_tupL]
              try trivial
              all_goals first | exact q | exact ⟨by simp, q⟩
            · rw [bin_int e] at q
              rw [e]
              simp only [isNoneD]
              try trivial
              all_goals first | exact q | exact ⟨by simp, q⟩
          | _ =>
            simp only [List.all_cons, List.all_nil, isNum, Bool.false_and, Bool.true_and, Bool.and_true, Bool.and_false]
            try trivial
            rw [bf_tupL]
            try trivial
            all_goals first | exact q | exact ⟨by simp, q⟩
        | _ =>
          simp only [List.all_cons, List.all_nil, isNum, Bool.false_and, Bool.true_and, Bool.and_true, Bool.and_false]
          try trivial
          rw [bf_tupL]
          try trivial
          all_goals first | exact q | exact ⟨by simp, q⟩)
theorem p28 (m : Nat) (x : X) (g : Good x) (h : height x ≤ m) (hm : m ≤ 5) : (callU G (cpK G W (k + m + 3)) (cmK G W (k + m + 3)) 28 [.d (toD x)] st).wp Q = Q (.d (toD (N x))) st := pure_eq (F := f28) rfl rfl rfl fun Q q => r28 m x g h hm q
end K75
end

section
set_option maxRecDepth 100000
set_option autoImplicit false
namespace K75
open Ev PySem
/-- the evaluator's steps -/
local macro_rules | `(tactic| trivial) => `(tactic| simp only [wps_cons, wps_nil, wp_ok, r_int, r_str, r_bool, r_none, r_var, r_bin, r_neg, r_not, r_cmp, r_chain, r_and, r_or, r_ite, r_tup, r_lst, r_alloc, r_alloc0, r_ix, r_call, r_callK, r_bcall, r_isty, r_meth0, r_meth1, r_dict, r_slice, r_rep, r_nil, r_cons, s_pass, s_ret, s_retN, s_asg, s_asgS, s_sub, s_tup, s_tgs0, s_tgs, s_tgN, s_par, s_ex, s_aug, s_if, s_for, s_brk, s_cnt,
  var_0, var_s, tst_t, tst_f, tst_d, tst_n, neg_i, not_b, bin_add, bin_sub, bin_mul, bin_fdiv, bin_mod, bin_pow, bin_str, bin_lst, bin_tup, cmp_lt, cmp_le, cmp_gt, cmp_ge, cmp_eqI, cmp_neI, cmp_eqS, cmp_neS, cmp_eqB, cmp_is, cmp_isn, cmp_isB, cmp_isnB, cmp_inT, cmp_inL, cmp_ninT, cmp_ninL, ty_d, ty_int, ty_bool, ty_str, ty_tup, unt_t, aug_0, aug_s, augr_add, augr_sub, opt_some, opt_map, opt_if, set_0, set_s, tupQ, toDs, Option.map_some, Option.map_none,
  wp_bind, part_0, part_1, sl_list, sl_tuple, sl_map, wk_list, wk_tuple, walk_r1, walk_r2, at1_0, at2_0, at2_1, at3_0, at3_1, at3_2, ix_list, ix_tuple, bf_int, bf_intB, bf_abs, bf_lenL, bf_lenT, bf_max, bf_min, divmod_wp, bf_repr,
  str_eq, String.reduceEq, mem_str, mem_nil, flat_str, flat_int, List.all_cons, List.all_nil, Bool.and_self, Bool.or_false, decide_true, decide_false, not_true, not_false_eq_true, true_and, and_true, true_implies, false_implies, implies_true, Bool.not_true, Bool.not_false, Bool.false_or, Bool.true_or, Bool.or_true, List.length_cons, List.length_nil, sizeMax, Nat.reduceAdd, Nat.reduceLeDiff, ne_eq, pick, List.getElem?_cons_zero, List.getElem?_cons_succ,
  r_glob c0, r_glob c1, r_glob c2, r_glob c3, r_glob c4, r_glob c5, r_glob c6, r_glob c7, r_glob c8, r_glob c9, r_glob c10])
local macro_rules | `(tactic| get_elem_tactic_trivial) => `(tactic| simp only [wps_cons, wps_nil, wp_ok, r_int, r_str, r_bool, r_none, r_var, r_bin, r_neg, r_not, r_cmp, r_chain, r_and, r_or, r_ite, r_tup, r_lst, r_alloc, r_alloc0, r_ix, r_call, r_callK, r_bcall, r_isty, r_meth0, r_meth1, r_dict, r_slice, r_rep, r_nil, r_cons, s_pass, s_ret, s_retN, s_asg, s_asgS, s_sub, s_tup, s_tgs0, s_tgs, s_tgN, s_par, s_ex, s_aug, s_if, s_for, s_brk, s_cnt,
  var_0, var_s, tst_t, tst_f, tst_d, tst_n, neg_i, not_b, bin_add, bin_sub, bin_mul, bin_fdiv, bin_mod, bin_pow, bin_str, bin_lst, bin_tup, cmp_lt, cmp_le, cmp_gt, cmp_ge, cmp_eqI, cmp_neI, cmp_eqS, cmp_neS, cmp_eqB, cmp_is, cmp_isn, cmp_isB, cmp_isnB, cmp_inT, cmp_inL, cmp_ninT, cmp_ninL, ty_d, ty_int, ty_bool, ty_str, ty_tup, unt_t, aug_0, aug_s, augr_add, augr_sub, opt_some, opt_map, opt_if, set_0, set_s, tupQ, toDs, Option.map_some, Option.map_none,
  wp_bind, part_0, part_1, sl_list, sl_tuple, sl_map, wk_list, wk_tuple, walk_r1, walk_r2, at1_0, at2_0, at2_1, at3_0, at3_1, at3_2, ix_list, ix_tuple, bf_int, bf_intB, bf_abs, bf_lenL, bf_lenT, bf_max, bf_min, divmod_wp, bf_repr,
  str_eq, String.reduceEq, mem_str, mem_nil, flat_str, flat_int, List.all_cons, List.all_nil, Bool.and_self, Bool.or_false, decide_true, decide_false, not_true, not_false_eq_true, true_and, and_true, true_implies, false_implies, implies_true, Bool.not_true, Bool.not_false, Bool.false_or, Bool.true_or, Bool.or_true, List.length_cons, List.length_nil, sizeMax, Nat.reduceAdd, Nat.reduceLeDiff, ne_eq, pick, List.getElem?_cons_zero, List.getElem?_cons_succ,
  r_glob c0, r_glob c1, r_glob c2, r_glob c3, r_glob c4, r_glob c5, r_glob c6, r_glob c7, r_glob c8, r_glob c9, r_glob c10])
variable {W k : Nat} {st : Store} {Q : U → Store → Prop}
theorem rep_2 {x : D} : repU 2 [.d x] = some (.d (.list [x, x])) := rfl
theorem same_nil {Qb : Bool → Prop} (q : Qb false) : cmpQ .NotEq (.d (.list ([] : List D))) (.d (.list [])) Qb := by
  rw [cmp_ne]
  exact ⟨by decide, by rw [eqv_nil]; exact q⟩
theorem m22 (ns : List Int) (lap : Int) (hl : 0 ≤ lap) (q : ∀ c, Well c → Q (.m st.length) (st ++ [c])) : (callU G (cpK G W (k + 1)) (cmK G W (k + 1)) 22 [.d (.list (ns.map .int)), .d (.int lap)] st).wp Q :=
  mut_wp_new (F := f22) rfl rfl (r22 ns lap hl fun c w => ⟨⟨_, rfl, Nat.le_refl _⟩, q c w⟩)
theorem r29 {n : Nat} {c : Cell} (hw : st[n]? = some c) (w : Well c) (q : ∀ st' : Store, st'.length = st.length → Q (.d (.bool true)) st') : (callRaw G W (k + 10) 29 [.m n] st).wp Q := by
  refine call_by (F := f29) rfl rfl ?_
  show (exSs G W (cpK G W (k + 9)) (cmK G W (k + 9)) b29 [some (.m n), none, none, none, none, none] st).wp _
  unfold b29
  try get_elem_tactic_trivial
  refine ⟨by decide, ?_⟩
  refine for_wp (fun ε st' => (∃ c, Well c ∧ st' = st.set n c) ∧ ∃ x1 x2 x3 x4 x5 : Option U, ε = [some (.m n), x1, x2, x3, x4, x5]) (fun u hu ε st' hI => ?_) (fun ε st' hI => ?_) ⟨⟨_, w, ?_⟩, _, _, _, _, _, rfl⟩
  · obtain ⟨⟨c, w, rfl⟩, x1, x2, x3, x4, x5, rfl⟩ := hI
    refine ⟨_, rfl, ?_⟩
    show (exSs G W _ _ _ [some (.m n), some u, x2, x3, x4, x5] _).wp _
    have hw1 := get_set (c := c) hw
    try get_elem_tactic_trivial
    refine m23 (k := k + 8) hw1 w 4 (by decide) (by decide) fun r c r0 r4 w => ?_
    rw [set_set]
    try get_elem_tactic_trivial
    obtain ⟨d, hd, hd4⟩ : ∃ d : Nat, (1 + r : Int) = (d : Int) ∧ d ≤ 4 := ⟨(1 + r).toNat, by omega, by omega⟩
    obtain ⟨k2, hk⟩ : ∃ k2, k + 9 = k2 + d + 3 := ⟨k + 6 - d, by omega⟩
    have M : ∀ {st : Store} {n : Nat} {c : Cell} (hw : st[n]? = some c) (w : Well c) {Q : U → Store → Prop} (q : ∀ (x : X) (c : Cell), Fresh x → height x ≤ d + 1 → Well c → Q (.d (toD x)) (st.set n c)), (callU G (cpK G W (k + 9)) (cmK G W (k + 9)) 27 [.m n, .d (.int (d : Int))] st).wp Q := by
      intro st n c hw w Q q
      rw [hk]; exact m27 d hw w q
    rw [hd]
    refine M (get_set hw) w fun x c g h w => ?_
    rw [set_set]
    have h5 : height x ≤ 5 := by omega
    have gg := fresh_good g
    have gN := good_N gg
    have hN : height (N x) ≤ 5 := Nat.le_trans (height_N x) h5
    try get_elem_tactic_trivial
    rw [p28 (k := k + 1) 5 x gg h5 (Nat.le_refl _)]
    try get_elem_tactic_trivial
    rw [p19 (k := k) x g h5]
    try get_elem_tactic_trivial
    rw [p19 (k := k) x g h5]
    try get_elem_tactic_trivial
    rw [p20 (k := k) x g h5]
    try get_elem_tactic_trivial
    rw [p20 (k := k) x g h5]
    try get_elem_tactic_trivial
    refine ⟨told_ok _ gN hN _ _, ?_⟩
    rw [ix_head]
    try get_elem_tactic_trivial
    rw [rep_2]
    try get_elem_tactic_trivial
    simp only [head_num _ gN, Bool.decide_eq_true]
    simp only [List.cons_append, List.nil_append, eq_self, true_implies, not_true_eq_false, false_implies, and_true]
    refine ⟨told_ok _ gN hN _ _, ?_⟩
    rw [p21 (k := k + 4) x g h5]
    try get_elem_tactic_trivial
    rw [ix_head]
    try get_elem_tactic_trivial
    simp only [head_num _ gN, Bool.decide_eq_true]
    cases hb : isNum (N x) with
    | true =>
      try get_elem_tactic_trivial
      exact ⟨⟨_, w, rfl⟩, _, _, _, _, _, rfl⟩
    | false =>
      try get_elem_tactic_trivial
      rw [r_comp]
      try get_elem_tactic_trivial
      rw [p28 (k := k + 1) 5 (N x) gN hN (Nat.le_refl _), N_nf _ (nf_N x)]
      try get_elem_tactic_trivial
      refine And.intro (fun h => absurd h Bool.false_ne_true) (fun _ => ?_)
      refine comp_on (xs := [toD (N x), toD (N x)]) (acc := []) (f := U.d) (g := fun _ => none) (by simp [sizeMax]) (fun y hy Q q => ?_) ?_
      · have ey : y = toD (N x) := by simpa using hy
        subst ey
        rw [turn_wp rfl]
        unfold compQ
        simp only [wipeE, setE, List.set_cons_succ, List.set_cons_zero]
        try get_elem_tactic_trivial
        rw [cmp_ne]
        obtain ⟨s1, s2⟩ := same_X _ gN hN
        refine ⟨s1, ?_⟩
        rw [s2]
        exact q
      · rw [show toDs (([] : List U) ++ List.filterMap (fun _ => none) [toD (N x), toD (N x)]) = some [] from rfl, opt_some]
        refine same_nil ?_
        try get_elem_tactic_trivial
        exact ⟨⟨_, w, rfl⟩, _, _, _, _, _, rfl⟩
  · obtain ⟨⟨c, w, rfl⟩, x1, x2, x3, x4, x5, rfl⟩ := hI
    try get_elem_tactic_trivial
    exact q _ (List.length_set ..)
  · obtain ⟨h1, h2⟩ := List.getElem?_eq_some_iff.mp hw
    rw [← h2, List.set_getElem_self]
theorem m29 {n : Nat} {c : Cell} (hw : st[n]? = some c) (w : Well c) (q : ∀ st' : Store, st'.length = st.length → Q (.d (.bool true)) st') : (callU G (cpK G W (k + 10)) (cmK G W (k + 10)) 29 [.m n] st).wp Q :=
  mut_wp (F := f29) rfl rfl (r29 hw w fun st' h => ⟨h, q st' h⟩)
theorem r30 (ns : List Int) (hn : ns.length ≤ 63) (q : ∀ st', Q (.d (.bool true)) st') : (callRaw G W (k + 11) 30 [.d (.list (ns.map .int))] st).wp Q := by
  refine call_by (F := f30) rfl rfl ?_
  show (exSs G W _ _ b30 [some (.d (.list (ns.map .int))), none] st).wp _
  unfold b30
  try get_elem_tactic_trivial
  simp only [r_comp]
  try get_elem_tactic_trivial
  rw [List.length_map]
  refine ⟨⟨by split <;> split <;> omega, by split <;> split <;> omega⟩, ?_⟩
  refine comp_wp (fun acc _ => ∃ m, acc = List.replicate m (.d (.bool true))) (by rw [range_len]; show 0 + _ ≤ 16777216; split <;> split <;> omega) (fun u hu acc st' hI => ?_) (fun acc st' hI => ?_) ⟨0, rfl⟩
  · obtain ⟨m, rfl⟩ := hI
    obtain ⟨i, rfl, i1, i2⟩ := range_mem hu
    rw [turn_wp rfl]
    unfold compQ
    simp only [wipeE, setE, List.set_cons_succ, List.set_cons_zero]
    try get_elem_tactic_trivial
    refine m22 (k := k + 9) ns i i1 fun c w => ?_
    refine m29 (k := k) (by rw [List.getElem?_append_right (Nat.le_refl _), Nat.sub_self]; rfl) w fun st2 _ => ?_
    exact ⟨m + 1, by rw [List.replicate_succ']⟩
  · obtain ⟨m, rfl⟩ := hI
    have e : toDs (List.replicate m (.d (.bool true))) = some (List.replicate m (.bool true)) := by
      have := toDs_map (List.replicate m (.bool true))
      rwa [List.map_replicate] at this
    rw [e]
    try get_elem_tactic_trivial
    rw [bf_all (toB_true m)]
    have : (List.replicate m true).all id = true := by simp
    rw [this]
    exact q _
theorem value (ns : List Int) (hn : ns.length ≤ 63) : ∃ st, callRaw G 0 40 30 [.d (.list (ns.map .int))] [] = .ok (.d (.bool true)) st := by
  obtain ⟨u, st, e, h⟩ := (r30 (W := 0) (k := 29) (st := []) (Q := fun u _ => u = .d (.bool true)) ns hn fun _ => rfl).get
  exact ⟨st, by rw [e, h]⟩
end K75
end

section
set_option maxRecDepth 100000
open PySem PySem.W PyProof.Rows Ev
set_option maxHeartbeats 0 in
theorem PySem.Challenge.cw_stepcrowds_k75_whole_normal_forms_holds : PySem.Challenge.rw_stepcrowds_k75_whole_normal_forms.Holds := by
  w_on; o_law; k_head; (case hw => w_witness2)
  k_fill
  refine Ev.walk_by (l := PySem.Challenge.rw_stepcrowds_k75_whole_normal_forms) (n := 63) (k := 40) (W := 0) (f := 30) (x := "script") (F := K75.f30) (G := K75.G) rfl (by decide) rfl ⟨rfl, by decide, by decide⟩ (fun w h Y => PySem.W.kIn_of Y) rfl rfl rfl ?T ?val
  case val => exact K75.value
  case T =>
    intro w mg h inK atG
    refine knows_of ?fn ?con ?bt
    case fn =>
      refine all_cons ?_ ?_
      · refine' known_plain (st := K75.t0) inK atG ?a ?l ?c ?k K75.s0 K75.k0 rfl ?b ?w
        case a => k_is
        case l => k_is
        case c => k_is
        case k => k_is
        case b => exact fun us hl => match us, hl with | [v0], _ => rfl
        case w => exact all_nil
      refine all_cons ?_ ?_
      · refine' known_dfl (st := K75.t1) inK atG ?a ?l ?c ?k ?t K75.s1 K75.k1 ?v ?b ?w
        case a => k_is
        case l => k_is
        case c => k_is
        case k => k_is
        case t => k_is
        case v => exact rfl
        case b =>
          intro j hj us hl
          match j, hj, us, hl with
          | 0, _, [v0, v1, v2], _ => exact ⟨_, rfl, rfl⟩
          | 1, _, [v0, v1], _ => exact ⟨_, rfl, rfl⟩
        case w => exact all_nil
      refine all_cons ?_ ?_
      · refine' known_plain (st := K75.t2) inK atG ?a ?l ?c ?k K75.s2 K75.k2 rfl ?b ?w
        case a => k_is
        case l => k_is
        case c => k_is
        case k => k_is
        case b => exact fun us hl => match us, hl with | [v0, v1], _ => rfl
        case w => exact all_nil
      refine all_cons ?_ ?_
      · refine' known_plain (st := K75.t3) inK atG ?a ?l ?c ?k K75.s3 K75.k3 rfl ?b ?w
        case a => k_is
        case l => k_is
        case c => k_is
        case k => k_is
        case b => exact fun us hl => match us, hl with | [v0, v1], _ => rfl
        case w => exact all_nil
      refine all_cons ?_ ?_
      · refine' known_plain (st := K75.t4) inK atG ?a ?l ?c ?k K75.s4 K75.k4 rfl ?b ?w
        case a => k_is
        case l => k_is
        case c => k_is
        case k => k_is
        case b => exact fun us hl => match us, hl with | [v0], _ => rfl
        case w => exact all_nil
      refine all_cons ?_ ?_
      · refine' known_plain (st := K75.t5) inK atG ?a ?l ?c ?k K75.s5 K75.k5 rfl ?b ?w
        case a => k_is
        case l => k_is
        case c => k_is
        case k => k_is
        case b => exact fun us hl => match us, hl with | [v0], _ => rfl
        case w => exact all_nil
      refine all_cons ?_ ?_
      · refine' known_plain (st := K75.t6) inK atG ?a ?l ?c ?k K75.s6 K75.k6 rfl ?b ?w
        case a => k_is
        case l => k_is
        case c => k_is
        case k => k_is
        case b => exact fun us hl => match us, hl with | [v0, v1, v2], _ => rfl
        case w => exact all_nil
      refine all_cons ?_ ?_
      · refine' known_plain (st := K75.t7) inK atG ?a ?l ?c ?k K75.s7 K75.k7 rfl ?b ?w
        case a => k_is
        case l => k_is
        case c => k_is
        case k => k_is
        case b => exact fun us hl => match us, hl with | [v0, v1, v2], _ => rfl
        case w => exact all_nil
      refine all_cons ?_ ?_
      · refine' known_plain (st := K75.t8) inK atG ?a ?l ?c ?k K75.s8 K75.k8 rfl ?b ?w
        case a => k_is
        case l => k_is
        case c => k_is
        case k => k_is
        case b => exact fun us hl => match us, hl with | [v0, v1, v2], _ => rfl
        case w => exact all_nil
      refine all_cons ?_ ?_
      · refine' known_plain (st := K75.t9) inK atG ?a ?l ?c ?k K75.s9 K75.k9 rfl ?b ?w
        case a => k_is
        case l => k_is
        case c => k_is
        case k => k_is
        case b => exact fun us hl => match us, hl with | [v0], _ => rfl
        case w => exact all_nil
      refine all_cons ?_ ?_
      · refine' known_plain (st := K75.t10) inK atG ?a ?l ?c ?k K75.s10 K75.k10 rfl ?b ?w
        case a => k_is
        case l => k_is
        case c => k_is
        case k => k_is
        case b => exact fun us hl => match us, hl with | [v0], _ => rfl
        case w => exact all_nil
      refine all_cons ?_ ?_
      · refine' known_plain (st := K75.t11) inK atG ?a ?l ?c ?k K75.s11 K75.k11 rfl ?b ?w
        case a => k_is
        case l => k_is
        case c => k_is
        case k => k_is
        case b => exact fun us hl => match us, hl with | [v0], _ => rfl
        case w => exact all_nil
      refine all_cons ?_ ?_
      · refine' known_plain (st := K75.t12) inK atG ?a ?l ?c ?k K75.s12 K75.k12 rfl ?b ?w
        case a => k_is
        case l => k_is
        case c => k_is
        case k => k_is
        case b => exact fun us hl => match us, hl with | [v0], _ => rfl
        case w => exact all_nil
      refine all_cons ?_ ?_
      · refine' known_plain (st := K75.t13) inK atG ?a ?l ?c ?k K75.s13 K75.k13 rfl ?b ?w
        case a => k_is
        case l => k_is
        case c => k_is
        case k => k_is
        case b => exact fun us hl => match us, hl with | [v0], _ => rfl
        case w => exact all_nil
      refine all_cons ?_ ?_
      · refine' known_plain (st := K75.t14) inK atG ?a ?l ?c ?k K75.s14 K75.k14 rfl ?b ?w
        case a => k_is
        case l => k_is
        case c => k_is
        case k => k_is
        case b => exact fun us hl => match us, hl with | [v0], _ => rfl
        case w => exact all_nil
      refine all_cons ?_ ?_
      · refine' known_plain (st := K75.t15) inK atG ?a ?l ?c ?k K75.s15 K75.k15 rfl ?b ?w
        case a => k_is
        case l => k_is
        case c => k_is
        case k => k_is
        case b => exact fun us hl => match us, hl with | [v0], _ => rfl
        case w => exact all_nil
      refine all_cons ?_ ?_
      · refine' known_plain (st := K75.t16) inK atG ?a ?l ?c ?k K75.s16 K75.k16 rfl ?b ?w
        case a => k_is
        case l => k_is
        case c => k_is
        case k => k_is
        case b => exact fun us hl => match us, hl with | [v0, v1, v2], _ => rfl
        case w => exact all_nil
      refine all_cons ?_ ?_
      · refine' known_plain (st := K75.t17) inK atG ?a ?l ?c ?k K75.s17 K75.k17 rfl ?b ?w
        case a => k_is
        case l => k_is
        case c => k_is
        case k => k_is
        case b => exact fun us hl => match us, hl with | [v0], _ => rfl
        case w => exact all_nil
      refine all_cons ?_ ?_
      · refine' known_plain (st := K75.t18) inK atG ?a ?l ?c ?k K75.s18 K75.k18 rfl ?b ?w
        case a => k_is
        case l => k_is
        case c => k_is
        case k => k_is
        case b => exact fun us hl => match us, hl with | [v0], _ => rfl
        case w => exact all_nil
      refine all_cons ?_ ?_
      · refine' known_plain (st := K75.t19) inK atG ?a ?l ?c ?k K75.s19 K75.k19 rfl ?b ?w
        case a => k_is
        case l => k_is
        case c => k_is
        case k => k_is
        case b => exact fun us hl => match us, hl with | [v0], _ => rfl
        case w => exact (all_cons (fun ws vs hl e => match ws, hl, e with | [w0], _, e => by cases e; exact rfl) all_nil)
      refine all_cons ?_ ?_
      · refine' known_plain (st := K75.t20) inK atG ?a ?l ?c ?k K75.s20 K75.k20 rfl ?b ?w
        case a => k_is
        case l => k_is
        case c => k_is
        case k => k_is
        case b => exact fun us hl => match us, hl with | [v0], _ => rfl
        case w => exact (all_cons (fun ws vs hl e => match ws, hl, e with | [w0], _, e => by cases e; exact rfl) all_nil)
      refine all_cons ?_ ?_
      · refine' known_plain (st := K75.t21) inK atG ?a ?l ?c ?k K75.s21 K75.k21 rfl ?b ?w
        case a => k_is
        case l => k_is
        case c => k_is
        case k => k_is
        case b => exact fun us hl => match us, hl with | [v0], _ => rfl
        case w => exact all_nil
      refine all_cons ?_ ?_
      · refine' known_plain (st := K75.t22) inK atG ?a ?l ?c ?k K75.s22 K75.k22 rfl ?b ?w
        case a => k_is
        case l => k_is
        case c => k_is
        case k => k_is
        case b => exact fun us hl => match us, hl with | [v0, v1], _ => rfl
        case w => exact all_nil
      refine all_cons ?_ ?_
      · refine' known_plain (st := K75.t23) inK atG ?a ?l ?c ?k K75.s23 K75.k23 rfl ?b ?w
        case a => k_is
        case l => k_is
        case c => k_is
        case k => k_is
        case b => exact fun us hl => match us, hl with | [v0, v1], _ => rfl
        case w => exact all_nil
      refine all_cons ?_ ?_
      · refine' known_plain (st := K75.t24) inK atG ?a ?l ?c ?k K75.s24 K75.k24 rfl ?b ?w
        case a => k_is
        case l => k_is
        case c => k_is
        case k => k_is
        case b => exact fun us hl => match us, hl with | [v0, v1], _ => rfl
        case w => exact all_nil
      refine all_cons ?_ ?_
      · refine' known_plain (st := K75.t25) inK atG ?a ?l ?c ?k K75.s25 K75.k25 rfl ?b ?w
        case a => k_is
        case l => k_is
        case c => k_is
        case k => k_is
        case b => exact fun us hl => match us, hl with | [v0], _ => rfl
        case w => exact all_nil
      refine all_cons ?_ ?_
      · refine' known_plain (st := K75.t26) inK atG ?a ?l ?c ?k K75.s26 K75.k26 rfl ?b ?w
        case a => k_is
        case l => k_is
        case c => k_is
        case k => k_is
        case b => exact fun us hl => match us, hl with | [v0, v1, v2], _ => rfl
        case w => exact all_nil
      refine all_cons ?_ ?_
      · refine' known_plain (st := K75.t27) inK atG ?a ?l ?c ?k K75.s27 K75.k27 rfl ?b ?w
        case a => k_is
        case l => k_is
        case c => k_is
        case k => k_is
        case b => exact fun us hl => match us, hl with | [v0, v1], _ => rfl
        case w => exact all_nil
      refine all_cons ?_ ?_
      · refine' known_plain (st := K75.t28) inK atG ?a ?l ?c ?k K75.s28 K75.k28 rfl ?b ?w
        case a => k_is
        case l => k_is
        case c => k_is
        case k => k_is
        case b => exact fun us hl => match us, hl with | [v0], _ => rfl
        case w => exact all_nil
      refine all_cons ?_ ?_
      · refine' known_plain (st := K75.t29) inK atG ?a ?l ?c ?k K75.s29 K75.k29 rfl ?b ?w
        case a => k_is
        case l => k_is
        case c => k_is
        case k => k_is
        case b => exact fun us hl => match us, hl with | [v0], _ => rfl
        case w => exact all_nil
      refine all_cons ?_ ?_
      · refine' known_plain (st := K75.t30) inK atG ?a ?l ?c ?k K75.s30 K75.k30 rfl ?b ?w
        case a => k_is
        case l => k_is
        case c => k_is
        case k => k_is
        case b => exact fun us hl => match us, hl with | [v0], _ => rfl
        case w => exact all_nil
      exact all_nil
    case con =>
      refine all_cons ?_ ?_
      · refine' con_scal inK atG ?a ?e
        case a => k_is
        case e => exact rfl
      refine all_cons ?_ ?_
      · refine' con_scal inK atG ?a ?e
        case a => k_is
        case e => exact rfl
      refine all_cons ?_ ?_
      · refine' con_tup inK atG ?a ?l ?e ?z
        case a => k_is
        case l => k_is
        case e => exact rfl
        case z => exact rfl
      refine all_cons ?_ ?_
      · refine' con_scal inK atG ?a ?e
        case a => k_is
        case e => exact rfl
      refine all_cons ?_ ?_
      · refine' con_scal inK atG ?a ?e
        case a => k_is
        case e => exact rfl
      refine all_cons ?_ ?_
      · refine' con_tup inK atG ?a ?l ?e ?z
        case a => k_is
        case l => k_is
        case e => exact rfl
        case z => exact rfl
      refine all_cons ?_ ?_
      · refine' con_tup inK atG ?a ?l ?e ?z
        case a => k_is
        case l => k_is
        case e => exact rfl
        case z => exact rfl
      refine all_cons ?_ ?_
      · refine' con_tup inK atG ?a ?l ?e ?z
        case a => k_is
        case l => k_is
        case e => exact rfl
        case z => exact rfl
      refine all_cons ?_ ?_
      · refine' con_scal inK atG ?a ?e
        case a => k_is
        case e => exact rfl
      refine all_cons ?_ ?_
      · refine' con_tup inK atG ?a ?l ?e ?z
        case a => k_is
        case l => k_is
        case e => exact rfl
        case z => exact rfl
      refine all_cons ?_ ?_
      · refine' con_scal inK atG ?a ?e
        case a => k_is
        case e => exact rfl
      exact all_nil
    case bt =>
      refine all_cons (bt_none inK atG (by k_is)) ?_
      refine all_cons (bt_none inK atG (by k_is)) ?_
      refine all_cons (bt_none inK atG (by k_is)) ?_
      refine all_cons (bt_none inK atG (by k_is)) ?_
      refine all_cons (bt_none inK atG (by k_is)) ?_
      refine all_cons (bt_none inK atG (by k_is)) ?_
      refine all_cons (bt_none inK atG (by k_is)) ?_
      refine all_cons (bt_none inK atG (by k_is)) ?_
      refine all_cons (bt_none inK atG (by k_is)) ?_
      refine all_cons (bt_none inK atG (by k_is)) ?_
      refine all_cons (bt_none inK atG (by k_is)) ?_
      refine all_cons (bt_none inK atG (by k_is)) ?_
      refine all_cons (bt_none inK atG (by k_is)) ?_
      exact all_nil
end
