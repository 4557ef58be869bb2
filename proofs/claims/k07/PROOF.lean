import PyProof.Rows.All
import Wide.All
import OpenK.AllK
import Wide.FinOn
import HandS.ForMost
import HandS.TupAny
import HandS.NoneIn
import HandS.Style
import HandS.IsInst
import HandS.Wide
import HandS.Zip
import KE.KDictZip
import PySem.Challenge.RW_trudge_k07_whole_ups_and_downs_so_many_t
set_option Elab.async false
set_option linter.all false
set_option maxRecDepth 100000
/-! A small language of our own over data without addresses: syntax, meaning (a predicate transformer), and when it tells a text of Python. -/
namespace Tr
open PySem L2

/-! ### data -/
inductive D where
  | hole | non | bl (b : Bool) | int (i : Int) | str (s : Str)
  | tup (l : List D)
  /-- a list that nobody writes to any more -/
  | lst (l : List D)
  /-- a list that is held by one place alone -/
  | mu (l : List D)
  /-- the list that the law is handed -/
  | scr (l : List D)

inductive Cst where
  | non | bl (b : Bool) | int (i : Int) | str (s : Str)
@[reducible] def Cst.d : Cst → D
  | .non => .non | .bl b => .bl b | .int i => .int i | .str s => .str s
def Cst.k : Cst → Const
  | .non => .none | .bl b => .bool b | .int i => .int i | .str s => .str s

inductive Ty where | int | bool | str | tuple | list | dict
@[reducible] def Ty.name : Ty → String
  | .int => "int" | .bool => "bool" | .str => "str" | .tuple => "tuple" | .list => "list" | .dict => "dict"
/-- whether a datum is of a built-in class -/
@[reducible] def isTy : D → Ty → Bool
  | .bl _, .bool => true | .bl _, .int => true | .int _, .int => true | .str _, .str => true
  | .tup _, .tuple => true | .lst _, .list => true | .mu _, .list => true
  | _, _ => false
@[reducible] def tyd : D → Bool
  | .hole => false
  | .scr _ => false
  | _ => true

mutual
/-- nothing in it can be written to -/
@[reducible] def frz : D → Bool
  | .hole => false | .mu _ => false
  | .tup l => frzL l
  | .non => true | .bl _ => true | .int _ => true | .str _ => true | .lst _ => true | .scr _ => true
@[reducible] def frzL : List D → Bool
  | [] => true
  | d :: l => match frz d with
    | true => frzL l
    | false => false
end
mutual
def freeze : D → D
  | .mu l => .lst (freezeL l)
  | .tup l => .tup (freezeL l)
  | .hole => .hole | .non => .non | .bl b => .bl b | .int i => .int i | .str s => .str s | .lst l => .lst l | .scr l => .scr l
def freezeL : List D → List D
  | [] => []
  | d :: l => freeze d :: freezeL l
end
mutual
/-- as the library's data -/
def toPy : D → PyData
  | .hole => .none | .non => .none | .bl b => .bool b | .int i => .int i | .str s => .str s
  | .tup l => .tuple (toPyL l)
  | .lst l => .list (toPyL l)
  | .mu l => .list (toPyL l)
  | .scr l => .list (toPyL l)
def toPyL : List D → List PyData
  | [] => []
  | d :: l => toPy d :: toPyL l
end
mutual
/-- no holes -/
def nohole : D → Bool
  | .hole => false | .scr _ => false | .non => true | .bl _ => true | .int _ => true | .str _ => true
  | .tup l => noholeL l | .lst l => noholeL l | .mu l => noholeL l
def noholeL : List D → Bool
  | [] => true
  | d :: l => nohole d && noholeL l
end

/-! ### environments -/
abbrev Env := List (Option D)
abbrev Sem := Nat → List D → (D → List D → Prop) → Prop
@[reducible] def getK : Option D → (D → Prop) → Prop
  | some d, k => k d
  | none, _ => False
@[reducible] def gE : Env → Nat → Option D
  | [], _ => none
  | x :: _, 0 => x
  | _ :: r, n + 1 => gE r n
@[reducible] def setK : Env → Nat → Option D → (Env → Prop) → Prop
  | [], _, _, k => k []
  | _ :: r, 0, d, k => k (d :: r)
  | x :: r, n + 1, d, k => setK r n d fun r' => k (x :: r')
@[reducible] def nth : List D → Nat → Option D
  | [], _ => none
  | x :: _, 0 => some x
  | _ :: r, n + 1 => nth r n
@[reducible] def lsetK : List D → Nat → D → (List D → Prop) → Prop
  | [], _, _, _ => False
  | _ :: r, 0, d, k => k (d :: r)
  | x :: r, n + 1, d, k => lsetK r n d fun r' => k (x :: r')
/-- a Bool that decides -/
inductive br (b : Bool) (A B : Prop) : Prop where
  | mk (h1 : b = true → A) (h2 : b = false → B)
@[reducible] def orB : Bool → Bool → Bool
  | true, _ => true
  | false, b => b
@[reducible] def notB : Bool → Bool
  | true => false
  | false => true
theorem orB_eq (a b : Bool) : orB a b = (a || b) := by cases a <;> rfl
/-- only where b -/
@[reducible] def gK : Bool → Prop → Prop
  | true, A => A
  | false, _ => False
@[reducible] def blK : D → (Bool → Prop) → Prop
  | .bl b, k => k b
  | _, _ => False
@[reducible] def intK : D → (Int → Prop) → Prop
  | .int i, k => k i
  | _, _ => False
/-- the value handed on: what could be written to is frozen -/
@[reducible] def fzK : D → (D → Prop) → Prop
  | .mu l, k => match frzL l with
    | true => k (.lst l)
    | false => k (.lst (freezeL l))
  | .tup l, k => match frzL l with
    | true => k (.tup l)
    | false => k (.tup (freezeL l))
  | .hole, _ => False
  | .non, k => k .non | .bl b, k => k (.bl b) | .int i, k => k (.int i) | .str s, k => k (.str s) | .lst l, k => k (.lst l) | .scr l, k => k (.scr l)
/-- a name's value handed on -/
@[reducible] def varK (i : Nat) (ρ : Env) : D → (D → Env → Prop) → Prop
  | .mu l, k => match frzL l with
    | true => setK ρ i (some (.lst l)) fun ρ' => k (.lst l) ρ'
    | false => setK ρ i (some (.lst (freezeL l))) fun ρ' => k (.lst (freezeL l)) ρ'
  | .tup l, k => match frzL l with
    | true => k (.tup l) ρ
    | false => setK ρ i (some (.tup (freezeL l))) fun ρ' => k (.tup (freezeL l)) ρ'
  | .hole, _ => False
  | .non, k => k .non ρ | .bl b, k => k (.bl b) ρ | .int i, k => k (.int i) ρ | .str s, k => k (.str s) ρ | .lst l, k => k (.lst l) ρ | .scr l, k => k (.scr l) ρ
/-- items that may be shared -/
@[reducible] def seqK : D → (List D → Prop) → Prop
  | .lst l, k => k l
  | .mu l, k => match frzL l with
    | true => k l
    | false => False
  | .tup l, k => match frzL l with
    | true => k l
    | false => False
  | _, _ => False
@[reducible] def lstK : D → (List D → Prop) → Prop
  | .lst l, k => k l
  | .mu l, k => match frzL l with
    | true => k l
    | false => False
  | _, _ => False
@[reducible] def fldK : D → Nat → (D → Prop) → Prop
  | .tup l, n, k => getK (nth l n) k
  | .lst l, n, k => getK (nth l n) k
  | .mu l, n, k => getK (nth l n) k
  | _, _, _ => False
@[reducible] def idxK : D → D → (D → Prop) → Prop
  | .tup l, .int i, k => getK (atI l i) k
  | .lst l, .int i, k => getK (atI l i) k
  | .mu l, .int i, k => getK (atI l i) k
  | _, _, _ => False
@[reducible] def lenK : D → (Nat → Prop) → Prop
  | .tup l, k => k l.length
  | .lst l, k => k l.length
  | .mu l, k => k l.length
  | .str s, k => s.length ≤ sizeLine ∧ k s.length
  | _, _ => False

/-! ### operators -/
inductive Op where | add | sub | mul | fdiv | mod | pow | shl | shr | band | bor
def Op.py : Op → Operator
  | .add => .Add | .sub => .Sub | .mul => .Mult | .fdiv => .FloorDiv | .mod => .Mod | .pow => .Pow | .shl => .LShift | .shr => .RShift | .band => .BitAnd | .bor => .BitOr
/-- small enough for a product, a quotient -/
def Small (i : Int) : Prop := i.natAbs < 2 ^ 4000
@[reducible] def opK : Op → D → D → (D → Prop) → Prop
  | .add, .int i, .int j, k => k (.int (i + j))
  | .add, .str x, .str y, k => x.length + y.length ≤ sizeLine ∧ k (.str (x ++ y))
  | .add, .tup l, .tup m, k => match frzL l, frzL m with
    | true, true => l.length + m.length ≤ sizeLine ∧ k (.tup (l ++ m))
    | _, _ => False
  | .add, x, y, k => lstK x fun l => lstK y fun m => l.length + m.length ≤ sizeLine ∧ k (.mu (l ++ m))
  | .sub, .int i, .int j, k => k (.int (i - j))
  | .mul, .int i, .int j, k => Small i ∧ Small j ∧ k (.int (i * j))
  | .mul, .lst l, .int j, k => -(2 ^ 63) ≤ j ∧ j < 2 ^ 63 ∧ l.length * j.toNat ≤ sizeLine ∧ k (.mu (List.replicate j.toNat l).flatten)
  | .mul, .mu l, .int j, k => match frzL l with
    | true => -(2 ^ 63) ≤ j ∧ j < 2 ^ 63 ∧ l.length * j.toNat ≤ sizeLine ∧ k (.mu (List.replicate j.toNat l).flatten)
    | false => False
  | .fdiv, .int i, .int j, k => 0 < j ∧ Small j ∧ k (.int (i / j))
  | .mod, .int i, .int j, k => 0 < j ∧ k (.int (i % j))
  | .pow, .int i, .int j, k => 0 ≤ j ∧ j ≤ 1000 ∧ i.natAbs < 2 ^ 64 ∧ k (.int (i ^ j.toNat))
  | .shl, .int i, .int j, k => 0 ≤ j ∧ j ≤ 1000 ∧ i.natAbs < 2 ^ 64 ∧ k (.int (i * 2 ^ j.toNat))
  | .shr, .int i, .int j, k => 0 ≤ j ∧ k (.int (i / 2 ^ j.toNat))
  | .band, .int i, .int j, k => k (.int (Builtin.bitAnd i j))
  | .bor, .int i, .int j, k => k (.int (Builtin.bitOr i j))
  | _, _, _, _ => False

inductive Cop where | eq | ne | lt | le | gt | ge | is | isnot | isin | notin
def Cop.py : Cop → CmpOp
  | .eq => .Eq | .ne => .NotEq | .lt => .Lt | .le => .LtE | .gt => .Gt | .ge => .GtE | .is => .Is | .isnot => .IsNot | .isin => .In | .notin => .NotIn
@[reducible] def isN : D → Bool
  | .non => true
  | _ => false
/-- == -/
@[reducible] def eqK : D → D → (Bool → Prop) → Prop
  | .int i, .int j, k => k (decide (i = j))
  | .str x, .str y, k => k (decide (x = y))
  | .bl x, .bl y, k => k (decide (x = y))
  | .non, .non, k => k true
  | .non, .int _, k => k false | .int _, .non, k => k false
  | .int _, .str _, k => k false | .str _, .int _, k => k false
  | .non, .str _, k => k false | .str _, .non, k => k false
  | x, y, k => nohole x = true ∧ nohole y = true ∧ SeqAt.shaped (toPy x) = true ∧ SeqAt.shaped (toPy y) = true ∧ k (PyData.eqv (toPy x) (toPy y))
/-- no object -/
@[reducible] def flat : D → Bool
  | .non => true | .bl _ => true | .int _ => true | .str _ => true
  | _ => false
/-- == of flat data -/
@[reducible] def eqF : D → D → Bool
  | .non, .non => true
  | .bl a, .bl b => a == b
  | .bl a, .int b => (if a then 1 else 0) == b
  | .int a, .bl b => a == (if b then 1 else 0)
  | .int a, .int b => a == b
  | .str a, .str b => a == b
  | _, _ => false
def inF (x : D) (l : List D) : Bool := l.any fun y => eqF y x
@[reducible] def memK : D → D → (Bool → Prop) → Prop
  | .str x, .str y, k => k (!(Builtin.Str.occurrences y x 0 y.length 1).isEmpty)
  | x, .lst l, k => flat x = true ∧ l.all flat = true ∧ k (inF x l)
  | x, .mu l, k => flat x = true ∧ l.all flat = true ∧ k (inF x l)
  | x, .tup l, k => flat x = true ∧ l.all flat = true ∧ k (inF x l)
  | _, _, _ => False
@[reducible] def copK : Cop → D → D → (Bool → Prop) → Prop
  | .lt, .int i, .int j, k => k (decide (i < j))
  | .le, .int i, .int j, k => k (decide (i ≤ j))
  | .gt, .int i, .int j, k => k (decide (j < i))
  | .ge, .int i, .int j, k => k (decide (j ≤ i))
  | .is, x, .non, k => tyd x = true ∧ k (isN x)
  | .isnot, x, .non, k => tyd x = true ∧ k (!isN x)
  | .is, .bl x, .bl y, k => k (decide (x = y))
  | .isnot, .bl x, .bl y, k => k (!decide (x = y))
  | .eq, x, y, k => eqK x y k
  | .ne, x, y, k => eqK x y fun b => k (!b)
  | .isin, x, y, k => memK x y k
  | .notin, x, y, k => memK x y fun b => k (!b)
  | _, _, _, _ => False

/-! ### built-in functions, by values -/
inductive Bi where | len | int | abs | max | min | sum | list | sorted | any | all | str
def Bi.name : Bi → Str
  | .len => "len" | .int => "int" | .abs => "abs" | .max => "max" | .min => "min" | .sum => "sum" | .list => "list" | .sorted => "sorted" | .any => "any" | .all => "all" | .str => "str"
/-- ints alone -/
@[reducible] def intsK : List D → (List Int → Prop) → Prop
  | [], k => k []
  | .int i :: r, k => intsK r fun l => k (i :: l)
  | _, _ => False
def IsInts (l : List D) (ns : List Int) : Prop := l = ns.map D.int
def IsBls (l : List D) (bs : List Bool) : Prop := l = bs.map D.bl
@[reducible] def biK : Bi → List D → (D → Prop) → Prop
  | .len, [x], k => lenK x fun n => k (.int (n : Int))
  | .int, [.int i], k => k (.int i)
  | .int, [.bl b], k => k (.int (if b = true then 1 else 0))
  | .abs, [.int i], k => k (.int (if i < 0 then -i else i))
  | .max, [.int i, .int j], k => k (.int (if j > i then j else i))
  | .min, [.int i, .int j], k => k (.int (if j < i then j else i))
  | .max, [x], k => lstK x fun l => ∃ ns, IsInts l ns ∧ 0 < ns.length ∧ ∀ m, m ∈ ns → (∀ y, y ∈ ns → y ≤ m) → k (.int m)
  | .min, [x], k => lstK x fun l => ∃ ns, IsInts l ns ∧ 0 < ns.length ∧ ∀ m, m ∈ ns → (∀ y, y ∈ ns → m ≤ y) → k (.int m)
  | .sum, [x], k => lstK x fun l => ∃ ns, IsInts l ns ∧ k (.int ns.sum)
  | .any, [x], k => lstK x fun l => ∃ bs, IsBls l bs ∧ k (.bl (bs.any id))
  | .all, [x], k => lstK x fun l => ∃ bs, IsBls l bs ∧ k (.bl (bs.all id))
  | .list, [x], k => seqK x fun l => k (.mu l)
  | .sorted, [x], k => lstK x fun l => ∃ ns, IsInts l ns ∧ ns.length < 64 ∧ ∀ ns' : List Int, ns'.Perm ns → ns'.Pairwise (· ≤ ·) → k (.mu (ns'.map D.int))
  | .str, [.int i], k => i.natAbs.log2 < 1920 ∧ k (.str (toString i))
  | _, _, _ => False

/-! ### syntax -/
inductive Tg where
  | nm (i : Nat)
  | tup (ts : List Tg)
mutual
inductive E where
  | cst (c : Cst)
  | glob (x : Str) (c : Cst)
  | var (i : Nat)
  | bin (o : Op) (a b : E)
  | neg (a : E)
  | not (a : E) | and (a b : E) | or (a b : E)
  | ite (c a b : E)
  | cmp (o : Cop) (a b : E)
  | chain (o o' : Cop) (a b c : E)
  | fld (a : E) (n : Nat) | last (a : E) | idx (a i : E)
  | slice (a : E) (lo hi : EO) | rev (a : E)
  | tup (es : Es) | lst (es : Es)
  | call (f : Nat) (as : As)
  | bi (b : Bi) (es : Es)
  | isi (a : E) (ty : Ty) | isi2 (a : E) (t u : Ty)
  | index (a b : E)
  | comp (own : List Nat) (t : Tg) (s : Src) (c : EO) (e : E)
  | zipl (a b : E)
  /-- no text of its own: a value that nobody writes to any more -/
  | frz (a : E)
inductive EO where | none | some (e : E)
inductive Es where | nil | cons (e : E) (es : Es)
inductive As where | nil | val (e : E) (r : As) | ref (i : Nat) (r : As)
inductive Src where | list (e : E) | range1 (e : E) | range2 (a b : E) | rangeDown (a b : E) | enum (e : E) | zip (a b : E)
end
mutual
inductive S where
  | asg (i : Nat) (e : E)
  | asgT (ts : List Tg) (e : E)
  | unl (ts : List Tg) (e : E)
  | par2 (i j : Nat) (a b : E) | par3 (i j l : Nat) (a b c : E)
  | setF (i : Nat) (n : Nat) (e : E) | setI (i : Nat) (ix e : E)
  | augF (i : Nat) (n : Nat) (e : E)
  | aug (i : Nat) (e : E)
  | app (i : Nat) (e : E) | ext (i : Nat) (e : E)
  | expr (e : E)
  | iff (c : E) (a b : Ss)
  | whl (c : E) (b : Ss)
  | for_ (t : Tg) (s : Src) (b : Ss)
  | brk | cont | pass
  | ret (e : E)
  | never
inductive Ss where | nil | cons (s : S) (ss : Ss)
end
structure Fn where
  /-- the parameters' number -/
  np : Nat
  /-- the names' number -/
  nn : Nat
  /-- the parameters that are written to -/
  io : List Nat
  /-- a list that is handed back may be written to -/
  own : Bool
  body : Ss

/-! ### meaning -/
@[reducible] def isPath : E → Bool
  | .var _ => true
  | .fld a _ => isPath a
  | .last a => isPath a
  | .idx a _ => isPath a
  | _ => false
/-- nothing is written, nothing handed on -/
@[reducible] def pure? : E → Bool
  | .cst _ => true | .glob _ _ => true | .var _ => true
  | .bin _ a b => match pure? a with | true => pure? b | false => false
  | .neg a => pure? a
  | .cmp _ a b => match pure? a with | true => pure? b | false => false
  | .fld a _ => pure? a | .last a => pure? a
  | .idx a b => match pure? a with | true => pure? b | false => false
  | .bi _ (.cons a .nil) => pure? a
  | _ => false
/-- what was looked at stays as it is -/
@[reducible] def stays (b : E) (x : D) : Bool := match pure? b with
  | true => true
  | false => frz x
@[reducible] def pureO : EO → Bool
  | .none => true
  | .some e => pure? e
@[reducible] def staysO (lo hi : EO) (x : D) : Bool := match pureO lo with
  | true => match pureO hi with
    | true => true
    | false => frz x
  | false => frz x
@[reducible] def isVar : E → Option Nat
  | .var i => some i
  | _ => none
/-- a value to keep, from the meaning r of e -/
@[reducible] def toV (e : E) (r : Env → (D → Env → Prop) → Prop) (ρ : Env) (k : D → Env → Prop) : Prop :=
  match isVar e with
  | some i => getK (gE ρ i) fun d => varK i ρ d k
  | none => match isPath e with
    | true => r ρ fun d ρ' => gK (frz d) (k d ρ')
    | false => r ρ k
inductive AV where | val (d : D) | ref (i : Nat)
@[reducible] def takeK : List AV → Env → (List D → Env → Prop) → Prop
  | [], ρ, k => k [] ρ
  | .val d :: r, ρ, k => takeK r ρ fun ds ρ' => k (d :: ds) ρ'
  | .ref i :: r, ρ, k => getK (gE ρ i) fun d => setK ρ i none fun ρ1 => takeK r ρ1 fun ds ρ' => k (d :: ds) ρ'
@[reducible] def putK : List AV → List D → Env → (Env → Prop) → Prop
  | [], [], ρ, k => k ρ
  | .val _ :: r, ds, ρ, k => putK r ds ρ k
  | .ref i :: r, d :: ds, ρ, k => setK ρ i (some d) fun ρ1 => putK r ds ρ1 k
  | _, _, _, _ => False
@[reducible] def sameLen : List Tg → List D → Bool
  | [], [] => true
  | _ :: ts, _ :: ds => sameLen ts ds
  | _, _ => false
mutual
@[reducible] def bindK : Tg → D → Env → (Env → Prop) → Prop
  | .nm i, d, ρ, k => setK ρ i (some d) k
  | .tup ts, d, ρ, k => match d with
    | .tup l => gK (sameLen ts l) (bindKs ts l ρ k)
    | _ => False
@[reducible] def bindKs : List Tg → List D → Env → (Env → Prop) → Prop
  | [], [], ρ, k => k ρ
  | t :: ts, d :: ds, ρ, k => bindK t d ρ fun ρ1 => bindKs ts ds ρ1 k
  | _, _, _, _ => False
end
@[reducible] def wipeK : List Nat → Env → (Env → Prop) → Prop
  | [], ρ, k => k ρ
  | i :: r, ρ, k => setK ρ i none fun ρ1 => wipeK r ρ1 k
/-- the old values of some names, put back -/
@[reducible] def backK : List Nat → Env → Env → (Env → Prop) → Prop
  | [], _, ρ, k => k ρ
  | i :: r, ρ0, ρ, k => setK ρ i (gE ρ0 i) fun ρ1 => backK r ρ0 ρ1 k
def compL (own : List Nat) (bind : D → Env → (Env → Prop) → Prop) (cond : Env → (Bool → Env → Prop) → Prop) (elt : Env → (D → Env → Prop) → Prop) : List D → Env → List D → (List D → Env → Prop) → Prop
  | [], ρ, acc, k => k acc ρ
  | d :: l, ρ, acc, k => bind d ρ fun ρ1 => cond ρ1 fun b ρ2 => br b
      (elt ρ2 fun y ρ3 => acc.length < sizeLine ∧ wipeK own ρ3 fun ρ4 => compL own bind cond elt l ρ4 (acc ++ [y]) k)
      (wipeK own ρ2 fun ρ4 => compL own bind cond elt l ρ4 acc k)
def rangeL (i : Int) : Nat → List D
  | 0 => []
  | n + 1 => .int i :: rangeL (i + 1) n
def rangeDn (i : Int) : Nat → List D
  | 0 => []
  | n + 1 => .int i :: rangeDn (i - 1) n
def enumL (i : Int) : List D → List D
  | [] => []
  | d :: l => .tup [.int i, d] :: enumL (i + 1) l
def zipL : List D → List D → List D
  | d :: l, e :: m => .tup [d, e] :: zipL l m
  | _, _ => []
@[reducible] def sameKd : D → D → Bool
  | .lst _, .lst _ => true
  | .tup _, .tup _ => true
  | _, _ => false
/-- a written tuple's items that stand alone -/
@[reducible] def cutK : D → Option Int → Option Int → (D → Prop) → Prop
  | .tup l, lo, hi, k => match frzL l with
    | true => k (.tup ((l.drop (HT.sIx l.length 0 lo)).take (HT.sIx l.length l.length hi - HT.sIx l.length 0 lo)))
    | false => False
  | .scr l, lo, hi, k => k (.mu ((l.drop (HT.sIx l.length 0 lo)).take (HT.sIx l.length l.length hi - HT.sIx l.length 0 lo)))
  | x, lo, hi, k => lstK x fun l => k (.mu ((l.drop (HT.sIx l.length 0 lo)).take (HT.sIx l.length l.length hi - HT.sIx l.length 0 lo)))
@[reducible] def Rg (i : Int) : Prop := -(2 ^ 62) ≤ i ∧ i < 2 ^ 62
mutual
@[reducible] def evE (C : Sem) : E → Env → (D → Env → Prop) → Prop
  | .cst c, ρ, k => k c.d ρ
  | .glob _ c, ρ, k => k c.d ρ
  | .var i, ρ, k => getK (gE ρ i) fun d => k d ρ
  | .bin o a b, ρ, k => evE C a ρ fun x ρ1 => gK (stays b x) (evE C b ρ1 fun y ρ2 => opK o x y fun z => k z ρ2)
  | .neg a, ρ, k => evE C a ρ fun x ρ1 => intK x fun i => k (.int (-i)) ρ1
  | .not a, ρ, k => evE C a ρ fun x ρ1 => blK x fun b => k (.bl (!b)) ρ1
  | .and a b, ρ, k => evE C a ρ fun x ρ1 => blK x fun c => br c (evE C b ρ1 fun y ρ2 => blK y fun c' => k (.bl c') ρ2) (k (.bl false) ρ1)
  | .or a b, ρ, k => evE C a ρ fun x ρ1 => blK x fun c => br c (k (.bl true) ρ1) (evE C b ρ1 fun y ρ2 => blK y fun c' => k (.bl c') ρ2)
  | .ite c a b, ρ, k => evE C c ρ fun x ρ1 => blK x fun t => br t (toV a (evE C a) ρ1 k) (toV b (evE C b) ρ1 k)
  | .cmp o a b, ρ, k => evE C a ρ fun x ρ1 => gK (stays b x) (evE C b ρ1 fun y ρ2 => copK o x y fun z => k (.bl z) ρ2)
  | .chain o o' a b c, ρ, k => evE C a ρ fun x ρ1 => intK x fun i => evE C b ρ1 fun y ρ2 => intK y fun j => copK o (.int i) (.int j) fun z =>
      br z (evE C c ρ2 fun w ρ3 => intK w fun l => copK o' (.int j) (.int l) fun z' => k (.bl z') ρ3) (k (.bl false) ρ2)
  | .fld a n, ρ, k => evE C a ρ fun x ρ1 => fldK x n fun z => gK (orB (isPath a) (frz z)) (k z ρ1)
  | .last a, ρ, k => evE C a ρ fun x ρ1 => idxK x (.int (-1)) fun z => gK (orB (isPath a) (frz z)) (k z ρ1)
  | .idx a i, ρ, k => evE C a ρ fun x ρ1 => gK (stays i x) (evE C i ρ1 fun y ρ2 => idxK x y fun z => gK (orB (isPath a) (frz z)) (k z ρ2))
  | .slice a lo hi, ρ, k => evE C a ρ fun x ρ1 => gK (staysO lo hi x) (evEO C lo ρ1 fun l ρ2 => evEO C hi ρ2 fun h ρ3 => cutK x l h fun z => k z ρ3)
  | .rev a, ρ, k => evE C a ρ fun x ρ1 => lstK x fun l => k (.mu l.reverse) ρ1
  | .tup es, ρ, k => evEs C es ρ fun ds ρ1 => k (.tup ds) ρ1
  | .lst es, ρ, k => evEs C es ρ fun ds ρ1 => k (.mu ds) ρ1
  | .call f as, ρ, k => evAs C as ρ fun avs ρ1 => takeK avs ρ1 fun ds ρ2 => C f ds fun r outs => putK avs outs ρ2 fun ρ3 => k r ρ3
  | .bi b es, ρ, k => evLs C es ρ fun ds ρ1 => biK b ds fun z => k z ρ1
  | .isi a t, ρ, k => evE C a ρ fun x ρ1 => tyd x = true ∧ k (.bl (isTy x t)) ρ1
  | .isi2 a t u, ρ, k => evE C a ρ fun x ρ1 => tyd x = true ∧ k (.bl (orB (isTy x t) (isTy x u))) ρ1
  | .index a b, ρ, k => evE C a ρ fun x ρ1 => gK (isTy x .list) (gK (stays b x) (evE C b ρ1 fun y ρ2 => lstK x fun l => flat y = true ∧ l.all flat = true ∧ ∃ (j : Nat) (z : D), l[j]? = some z ∧ eqF z y = true ∧ (∀ (i : Nat) (z' : D), i < j → l[i]? = some z' → eqF z' y = false) ∧ k (.int (j : Int)) ρ2))
  | .comp own t s c e, ρ, k => evSrc C s ρ fun items ρ1 => wipeK own ρ1 fun ρ2 =>
      compL own (bindK t) (fun ρ' kb => evCond C c ρ' kb) (toV e (evE C e)) items ρ2 [] fun l ρ3 => backK own ρ1 ρ3 fun ρ4 => k (.mu l) ρ4
  | .frz a, ρ, k => toV a (evE C a) ρ fun x ρ1 => fzK x fun x' => k x' ρ1
  | .zipl a b, ρ, k => toV a (evE C a) ρ fun x ρ1 => toV b (evE C b) ρ1 fun y ρ2 => fzK x fun x' => fzK y fun y' => gK (sameKd x' y') (seqK x' fun l => seqK y' fun m => k (.mu (zipL l m)) ρ2)
@[reducible] def evEO (C : Sem) : EO → Env → (Option Int → Env → Prop) → Prop
  | .none, ρ, k => k none ρ
  | .some e, ρ, k => evE C e ρ fun d ρ1 => intK d fun i => k (some i) ρ1
@[reducible] def evCond (C : Sem) : EO → Env → (Bool → Env → Prop) → Prop
  | .none, ρ, k => k true ρ
  | .some e, ρ, k => evE C e ρ fun d ρ1 => blK d fun b => k b ρ1
@[reducible] def evEs (C : Sem) : Es → Env → (List D → Env → Prop) → Prop
  | .nil, ρ, k => k [] ρ
  | .cons e es, ρ, k => toV e (evE C e) ρ fun d ρ1 => evEs C es ρ1 fun ds ρ2 => k (d :: ds) ρ2
/-- looked at, one behind the other -/
@[reducible] def evLs (C : Sem) : Es → Env → (List D → Env → Prop) → Prop
  | .nil, ρ, k => k [] ρ
  | .cons e .nil, ρ, k => evE C e ρ fun d ρ1 => k [d] ρ1
  | .cons e es, ρ, k => evE C e ρ fun d ρ1 => gK (frz d) (evLs C es ρ1 fun ds ρ2 => k (d :: ds) ρ2)
@[reducible] def evAs (C : Sem) : As → Env → (List AV → Env → Prop) → Prop
  | .nil, ρ, k => k [] ρ
  | .val e r, ρ, k => toV e (evE C e) ρ fun d ρ1 => fzK d fun d' => evAs C r ρ1 fun l ρ2 => k (.val d' :: l) ρ2
  | .ref i r, ρ, k => getK (gE ρ i) fun _ => evAs C r ρ fun l ρ2 => k (.ref i :: l) ρ2
@[reducible] def evSrc (C : Sem) : Src → Env → (List D → Env → Prop) → Prop
  | .list e, ρ, k => toV e (evE C e) ρ fun x ρ1 => fzK x fun x' => seqK x' fun l => k l ρ1
  | .range1 e, ρ, k => evE C e ρ fun x ρ1 => intK x fun i => Rg i ∧ k (rangeL 0 i.toNat) ρ1
  | .range2 a b, ρ, k => evE C a ρ fun x ρ1 => intK x fun i => evE C b ρ1 fun y ρ2 => intK y fun j => Rg i ∧ Rg j ∧ k (rangeL i (j - i).toNat) ρ2
  | .rangeDown a b, ρ, k => evE C a ρ fun x ρ1 => intK x fun i => evE C b ρ1 fun y ρ2 => intK y fun j => Rg i ∧ Rg j ∧ k (rangeDn i (i - j).toNat) ρ2
  | .enum e, ρ, k => toV e (evE C e) ρ fun x ρ1 => fzK x fun x' => lstK x' fun l => k (enumL 0 l) ρ1
  | .zip a b, ρ, k => toV a (evE C a) ρ fun x ρ1 => fzK x fun x' => toV b (evE C b) ρ1 fun y ρ2 => fzK y fun y' => lstK x' fun l => lstK y' fun m => k (zipL l m) ρ2
end
structure K where
  nx : Env → Prop
  rt : D → Env → Prop
  bk : Env → Prop
  ct : Env → Prop
def forL (bind : D → Env → (Env → Prop) → Prop) (body : Env → K → Prop) : List D → Env → K → Prop
  | [], ρ, k => k.nx ρ
  | d :: l, ρ, k => bind d ρ fun ρ1 => body ρ1 { nx := fun ρ2 => forL bind body l ρ2 k, ct := fun ρ2 => forL bind body l ρ2 k, bk := k.nx, rt := k.rt }
def whlN (cond : Env → (D → Env → Prop) → Prop) (body : Env → K → Prop) : Nat → Env → K → Prop
  | 0, _, _ => False
  | n + 1, ρ, k => cond ρ fun d ρ1 => blK d fun b => br b (body ρ1 { nx := fun ρ2 => whlN cond body n ρ2 k, ct := fun ρ2 => whlN cond body n ρ2 k, bk := k.nx, rt := k.rt }) (k.nx ρ1)
def whlK (cond : Env → (D → Env → Prop) → Prop) (body : Env → K → Prop) (ρ : Env) (k : K) : Prop := ∃ n, whlN cond body n ρ k
@[reducible] def mutK : Option D → (List D → Prop) → Prop
  | some (.mu l), k => k l
  | _, _ => False
mutual
@[reducible] def evS (C : Sem) : S → Env → K → Prop
  | .asg i e, ρ, k => toV e (evE C e) ρ fun d ρ1 => setK ρ1 i (some d) k.nx
  | .asgT ts e, ρ, k => toV e (evE C e) ρ fun d ρ1 => bindK (.tup ts) d ρ1 k.nx
  | .unl ts e, ρ, k => toV e (evE C e) ρ fun d ρ1 => match d with
    | .mu l => gK (sameLen ts l) (bindKs ts l ρ1 k.nx)
    | .lst l => gK (sameLen ts l) (bindKs ts l ρ1 k.nx)
    | _ => False
  | .par2 i j a b, ρ, k => toV a (evE C a) ρ fun x ρ1 => toV b (evE C b) ρ1 fun y ρ2 => setK ρ2 i (some x) fun ρ3 => setK ρ3 j (some y) k.nx
  | .par3 i j l a b c, ρ, k => toV a (evE C a) ρ fun x ρ1 => toV b (evE C b) ρ1 fun y ρ2 => toV c (evE C c) ρ2 fun z ρ3 => setK ρ3 i (some x) fun ρ4 => setK ρ4 j (some y) fun ρ5 => setK ρ5 l (some z) k.nx
  | .setF i n e, ρ, k => toV e (evE C e) ρ fun d ρ1 => mutK (gE ρ1 i) fun l => lsetK l n d fun l' => setK ρ1 i (some (.mu l')) k.nx
  | .setI i ix e, ρ, k => toV e (evE C e) ρ fun d ρ1 => mutK (gE ρ1 i) fun _ => evE C ix ρ1 fun y ρ2 => intK y fun z => mutK (gE ρ2 i) fun l => match ixN l.length z with
    | some j => setK ρ2 i (some (.mu (l.set j d))) k.nx
    | none => False
  | .augF i n e, ρ, k => mutK (gE ρ i) fun l => getK (nth l n) fun x => intK x fun a => evE C e ρ fun y ρ1 => intK y fun b => mutK (gE ρ1 i) fun l' => lsetK l' n (.int (a + b)) fun l'' => setK ρ1 i (some (.mu l'')) k.nx
  | .aug i e, ρ, k => getK (gE ρ i) fun x => intK x fun a => evE C e ρ fun y ρ1 => intK y fun b => setK ρ1 i (some (.int (a + b))) k.nx
  | .app i e, ρ, k => mutK (gE ρ i) fun _ => toV e (evE C e) ρ fun d ρ1 => mutK (gE ρ1 i) fun l => l.length < sizeLine ∧ setK ρ1 i (some (.mu (l ++ [d]))) k.nx
  | .ext i e, ρ, k => mutK (gE ρ i) fun _ => evE C e ρ fun d ρ1 => gK (notB (isPath e)) (mutK (some d) fun m => mutK (gE ρ1 i) fun l => l.length + m.length ≤ sizeLine ∧ setK ρ1 i (some (.mu (l ++ m))) k.nx)
  | .expr e, ρ, k => evE C e ρ fun _ ρ1 => k.nx ρ1
  | .iff c a b, ρ, k => evE C c ρ fun d ρ1 => blK d fun t => br t (evSs C a ρ1 k) (evSs C b ρ1 k)
  | .whl c b, ρ, k => whlK (evE C c) (evSs C b) ρ k
  | .for_ t s b, ρ, k => evSrc C s ρ fun items ρ1 => forL (bindK t) (evSs C b) items ρ1 k
  | .brk, ρ, k => k.bk ρ
  | .cont, ρ, k => k.ct ρ
  | .pass, ρ, k => k.nx ρ
  | .ret e, ρ, k => toV e (evE C e) ρ k.rt
  | .never, _, _ => False
@[reducible] def evSs (C : Sem) : Ss → Env → K → Prop
  | .nil, ρ, k => k.nx ρ
  | .cons s ss, ρ, k => evS C s ρ { nx := fun ρ1 => evSs C ss ρ1 k, rt := k.rt, bk := k.bk, ct := k.ct }
end
@[reducible] def outK : List Nat → Env → (List D → Prop) → Prop
  | [], _, k => k []
  | i :: r, ρ, k => getK (gE ρ i) fun d => outK r ρ fun ds => k (d :: ds)
/-- a call of a def -/
@[reducible] def evF (C : Sem) (fn : Fn) (ds : List D) (k : D → List D → Prop) : Prop :=
  ds.length = fn.np ∧ evSs C fn.body (ds.map some ++ List.replicate (fn.nn - ds.length) none)
    { nx := fun ρ => outK fn.io ρ fun outs => k .non outs,
      rt := fun d ρ => match fn.own with
        | true => outK fn.io ρ fun outs => k d outs
        | false => fzK d fun d' => outK fn.io ρ fun outs => k d' outs,
      bk := fun _ => False, ct := fun _ => False }
def semN (tbl : List Fn) : Nat → Sem
  | 0 => fun _ _ _ => False
  | n + 1 => fun f ds k => match tbl[f]? with
    | some fn => evF (semN tbl n) fn ds k
    | none => False
end Tr

set_option maxRecDepth 100000
set_option maxHeartbeats 4000000
/-! How data lies in the abstract heap; what a step may change. -/
namespace Tr
open PySem PySem.Spec PyProof.Rows L2

/-! ### data in a heap -/
/-- a list, a tuple that is not written to -/
def LsOk (H : Hp) (Ow : Addr → Prop) (a : Addr) (xs : List V) : Prop := H a = some (.lst xs) ∧ ¬ Ow a
def ScOk (K : PySem.W.Frag) (H : Hp) (Ow : Addr → Prop) (a : Addr) (xs : List V) : Prop := (Rd H a (.lst xs) ∧ ¬ Ow a) ∨
  ∃ (o : Obj) (its : Array Value) (n : Nat), K.lookup a = some o ∧ o.cls = .type "list" ∧ o.dict = none ∧ o.data = .seq its n ∧ its.size ≤ sizeLine ∧ Vals xs its.toList
def TpOk (K : PySem.W.Frag) (H : Hp) (Ow : Addr → Prop) (a : Addr) (xs : List V) : Prop := (Rd H a (.tup xs) ∧ ¬ Ow a) ∨
  ∃ (o : Obj) (its : Array Value) (n : Nat), K.lookup a = some o ∧ o.cls = .type "tuple" ∧ o.data = .seq its n ∧ its.size ≤ sizeLine ∧ Vals xs its.toList
theorem LsOk.sq {K : PySem.W.Frag} {H : Hp} {Ow : Addr → Prop} {a : Addr} {xs : List V} (h : LsOk H Ow a xs) : SqL K H a xs := SqL.of h.1
theorem ScOk.sq {K : PySem.W.Frag} {H : Hp} {Ow : Addr → Prop} {a : Addr} {xs : List V} (h : ScOk K H Ow a xs) : SqL K H a xs := h.imp (fun z => z.1) id
theorem TpOk.sq {K : PySem.W.Frag} {H : Hp} {Ow : Addr → Prop} {a : Addr} {xs : List V} (h : TpOk K H Ow a xs) : SqT K H a xs := h.imp (fun z => z.1) id

mutual
def Rep (K : PySem.W.Frag) (H : Hp) (Ow : Addr → Prop) : D → V → List Addr → Prop
  | .hole, _, o => o = []
  | .non, v, o => v = .non ∧ o = []
  | .bl b, v, o => v = .bl b ∧ o = []
  | .int i, v, o => v = .int i ∧ o = []
  | .str s, v, o => v = .str s ∧ o = []
  | .tup l, v, o => ∃ a xs, v = .ref a ∧ TpOk K H Ow a xs ∧ RepL K H Ow l xs o
  | .lst l, v, o => ∃ a xs, v = .ref a ∧ LsOk H Ow a xs ∧ RepL K H Ow l xs [] ∧ o = []
  | .scr l, v, o => ∃ a xs, v = .ref a ∧ ScOk K H Ow a xs ∧ RepL K H Ow l xs [] ∧ o = []
  | .mu l, v, o => ∃ a xs o', v = .ref a ∧ H a = some (.lst xs) ∧ Ow a ∧ RepL K H Ow l xs o' ∧ o = a :: o'
def RepL (K : PySem.W.Frag) (H : Hp) (Ow : Addr → Prop) : List D → List V → List Addr → Prop
  | [], xs, o => xs = [] ∧ o = []
  | d :: ds, xs, o => ∃ v vs o1 o2, xs = v :: vs ∧ Rep K H Ow d v o1 ∧ RepL K H Ow ds vs o2 ∧ o = o1 ++ o2
end
section
variable {K : PySem.W.Frag} {H H' H1 H2 : Hp} {Ow Ow' Ow1 Ow2 : Addr → Prop}
theorem rd_keep {H H' : Hp} {a : Addr} {u : HO} (r : Rd H a u) (h : ∀ x, H a = some x → H' a = some x) : Rd H' a u := by
  rcases r with r | ⟨o, r⟩
  · exact .inl (h _ r)
  · exact .inr ⟨o, h _ r⟩
theorem rd_there {H : Hp} {a : Addr} {u : HO} (r : Rd H a u) : ∃ x, H a = some x := by
  rcases r with r | ⟨o, r⟩
  · exact ⟨_, r⟩
  · exact ⟨_, r⟩
mutual
/-- what stands stays: the frozen by H and Ow, the own by its list -/
theorem Rep.move (hk : ∀ b x, H b = some x → ¬ Ow b → H' b = some x ∧ ¬ Ow' b) : ∀ (d : D) (v : V) (o : List Addr), (∀ b ∈ o, (∀ x, H b = some x → H' b = some x) ∧ Ow' b) → Rep K H Ow d v o → Rep K H' Ow' d v o
  | .hole, _, _, _, h => h
  | .non, _, _, _, h => h
  | .bl _, _, _, _, h => h
  | .int _, _, _, _, h => h
  | .str _, _, _, _, h => h
  | .tup l, v, o, ho, h => by
    obtain ⟨a, xs, e, ht, hl⟩ := h
    refine ⟨a, xs, e, ?_, RepL.move hk l xs o ho hl⟩
    rcases ht with ⟨r, n⟩ | z
    · obtain ⟨x, hx⟩ := rd_there r
      exact .inl ⟨rd_keep r fun y hy => (hk a y hy n).1, (hk a x hx n).2⟩
    · exact .inr z
  | .lst l, v, o, ho, h => by
    obtain ⟨a, xs, e, ht, hl, eo⟩ := h
    exact ⟨a, xs, e, hk a _ ht.1 ht.2, RepL.move hk l xs [] (fun _ z => nomatch z) hl, eo⟩
  | .scr l, v, o, ho, h => by
    obtain ⟨a, xs, e, ht, hl, eo⟩ := h
    refine ⟨a, xs, e, ?_, RepL.move hk l xs [] (fun _ z => nomatch z) hl, eo⟩
    rcases ht with ⟨r, n⟩ | z
    · obtain ⟨x, hx⟩ := rd_there r
      exact .inl ⟨rd_keep r fun y hy => (hk a y hy n).1, (hk a x hx n).2⟩
    · exact .inr z
  | .mu l, v, o, ho, h => by
    obtain ⟨a, xs, o', e, ht, _, hl, eo⟩ := h
    subst eo
    exact ⟨a, xs, o', e, (ho a (List.mem_cons_self)).1 _ ht, (ho a List.mem_cons_self).2, RepL.move hk l xs o' (fun b hb => ho b (List.mem_cons_of_mem _ hb)) hl, rfl⟩
theorem RepL.move (hk : ∀ b x, H b = some x → ¬ Ow b → H' b = some x ∧ ¬ Ow' b) : ∀ (l : List D) (xs : List V) (o : List Addr), (∀ b ∈ o, (∀ x, H b = some x → H' b = some x) ∧ Ow' b) → RepL K H Ow l xs o → RepL K H' Ow' l xs o
  | [], _, _, _, h => h
  | d :: ds, xs, o, ho, h => by
    obtain ⟨v, vs, o1, o2, e, h1, h2, eo⟩ := h
    subst eo
    exact ⟨v, vs, o1, o2, e, Rep.move hk d v o1 (fun b hb => ho b (List.mem_append_left _ hb)) h1, RepL.move hk ds vs o2 (fun b hb => ho b (List.mem_append_right _ hb)) h2, rfl⟩
end
mutual
/-- the own addresses are held, and of the set -/
theorem Rep.own : ∀ (d : D) (v : V) (o : List Addr), Rep K H Ow d v o → ∀ b ∈ o, Ow b ∧ ∃ x, H b = some x
  | .hole, _, _, h, b, hb => by rw [show _ = [] from h] at hb; cases hb
  | .non, _, _, h, b, hb => by rw [h.2] at hb; cases hb
  | .bl _, _, _, h, b, hb => by rw [h.2] at hb; cases hb
  | .int _, _, _, h, b, hb => by rw [h.2] at hb; cases hb
  | .str _, _, _, h, b, hb => by rw [h.2] at hb; cases hb
  | .tup l, v, o, h, b, hb => by
    obtain ⟨a, xs, e, ht, hl⟩ := h
    exact RepL.own l xs o hl b hb
  | .lst l, v, o, h, b, hb => by
    obtain ⟨a, xs, e, ht, hl, eo⟩ := h
    rw [eo] at hb; cases hb
  | .scr l, v, o, h, b, hb => by
    obtain ⟨a, xs, e, ht, hl, eo⟩ := h
    rw [eo] at hb; cases hb
  | .mu l, v, o, h, b, hb => by
    obtain ⟨a, xs, o', e, ht, hw, hl, eo⟩ := h
    subst eo
    rcases List.mem_cons.mp hb with rfl | hb
    · exact ⟨hw, _, ht⟩
    · exact RepL.own l xs o' hl b hb
theorem RepL.own : ∀ (l : List D) (xs : List V) (o : List Addr), RepL K H Ow l xs o → ∀ b ∈ o, Ow b ∧ ∃ x, H b = some x
  | [], _, _, h, b, hb => by rw [h.2] at hb; cases hb
  | d :: ds, xs, o, h, b, hb => by
    obtain ⟨v, vs, o1, o2, e, h1, h2, eo⟩ := h
    subst eo
    rcases List.mem_append.mp hb with hb | hb
    · exact Rep.own d v o1 h1 b hb
    · exact RepL.own ds vs o2 h2 b hb
end
mutual
theorem Rep.frz : ∀ (d : D) (v : V) (o : List Addr), Rep K H Ow d v o → frz d = true → o = []
  | .hole, _, _, h, f => h
  | .non, _, _, h, f => h.2
  | .bl _, _, _, h, f => h.2
  | .int _, _, _, h, f => h.2
  | .str _, _, _, h, f => h.2
  | .tup l, v, o, h, f => by
    obtain ⟨a, xs, e, ht, hl⟩ := h
    exact RepL.frz l xs o hl f
  | .lst l, v, o, h, f => by
    obtain ⟨a, xs, e, ht, hl, eo⟩ := h
    exact eo
  | .scr l, v, o, h, f => by
    obtain ⟨a, xs, e, ht, hl, eo⟩ := h
    exact eo
  | .mu l, v, o, h, f => by cases f
theorem RepL.frz : ∀ (l : List D) (xs : List V) (o : List Addr), RepL K H Ow l xs o → frzL l = true → o = []
  | [], _, _, h, f => h.2
  | d :: ds, xs, o, h, f => by
    obtain ⟨v, vs, o1, o2, e, h1, h2, eo⟩ := h
    have f' : (match Tr.frz d with | true => frzL ds | false => false) = true := f
    cases e1 : Tr.frz d with
    | false => rw [e1] at f'; cases f'
    | true =>
      rw [e1] at f'
      rw [eo, Rep.frz d v o1 h1 e1, RepL.frz ds vs o2 h2 f']
      rfl
end
theorem RepL.length : ∀ (l : List D) (xs : List V) (o : List Addr), RepL K H Ow l xs o → xs.length = l.length
  | [], _, _, h => by rw [h.1]; rfl
  | d :: ds, xs, o, h => by
    obtain ⟨v, vs, o1, o2, e, h1, h2, eo⟩ := h
    rw [e, List.length_cons, List.length_cons, RepL.length ds vs o2 h2]
mutual
/-- frozen: its addresses leave the set -/
theorem Rep.freeze (hk : ∀ b x, H b = some x → ¬ Ow b → ¬ Ow' b) : ∀ (d : D) (v : V) (o : List Addr), (∀ b ∈ o, ¬ Ow' b) → Rep K H Ow d v o → Rep K H Ow' (freeze d) v []
  | .hole, _, _, _, h => rfl
  | .non, _, _, _, h => ⟨h.1, rfl⟩
  | .bl _, _, _, _, h => ⟨h.1, rfl⟩
  | .int _, _, _, _, h => ⟨h.1, rfl⟩
  | .str _, _, _, _, h => ⟨h.1, rfl⟩
  | .tup l, v, o, ho, h => by
    obtain ⟨a, xs, e, ht, hl⟩ := h
    refine ⟨a, xs, e, ?_, RepL.freeze hk l xs o ho hl⟩
    rcases ht with ⟨r, n⟩ | z
    · obtain ⟨x, hx⟩ := rd_there r
      exact .inl ⟨r, hk a x hx n⟩
    · exact .inr z
  | .lst l, v, o, ho, h => by
    obtain ⟨a, xs, e, ht, hl, eo⟩ := h
    have q := RepL.move (H' := H) (Ow' := Ow') (fun b x e n => ⟨e, hk b x e n⟩) l xs [] (fun _ z => nomatch z) hl
    exact ⟨a, xs, e, ⟨ht.1, hk a _ ht.1 ht.2⟩, q, rfl⟩
  | .scr l, v, o, ho, h => by
    obtain ⟨a, xs, e, ht, hl, eo⟩ := h
    have q := RepL.move (H' := H) (Ow' := Ow') (fun b x e n => ⟨e, hk b x e n⟩) l xs [] (fun _ z => nomatch z) hl
    refine ⟨a, xs, e, ?_, q, rfl⟩
    rcases ht with ⟨r, n⟩ | z
    · obtain ⟨x, hx⟩ := rd_there r
      exact .inl ⟨r, hk a x hx n⟩
    · exact .inr z
  | .mu l, v, o, ho, h => by
    obtain ⟨a, xs, o', e, ht, _, hl, eo⟩ := h
    subst eo
    exact ⟨a, xs, e, ⟨ht, ho a List.mem_cons_self⟩, RepL.freeze hk l xs o' (fun b hb => ho b (List.mem_cons_of_mem _ hb)) hl, rfl⟩
theorem RepL.freeze (hk : ∀ b x, H b = some x → ¬ Ow b → ¬ Ow' b) : ∀ (l : List D) (xs : List V) (o : List Addr), (∀ b ∈ o, ¬ Ow' b) → RepL K H Ow l xs o → RepL K H Ow' (freezeL l) xs []
  | [], _, _, _, h => ⟨h.1, rfl⟩
  | d :: ds, xs, o, ho, h => by
    obtain ⟨v, vs, o1, o2, e, h1, h2, eo⟩ := h
    subst eo
    exact ⟨v, vs, [], [], e, Rep.freeze hk d v o1 (fun b hb => ho b (List.mem_append_left _ hb)) h1, RepL.freeze hk ds vs o2 (fun b hb => ho b (List.mem_append_right _ hb)) h2, rfl⟩
end
mutual
theorem freeze_frz : ∀ d : D, frz d = true → freeze d = d
  | .hole, _ => rfl | .non, _ => rfl | .bl _, _ => rfl | .int _, _ => rfl | .str _, _ => rfl | .lst _, _ => rfl | .scr _, _ => rfl
  | .mu _, h => by cases h
  | .tup l, h => by show D.tup (freezeL l) = _; rw [freezeL_frz l h]
theorem freezeL_frz : ∀ l : List D, frzL l = true → freezeL l = l
  | [], _ => rfl
  | d :: ds, f => by
    have f' : (match Tr.frz d with | true => frzL ds | false => false) = true := f
    cases e1 : Tr.frz d with
    | false => rw [e1] at f'; cases f'
    | true =>
      rw [e1] at f'
      show freeze d :: freezeL ds = _
      rw [freeze_frz d e1, freezeL_frz ds f']
end
theorem frzL_cons {d : D} {l : List D} : frzL (d :: l) = true ↔ frz d = true ∧ frzL l = true := by
  show (match Tr.frz d with | true => frzL l | false => false) = true ↔ _
  cases frz d <;> simp
theorem frzL_all : ∀ l : List D, frzL l = true ↔ ∀ d ∈ l, frz d = true
  | [] => by simp [frzL]
  | d :: l => by rw [frzL_cons, frzL_all l]; simp
/-- an item -/
theorem RepL.get : ∀ (l : List D) (xs : List V) (o : List Addr) (i : Nat) (d : D), RepL K H Ow l xs o → l[i]? = some d → ∃ v o', xs[i]? = some v ∧ Rep K H Ow d v o' ∧ ∀ b ∈ o', b ∈ o
  | [], _, _, _, _, _, e => by cases e
  | d :: ds, xs, o, 0, d', h, e => by
    obtain ⟨v, vs, o1, o2, ex, h1, h2, eo⟩ := h
    cases e
    subst ex eo
    exact ⟨v, o1, rfl, h1, fun b hb => List.mem_append_left _ hb⟩
  | d :: ds, xs, o, i + 1, d', h, e => by
    obtain ⟨v, vs, o1, o2, ex, h1, h2, eo⟩ := h
    subst ex eo
    obtain ⟨v', o', q1, q2, q3⟩ := RepL.get ds vs o2 i d' h2 e
    exact ⟨v', o', q1, q2, fun b hb => List.mem_append_right _ (q3 b hb)⟩
theorem RepL.append : ∀ (l m : List D) (xs ys : List V) (o p : List Addr), RepL K H Ow l xs o → RepL K H Ow m ys p → RepL K H Ow (l ++ m) (xs ++ ys) (o ++ p)
  | [], m, xs, ys, o, p, h, q => by rw [h.1, h.2]; exact q
  | d :: ds, m, xs, ys, o, p, h, q => by
    obtain ⟨v, vs, o1, o2, ex, h1, h2, eo⟩ := h
    subst ex eo
    exact ⟨v, vs ++ ys, o1, o2 ++ p, rfl, h1, RepL.append ds m vs ys o2 p h2 q, by rw [List.append_assoc]⟩
/-- all frozen: item by item -/
theorem RepL.all0 : ∀ (l : List D) (xs : List V), RepL K H Ow l xs [] → ∀ (d : D) (i : Nat) , l[i]? = some d → ∃ v, xs[i]? = some v ∧ Rep K H Ow d v []
  | l, xs, h, d, i, e => by
    obtain ⟨v, o', q1, q2, q3⟩ := RepL.get l xs [] i d h e
    have : o' = [] := by
      cases o' with
      | nil => rfl
      | cons b r => exact absurd (q3 b List.mem_cons_self) (by simp)
    rw [this] at q2
    exact ⟨v, q1, q2⟩
theorem RepL.of_at : ∀ (l : List D) (xs : List V), xs.length = l.length → (∀ (i : Nat) (d : D) (v : V), l[i]? = some d → xs[i]? = some v → Rep K H Ow d v []) → RepL K H Ow l xs []
  | [], xs, hl, _ => ⟨List.length_eq_zero_iff.mp hl, rfl⟩
  | d :: ds, [], hl, _ => by cases hl
  | d :: ds, v :: vs, hl, h => ⟨v, vs, [], [], rfl, h 0 d v rfl rfl, RepL.of_at ds vs (by simpa using hl) (fun i d' v' e1 e2 => h (i + 1) d' v' e1 e2), rfl⟩
theorem RepL.sub {l : List D} {xs : List V} (h : RepL K H Ow l xs []) (lo n : Nat) : RepL K H Ow ((l.drop lo).take n) ((xs.drop lo).take n) [] := by
  refine RepL.of_at _ _ ?_ fun i d v e1 e2 => ?_
  · have := RepL.length l xs [] h
    simp [this]
  · rw [List.getElem?_take] at e1 e2
    split at e1
    · rename_i hi
      rw [if_pos hi] at e2
      rw [List.getElem?_drop] at e1 e2
      obtain ⟨v', q1, q2⟩ := RepL.all0 l xs h d _ e1
      rw [e2] at q1
      cases q1
      exact q2
    · cases e1
theorem RepL.reverse {l : List D} {xs : List V} (h : RepL K H Ow l xs []) : RepL K H Ow l.reverse xs.reverse [] := by
  have hl := RepL.length l xs [] h
  refine RepL.of_at _ _ (by simp [hl]) fun i d v e1 e2 => ?_
  have hi : i < l.length := by
    have := (List.getElem?_eq_some_iff.mp e1).1
    simpa using this
  rw [List.getElem?_reverse hi] at e1
  rw [List.getElem?_reverse (by omega)] at e2
  obtain ⟨v', q1, q2⟩ := RepL.all0 l xs h d _ e1
  rw [hl] at e2
  rw [e2] at q1
  cases q1
  exact q2
theorem RepL.rep {l : List D} {xs : List V} (h : RepL K H Ow l xs []) : ∀ k : Nat, RepL K H Ow (List.replicate k l).flatten (List.replicate k xs).flatten []
  | 0 => ⟨rfl, rfl⟩
  | k + 1 => by
    rw [List.replicate_succ, List.replicate_succ, List.flatten_cons, List.flatten_cons]
    exact RepL.append l _ xs _ [] [] h (RepL.rep h k)
theorem RepL.set : ∀ (l : List D) (xs : List V) (o : List Addr) (i : Nat) (d : D) (v : V) (p : List Addr), RepL K H Ow l xs o → Rep K H Ow d v p → ∃ o', RepL K H Ow (l.set i d) (xs.set i v) o' ∧ (∀ b ∈ o', b ∈ o ∨ b ∈ p) ∧ (o.Nodup → p.Nodup → (∀ b ∈ p, b ∉ o) → o'.Nodup)
  | [], xs, o, i, d, v, p, h, q => by
    obtain ⟨rfl, rfl⟩ := h
    exact ⟨[], ⟨rfl, rfl⟩, fun b hb => .inl hb, fun h _ _ => h⟩
  | e :: ds, xs, o, 0, d, v, p, h, q => by
    obtain ⟨v', vs, o1, o2, ex, h1, h2, eo⟩ := h
    subst ex eo
    refine ⟨p ++ o2, ⟨v, vs, p, o2, rfl, q, h2, rfl⟩, fun b hb => ?_, fun n1 n2 dj => ?_⟩
    · rcases List.mem_append.mp hb with hb | hb
      · exact .inr hb
      · exact .inl (List.mem_append_right _ hb)
    · rw [List.nodup_append] at n1 ⊢
      exact ⟨n2, n1.2.1, fun b hb c hc e => dj b hb (List.mem_append_right _ (e ▸ hc))⟩
  | e :: ds, xs, o, i + 1, d, v, p, h, q => by
    obtain ⟨v', vs, o1, o2, ex, h1, h2, eo⟩ := h
    subst ex eo
    obtain ⟨o', q1, q2, q3⟩ := RepL.set ds vs o2 i d v p h2 q
    refine ⟨o1 ++ o', ⟨v', _, o1, o', rfl, h1, q1, rfl⟩, fun b hb => ?_, fun n1 n2 dj => ?_⟩
    · rcases List.mem_append.mp hb with hb | hb
      · exact .inl (List.mem_append_left _ hb)
      · rcases q2 b hb with z | z
        · exact .inl (List.mem_append_right _ z)
        · exact .inr z
    · rw [List.nodup_append] at n1 ⊢
      refine ⟨n1.1, q3 n1.2.1 n2 fun b hb z => dj b hb (List.mem_append_right _ z), fun b hb c hc e => ?_⟩
      rcases q2 c hc with z | z
      · exact n1.2.2 b hb c z e
      · exact dj c z (List.mem_append_left _ (e ▸ hb))
end

/-! ### environments in a frame -/
abbrev Os := Nat → List Addr
def inO (os : Os) (b : Addr) : Prop := ∃ i, b ∈ os i
def updO (os : Os) (i : Nat) (o : List Addr) : Os := fun j => if j = i then o else os j
theorem updO_same {os : Os} {i : Nat} {o : List Addr} : updO os i o i = o := if_pos rfl
theorem updO_ne {os : Os} {i j : Nat} {o : List Addr} (h : j ≠ i) : updO os i o j = os j := if_neg h
structure St (K : PySem.W.Frag) (n : Nat) (H : Hp) (Ow : Addr → Prop) (σ : L2.St) (ρ : Env) (os : Os) : Prop where
  len : σ.length = n
  lnr : ρ.length = n
  rep : ∀ i d, gE ρ i = some d → ∃ v, σ[i]? = some (some v) ∧ Rep K H Ow d v (os i)
  emp : ∀ i, gE ρ i = none → os i = []
  nd : ∀ i, (os i).Nodup
  dj : ∀ i j b, b ∈ os i → b ∈ os j → i = j
  al : ∀ b, Ow b → ∃ x, H b = some x
theorem gE_get : ∀ (ρ : Env) (i : Nat), gE ρ i = (ρ[i]?).join
  | [], i => by simp [gE]
  | x :: r, 0 => by simp [gE]
  | x :: r, i + 1 => by
    show gE r i = _
    rw [gE_get r i]
    simp
theorem gE_set (ρ : Env) (i j : Nat) (d : Option D) : gE (ρ.set i d) j = if i = j ∧ i < ρ.length then d else gE ρ j := by
  rw [gE_get, gE_get, List.getElem?_set]
  by_cases h : i = j
  · subst h
    by_cases h2 : i < ρ.length
    · simp [h2]
    · simp [h2]
  · simp [h]
theorem setK_eq : ∀ (ρ : Env) (i : Nat) (d : Option D) (k : Env → Prop), setK ρ i d k ↔ k (ρ.set i d)
  | [], _, _, _ => by simp [setK]
  | _ :: r, 0, _, _ => by simp [setK]
  | x :: r, n + 1, d, k => by
    show setK r n d _ ↔ _
    rw [setK_eq r n d]
    simp
theorem gE_lt {ρ : Env} {i : Nat} {d : D} (h : gE ρ i = some d) : i < ρ.length := by
  rw [gE_get] at h
  by_cases hi : i < ρ.length
  · exact hi
  · rw [List.getElem?_eq_none (by omega)] at h
    cases h
section
variable {K : PySem.W.Frag} {n : Nat} {H H' H1 H2 : Hp} {Ow Ow' Ow1 Ow2 : Addr → Prop} {σ : L2.St} {ρ ρ' : Env} {os os' os1 os2 : Os}
theorem St.held (S : St K n H Ow σ ρ os) {b : Addr} (h : inO os b) : Ow b := by
  obtain ⟨i, hb⟩ := h
  cases e : gE ρ i with
  | none => rw [S.emp i e] at hb; cases hb
  | some d =>
    obtain ⟨v, _, r⟩ := S.rep i d e
    exact (Rep.own d v _ r b hb).1

/-- what a step may do: os what may be written -/
structure Stp (H : Hp) (Ow : Addr → Prop) (os : Os) (H' : Hp) (Ow' : Addr → Prop) (os' : Os) (o : List Addr) : Prop where
  keep : ∀ b x, H b = some x → ¬ inO os b → H' b = some x
  dom : ∀ b x, H b = some x → ∃ y, H' b = some y
  sub : ∀ b, Ow' b → Ow b ∨ H b = none
  oth : ∀ b, Ow b → ¬ inO os b → Ow' b
  new : ∀ b, inO os' b ∨ b ∈ o → inO os b ∨ H b = none
theorem Stp.refl : Stp H Ow os H Ow os [] := ⟨fun _ _ h _ => h, fun _ x h => ⟨x, h⟩, fun _ h => .inl h, fun _ h _ => h, fun b h => h.elim .inl fun z => nomatch z⟩
theorem Stp.weak {o o' : List Addr} (h : Stp H Ow os H' Ow' os' o) (hs : ∀ b ∈ o', b ∈ o ∨ inO os' b) : Stp H Ow os H' Ow' os' o' :=
  ⟨h.keep, h.dom, h.sub, h.oth, fun b z => z.elim (fun q => h.new b (.inl q)) fun q => (hs b q).elim (fun q => h.new b (.inr q)) fun q => h.new b (.inl q)⟩
theorem Stp.drop0 {o : List Addr} (h : Stp H Ow os H' Ow' os' o) : Stp H Ow os H' Ow' os' [] := h.weak fun _ z => nomatch z
theorem Stp.trans {o1 o2 : List Addr} (al : ∀ b, Ow b → ∃ x, H b = some x) (a : Stp H Ow os H1 Ow1 os1 o1) (b : Stp H1 Ow1 os1 H2 Ow2 os2 o2) : Stp H Ow os H2 Ow2 os2 (o1 ++ o2) where
  keep := fun c x h n => by
    have h1 := a.keep c x h n
    refine b.keep c x h1 fun z => ?_
    rcases a.new c (.inl z) with q | q
    · exact n q
    · rw [q] at h; cases h
  dom := fun c x h => by
    obtain ⟨y, hy⟩ := a.dom c x h
    exact b.dom c y hy
  sub := fun c h => by
    rcases b.sub c h with q | q
    · exact a.sub c q
    · cases e : H c with
      | none => exact .inr rfl
      | some x =>
        obtain ⟨y, hy⟩ := a.dom c x e
        rw [hy] at q; cases q
  oth := fun c h n => by
    refine b.oth c (a.oth c h n) fun z => ?_
    rcases a.new c (.inl z) with q | q
    · exact n q
    · obtain ⟨x, hx⟩ := al c h
      rw [hx] at q; cases q
  new := fun c h => by
    have old : ∀ c, inO os1 c ∨ H1 c = none → inO os c ∨ H c = none := fun c q => by
      rcases q with q | q
      · exact a.new c (.inl q)
      · cases e : H c with
        | none => exact .inr rfl
        | some x =>
          obtain ⟨y, hy⟩ := a.dom c x e
          rw [hy] at q; cases q
    rcases h with h | h
    · exact old c (b.new c (.inl h))
    · rcases List.mem_append.mp h with h | h
      · exact a.new c (.inr h)
      · exact old c (b.new c (.inr h))
/-- what stood apart from os -/
theorem Stp.rep {o o' : List Addr} {d : D} {v : V} (S : St K n H Ow σ ρ os) (h : Stp H Ow os H' Ow' os' o') (r : Rep K H Ow d v o) (dj : ∀ b ∈ o, ¬ inO os b) : Rep K H' Ow' d v o := by
  refine Rep.move (fun b x e no => ⟨h.keep b x e fun z => no (S.held z), fun z => ?_⟩) d v o (fun b hb => ⟨fun x e => h.keep b x e (dj b hb), h.oth b (Rep.own d v o r b hb).1 (dj b hb)⟩) r
  rcases h.sub b z with q | q
  · exact no q
  · rw [q] at e; cases e
theorem Stp.repL {o o' : List Addr} {d : List D} {v : List V} (S : St K n H Ow σ ρ os) (h : Stp H Ow os H' Ow' os' o') (r : RepL K H Ow d v o) (dj : ∀ b ∈ o, ¬ inO os b) : RepL K H' Ow' d v o := by
  refine RepL.move (fun b x e no => ⟨h.keep b x e fun z => no (S.held z), fun z => ?_⟩) d v o (fun b hb => ⟨fun x e => h.keep b x e (dj b hb), h.oth b (RepL.own d v o r b hb).1 (dj b hb)⟩) r
  rcases h.sub b z with q | q
  · exact no q
  · rw [q] at e; cases e
/-- where nothing was written -/
theorem Stp.repS {o o' : List Addr} {d : D} {v : V} (S : St K n H Ow σ ρ os) (S' : St K n H' Ow' σ ρ os) (h : Stp H Ow os H' Ow' os o') (sm : Same H H') (r : Rep K H Ow d v o) : Rep K H' Ow' d v o := by
  refine Rep.move (fun b x e no => ⟨sm b x e, fun z => ?_⟩) d v o (fun b hb => ⟨fun x e => sm b x e, ?_⟩) r
  · rcases h.sub b z with q | q
    · exact no q
    · rw [q] at e; cases e
  · by_cases hi : inO os b
    · exact S'.held hi
    · exact h.oth b (Rep.own d v o r b hb).1 hi
/-- the heap grows -/
theorem St.grow (S : St K n H Ow σ ρ os) (sm : Same H H') (up : ∀ b, Ow b → Ow' b) (dn : ∀ b, Ow' b → Ow b ∨ H b = none) (al : ∀ b, Ow' b → ∃ x, H' b = some x) : St K n H' Ow' σ ρ os := by
  refine ⟨S.len, S.lnr, fun i d e => ?_, S.emp, S.nd, S.dj, al⟩
  obtain ⟨v, q, r⟩ := S.rep i d e
  refine ⟨v, q, Rep.move (fun b x e no => ⟨sm b x e, fun z => ?_⟩) d v _ (fun b hb => ⟨fun x e => sm b x e, up b (Rep.own d v _ r b hb).1⟩) r⟩
  rcases dn b z with q | q
  · exact no q
  · rw [q] at e; cases e
theorem same_upd {p : Addr} {u : HO} (hp : H p = none) : Same H (upd H p u) := fun b x e => by rw [upd_ne (ne_of_none e hp)]; exact e
/-- a new thing that nobody writes to -/
theorem Stp.frz {p : Addr} {u : HO} (hp : H p = none) : Stp H Ow os (upd H p u) Ow os [] :=
  ⟨fun b x e _ => same_upd hp b x e, fun b x e => ⟨x, same_upd hp b x e⟩, fun _ h => .inl h, fun _ h _ => h, fun b h => h.elim .inl fun z => nomatch z⟩
theorem St.frz {p : Addr} {u : HO} (S : St K n H Ow σ ρ os) (hp : H p = none) : St K n (upd H p u) Ow σ ρ os :=
  S.grow (same_upd hp) (fun _ h => h) (fun _ h => .inl h) fun b h => by
    obtain ⟨x, e⟩ := S.al b h
    exact ⟨x, same_upd hp b x e⟩
def plus (Ow : Addr → Prop) (p : Addr) : Addr → Prop := fun b => Ow b ∨ b = p
/-- a new thing of one's own -/
theorem Stp.mu {p : Addr} {u : HO} (hp : H p = none) : Stp H Ow os (upd H p u) (plus Ow p) os [p] :=
  ⟨fun b x e _ => same_upd hp b x e, fun b x e => ⟨x, same_upd hp b x e⟩, fun b h => h.imp id fun z => by rw [z]; exact hp, fun _ h _ => .inl h, fun b h => h.imp id fun z => by
    rw [List.mem_singleton.mp z]; exact hp⟩
theorem St.mu {p : Addr} {u : HO} (S : St K n H Ow σ ρ os) (hp : H p = none) : St K n (upd H p u) (plus Ow p) σ ρ os :=
  S.grow (same_upd hp) (fun _ h => .inl h) (fun b h => h.imp id fun z => by rw [z]; exact hp) fun b h => by
    rcases h with h | h
    · obtain ⟨x, e⟩ := S.al b h
      exact ⟨x, same_upd hp b x e⟩
    · exact ⟨u, by rw [h]; exact upd_same⟩
/-- a slot is set -/
theorem St.set {i : Nat} {d : D} {v : V} {o : List Addr} (S : St K n H Ow σ ρ os) (hi : i < n) (r : Rep K H Ow d v o) (nd : o.Nodup) (dj : ∀ b ∈ o, ¬ inO os b) : St K n H Ow (σ.set i (some v)) (ρ.set i (some d)) (updO os i o) := by
  refine ⟨by rw [List.length_set]; exact S.len, by rw [List.length_set]; exact S.lnr, fun j e h => ?_, fun j h => ?_, fun j => ?_, fun j l b h1 h2 => ?_, S.al⟩
  · rw [gE_set] at h
    by_cases hj : i = j
    · subst hj
      rw [if_pos ⟨rfl, by rw [S.lnr]; exact hi⟩] at h
      cases h
      exact ⟨v, by rw [List.getElem?_set_self (by rw [S.len]; exact hi)], by rw [updO_same]; exact r⟩
    · rw [if_neg fun z => hj z.1] at h
      obtain ⟨w, q1, q2⟩ := S.rep j e h
      exact ⟨w, by rw [List.getElem?_set_ne hj]; exact q1, by rw [updO_ne (Ne.symm hj)]; exact q2⟩
  · rw [gE_set] at h
    by_cases hj : i = j
    · subst hj
      rw [if_pos ⟨rfl, by rw [S.lnr]; exact hi⟩] at h
      cases h
    · rw [if_neg fun z => hj z.1] at h
      rw [updO_ne (Ne.symm hj)]
      exact S.emp j h
  · by_cases hj : j = i
    · rw [hj, updO_same]; exact nd
    · rw [updO_ne hj]; exact S.nd j
  · by_cases hj : j = i
    · by_cases hl : l = i
      · rw [hj, hl]
      · rw [hj, updO_same] at h1
        rw [updO_ne hl] at h2
        exact absurd ⟨l, h2⟩ (dj b h1)
    · by_cases hl : l = i
      · rw [updO_ne hj] at h1
        rw [hl, updO_same] at h2
        exact absurd ⟨j, h1⟩ (dj b h2)
      · rw [updO_ne hj] at h1
        rw [updO_ne hl] at h2
        exact S.dj j l b h1 h2
/-- a slot is forgotten -/
theorem St.drop {i : Nat} {x : Option V} (S : St K n H Ow σ ρ os) : St K n H Ow (σ.set i x) (ρ.set i none) (updO os i []) := by
  refine ⟨by rw [List.length_set]; exact S.len, by rw [List.length_set]; exact S.lnr, fun j e h => ?_, fun j h => ?_, fun j => ?_, fun j l b h1 h2 => ?_, S.al⟩
  · rw [gE_set] at h
    by_cases hj : i = j
    · subst hj
      by_cases hi : i < ρ.length
      · rw [if_pos ⟨rfl, hi⟩] at h
        cases h
      · rw [if_neg fun z => hi z.2] at h
        exact absurd (gE_lt h) hi
    · rw [if_neg fun z => hj z.1] at h
      obtain ⟨w, q1, q2⟩ := S.rep j e h
      exact ⟨w, by rw [List.getElem?_set_ne hj]; exact q1, by rw [updO_ne (Ne.symm hj)]; exact q2⟩
  · by_cases hj : j = i
    · rw [hj, updO_same]
    · rw [gE_set, if_neg fun z => hj z.1.symm] at h
      rw [updO_ne hj]
      exact S.emp j h
  · by_cases hj : j = i
    · rw [hj, updO_same]; exact List.nodup_nil
    · rw [updO_ne hj]; exact S.nd j
  · by_cases hj : j = i
    · rw [hj, updO_same] at h1; cases h1
    · by_cases hl : l = i
      · rw [hl, updO_same] at h2; cases h2
      · rw [updO_ne hj] at h1
        rw [updO_ne hl] at h2
        exact S.dj j l b h1 h2
theorem St.drop' {i : Nat} (S : St K n H Ow σ ρ os) : St K n H Ow σ (ρ.set i none) (updO os i []) := by
  by_cases hi : i < σ.length
  · have h := S.drop (i := i) (x := σ[i])
    rw [List.set_getElem_self] at h
    exact h
  · have h := S.drop (i := i) (x := none)
    rw [List.set_eq_of_length_le (by omega)] at h
    exact h
theorem inO_upd {i : Nat} {o : List Addr} {b : Addr} : inO (updO os i o) b → b ∈ o ∨ inO os b := fun ⟨j, h⟩ => by
  by_cases hj : j = i
  · rw [hj, updO_same] at h; exact .inl h
  · rw [updO_ne hj] at h; exact .inr ⟨j, h⟩
/-- what a slot held, and the rest -/
theorem St.apart (S : St K n H Ow σ ρ os) {i : Nat} {b : Addr} (h : b ∈ os i) : ¬ inO (updO os i []) b := fun ⟨j, hj⟩ => by
  by_cases e : j = i
  · rw [e, updO_same] at hj; cases hj
  · rw [updO_ne e] at hj
    exact e (S.dj j i b hj h)
def minus (Ow : Addr → Prop) (o : List Addr) : Addr → Prop := fun b => Ow b ∧ b ∉ o
/-- addresses given up -/
theorem St.minus {o : List Addr} (S : St K n H Ow σ ρ os) (dj : ∀ b ∈ o, ¬ inO os b) : St K n H (minus Ow o) σ ρ os := by
  refine ⟨S.len, S.lnr, fun i d e => ?_, S.emp, S.nd, S.dj, fun b h => S.al b h.1⟩
  obtain ⟨v, q, r⟩ := S.rep i d e
  exact ⟨v, q, Rep.move (fun b x e no => ⟨e, fun z => no z.1⟩) d v _ (fun b hb => ⟨fun x e => e, (Rep.own d v _ r b hb).1, fun z => dj b z ⟨i, hb⟩⟩) r⟩
theorem Stp.minus {o : List Addr} (h : Stp H Ow os H' Ow' os' o) (al : ∀ b, Ow b → ∃ x, H b = some x) : Stp H Ow os H' (Tr.minus Ow' o) os' [] :=
  ⟨h.keep, h.dom, fun b z => h.sub b z.1, fun b z no => ⟨h.oth b z no, fun q => by
    rcases h.new b (.inr q) with q | q
    · exact no q
    · obtain ⟨x, e⟩ := al b z
      rw [e] at q; cases q⟩, fun b z => z.elim (fun q => h.new b (.inl q)) fun q => nomatch q⟩
end
end Tr

set_option maxRecDepth 100000
set_option maxHeartbeats 4000000
/-! The meaning of code is what the program does: expressions, first part. -/
namespace Tr
open PySem PySem.Spec PyProof.Rows L2

/-! ### the weakest readings -/
def tw (X : Cx) (e : Expr) : TE := fun σ H Q => ∀ pins s, Inv X pins σ H s → wpAny (model X.prog X.w) X.A (eval e X.env) (EP X pins σ Q) X.xe s
def twT (X : Cx) (e : Expr) : TT := fun σ H Q => ∀ pins s, Inv X pins σ H s → wpAny (model X.prog X.w) X.A (isTrue e X.env (eval e X.env)) (TP X pins σ Q) X.xe s
def twA (X : Cx) (es : List Expr) : TA := fun σ H Q => ∀ pos pins s, Inv X pins σ H s → wpAny (model X.prog X.w) X.A (spliced (backTo pos (starEach es X.env))) (AP X pins σ Q) X.xe s
theorem tw_pe (X : Cx) (e : Expr) : PE X e (tw X e) := ⟨fun pins s σ H Q I h => h pins s I⟩
theorem twT_pt (X : Cx) (e : Expr) : PT X e (twT X e) := ⟨fun pins s σ H Q I h => h pins s I⟩
theorem twA_pa (X : Cx) (es : List Expr) : PA X es (twA X es) := ⟨fun pos pins s σ H Q I h => h pos pins s I⟩
theorem pe_tw {X : Cx} {e : Expr} {t : TE} (h : PE X e t) {σ : L2.St} {H : Hp} {Q : VK} (q : t σ H Q) : tw X e σ H Q := fun pins s I => h.run pins s σ H Q I q
theorem pt_tw {X : Cx} {e : Expr} {t : TT} (h : PT X e t) {σ : L2.St} {H : Hp} {Q : Bool → Hp → Prop} (q : t σ H Q) : twT X e σ H Q := fun pins s I => h.run pins s σ H Q I q
theorem pa_tw {X : Cx} {e : List Expr} {t : TA} (h : PA X e t) {σ : L2.St} {H : Hp} {Q : List V → Hp → Prop} (q : t σ H Q) : twA X e σ H Q := fun pos pins s I => h.run pos pins s σ H Q I q

/-! ### names -/
/-- the program's names: defs by number, constants; how a def's parameters go -/
structure Gt where
  fn : Nat → Option Str
  io : Nat → List Nat
  np : Nat → Nat
  cn : Str → Option Cst
def visB (sc : Scope) (x : Str) : Bool := match sc.names.lookup x with
  | some .local => true | some .cell => true | some .free => true | _ => false
def glB (sc : Scope) (x : Str) : Bool := match sc.names.lookup x with
  | some .globalImplicit => true | _ => false
def dbgB (x : Str) : Bool := (x == ("__debug__" : Str)) == false && (x == ("__classdict__" : Str)) == false
theorem visB_ok {sc : Scope} {x : Str} (h : visB sc x = true) : Vis sc x := by
  unfold visB at h
  split at h
  · exact .inl (by assumption)
  · exact .inr (.inl (by assumption))
  · exact .inr (.inr (by assumption))
  · cases h
theorem glB_ok {X : Cx} {x : Str} (h : glB X.env.scope x = true) : Gl X x := by
  unfold glB at h
  split at h
  · assumption
  · cases h
theorem dbgB_ok {x : Str} (h : dbgB x = true) : (x == ("__debug__" : Str)) = false ∧ (x == ("__classdict__" : Str)) = false := by
  unfold dbgB at h
  simpa using h
/-- the built-in names that the code uses -/
def bnames : List Str := ["len", "int", "abs", "max", "min", "sum", "list", "sorted", "any", "all", "str", "isinstance", "range", "enumerate", "zip", "bool", "tuple", "dict"]

/-- what a def promises, by a meaning C f -/
def spF (K : PySem.W.Frag) (np : Nat) (io : List Nat) (m : List D → (D → List D → Prop) → Prop) : Sp := fun vs H Q _ =>
  vs.length = np ∧ ∃ (ds : List D) (Ow : Addr → Prop) (os : Os) (k : D → List D → Prop), St K np H Ow (vs.map some) (ds.map some) os ∧
    (∀ i, i ∉ io → os i = []) ∧ m ds k ∧ ∀ r outs, k r outs → ∀ v H' Ow' os' o, Stp H Ow os H' Ow' os' o → (∀ b, Ow' b → ∃ x, H' b = some x) → Rep K H' Ow' r v o → o.Nodup → (∀ b ∈ o, ¬ inO os' b) →
      (∀ (j i : Nat) (d : D), io[j]? = some i → outs[j]? = some d → ∃ u, vs[i]? = some u ∧ Rep K H' Ow' d u (os' i)) → (∀ i, (os' i).Nodup) → (∀ i j b, b ∈ os' i → b ∈ os' j → i = j) → Q v H'

/-- what the code's soundness asks of where it runs -/
structure Wd (G : Gt) (C : Sem) (X : Cx) : Prop where
  calm : X.calm = true
  nd : X.N.Nodup
  xe : X.xe = fun _ _ => False
  mt : ∀ x ∈ bnames, X.mg x = none
  cn : ∀ x c, G.cn x = some c → ∃ u v, X.mg x = some u ∧ RelV v u ∧ (match c with | .non => v = V.non | .bl b => v = .bl b | .int i => v = .int i | .str s => v = .str s)
  fn : ∀ f x, G.fn f = some x → ∃ a fd ps k, X.mg x = some (.ref a) ∧ PySem.W.keepIn X.K (.ref a) = true ∧ Binds X.K fd ps [] ∧ Room k X.A ∧ FnOk X.prog X.w X.K X.mg X.base CX0 k a fd ps (spF X.K (G.np f) (G.io f) (C f))
  un : X.A.units + 64 < cLine

/-! ### an expression's end -/
def OwnR (p : Bool) (o : List Addr) (os : Os) : Prop := if p = true then ∀ b ∈ o, inO os b else o.Nodup ∧ ∀ b ∈ o, ¬ inO os b
theorem OwnR.nil {p : Bool} {os : Os} : OwnR p [] os := by
  unfold OwnR
  split
  · exact fun _ h => nomatch h
  · exact ⟨List.nodup_nil, fun _ h => nomatch h⟩
structure Res (K : PySem.W.Frag) (n : Nat) (σ : L2.St) (H : Hp) (Ow : Addr → Prop) (os : Os) (ρ : Env) (p pu : Bool) (v : V) (H' : Hp) (Ow' : Addr → Prop) (os' : Os) (o : List Addr) (d : D) (ρ' : Env) : Prop where
  stp : Stp H Ow os H' Ow' os' o
  st : St K n H' Ow' σ ρ' os'
  rep : Rep K H' Ow' d v o
  own : OwnR p o os'
  pu : pu = true → ρ' = ρ ∧ os' = os ∧ Same H H'
abbrev Kn (K : PySem.W.Frag) (n : Nat) (σ : L2.St) (H : Hp) (Ow : Addr → Prop) (os : Os) (ρ : Env) (p pu : Bool) (k : D → Env → Prop) (Q : VK) : Prop :=
  ∀ v H' Ow' os' o d ρ', Res K n σ H Ow os ρ p pu v H' Ow' os' o d ρ' → k d ρ' → Q v H'
/-- THE CLAIM of an expression -/
def SndE (G : Gt) (C : Sem) (N : List Str) (sc : Scope) (e : E) (a : Expr) : Prop :=
  ∀ X : Cx, Wd G C X → X.N = N → X.env.scope = sc → ∀ σ H ρ Ow os k Q, St X.K N.length H Ow σ ρ os → evE C e ρ k → Kn X.K N.length σ H Ow os ρ (isPath e) (pure? e) k Q → tw X a σ H Q
/-- .. as a test -/
def SndT (G : Gt) (C : Sem) (N : List Str) (sc : Scope) (e : E) (a : Expr) : Prop :=
  ∀ X : Cx, Wd G C X → X.N = N → X.env.scope = sc → ∀ σ H ρ Ow os (k : Bool → Env → Prop) (Q : Bool → Hp → Prop), St X.K N.length H Ow σ ρ os → evE C e ρ (fun d ρ' => blK d fun b => k b ρ') →
    (∀ b H' Ow' os' ρ', Stp H Ow os H' Ow' os' [] → St X.K N.length H' Ow' σ ρ' os' → k b ρ' → Q b H') → twT X a σ H Q
/-- .. as a value to keep -/
def SndV (G : Gt) (C : Sem) (N : List Str) (sc : Scope) (e : E) (a : Expr) : Prop :=
  ∀ X : Cx, Wd G C X → X.N = N → X.env.scope = sc → ∀ σ H ρ Ow os k Q, St X.K N.length H Ow σ ρ os → toV e (evE C e) ρ k → Kn X.K N.length σ H Ow os ρ false false k Q → tw X a σ H Q

section
variable {K : PySem.W.Frag} {n : Nat} {σ : L2.St} {H H1 H2 : Hp} {Ow Ow1 Ow2 : Addr → Prop} {os os1 os2 : Os} {ρ ρ1 ρ2 : Env} {p pu pa : Bool} {v : V} {o o1 : List Addr} {d : D}
theorem rep_int {i : Int} : Rep K H Ow (.int i) (.int i) [] := ⟨rfl, rfl⟩
theorem rep_bl {i : Bool} : Rep K H Ow (.bl i) (.bl i) [] := ⟨rfl, rfl⟩
theorem rep_flat {d : D} (h : flat d = true) : Rep K H Ow d (match d with | .non => V.non | .bl b => .bl b | .int i => .int i | .str s => .str s | _ => .non) [] := by
  cases d <;> first | exact ⟨rfl, rfl⟩ | cases h
/-- a result without an object -/
theorem Res.plain {q qu : Bool} (r : Res K n σ H Ow os ρ p pu v H1 Ow1 os1 o d ρ1) {d' : D} {v' : V} (h : Rep K H1 Ow1 d' v' []) (hq : qu = true → pu = true) : Res K n σ H Ow os ρ q qu v' H1 Ow1 os1 [] d' ρ1 :=
  ⟨r.stp.drop0, r.st, h, OwnR.nil, fun z => r.pu (hq z)⟩
theorem Res.of_st (S : St K n H Ow σ ρ os) {q qu : Bool} {d' : D} {v' : V} (h : Rep K H Ow d' v' []) : Res K n σ H Ow os ρ q qu v' H Ow os [] d' ρ :=
  ⟨Stp.refl, S, h, OwnR.nil, fun _ => ⟨rfl, rfl, Same.refl H⟩⟩
/-- a new list -/
theorem Res.newL {q qu : Bool} (r : Res K n σ H Ow os ρ q qu v H1 Ow1 os1 o d ρ1) (al : ∀ b, Ow b → ∃ x, H b = some x) {a : Addr} (ha : H1 a = none) {xs : List V} {l : List D} {q' qu' : Bool} (hl : RepL K H1 Ow1 l xs []) (hq : qu' = true → qu = true) (hp : q' = false) :
    Res K n σ H Ow os ρ q' qu' (.ref a) (upd H1 a (.lst xs)) (plus Ow1 a) os1 [a] (.mu l) ρ1 := by
  have s2 : Stp H1 Ow1 os1 (upd H1 a (.lst xs)) (plus Ow1 a) os1 [a] := Stp.mu ha
  refine ⟨(r.stp.drop0.trans al s2).weak fun b hb => .inl (by simpa using hb), r.st.mu ha, ⟨a, xs, [], rfl, upd_same, .inr rfl, ?_, rfl⟩, ?_, fun z => ?_⟩
  · exact RepL.move (fun b x e no => ⟨same_upd ha b x e, fun z => z.elim no fun z => by rw [z, ha] at e; cases e⟩) l xs [] (fun _ z => nomatch z) hl
  · rw [hp]
    refine ⟨by simp, fun b hb => ?_⟩
    rw [List.mem_singleton.mp hb]
    intro z
    obtain ⟨x, e⟩ := r.st.al a (r.st.held z)
    rw [ha] at e; cases e
  · obtain ⟨e1, e2, sm⟩ := r.pu (hq z)
    exact ⟨e1, e2, sm.trans (same_upd ha)⟩
/-- a new tuple of frozen things -/
theorem Res.newT {q qu : Bool} (r : Res K n σ H Ow os ρ q qu v H1 Ow1 os1 o d ρ1) (al : ∀ b, Ow b → ∃ x, H b = some x) {a : Addr} (ha : H1 a = none) {xs : List V} {l : List D} {q' qu' : Bool} (hl : RepL K H1 Ow1 l xs []) (hq : qu' = true → qu = true) :
    Res K n σ H Ow os ρ q' qu' (.ref a) (upd H1 a (.tup xs)) Ow1 os1 [] (.tup l) ρ1 := by
  have s2 : Stp H1 Ow1 os1 (upd H1 a (.tup xs)) Ow1 os1 [] := Stp.frz ha
  refine ⟨r.stp.drop0.trans al s2, r.st.frz ha, ⟨a, xs, rfl, .inl ⟨.inl upd_same, fun z => ?_⟩, ?_⟩, OwnR.nil, fun z => ?_⟩
  · obtain ⟨x, e⟩ := r.st.al a z
    rw [ha] at e; cases e
  · exact RepL.move (fun b x e no => ⟨same_upd ha b x e, no⟩) l xs [] (fun _ z => nomatch z) hl
  · obtain ⟨e1, e2, sm⟩ := r.pu (hq z)
    exact ⟨e1, e2, sm.trans (same_upd ha)⟩
/-- a, then b: what a gave stands behind b -/
theorem Res.keep {b : E} {v1 v2 : V} {o2 : List Addr} {d1 d2 : D} (r1 : Res K n σ H Ow os ρ p pu v1 H1 Ow1 os1 o1 d1 ρ1) {pb : Bool} (r2 : Res K n σ H1 Ow1 os1 ρ1 pb (pure? b) v2 H2 Ow2 os2 o2 d2 ρ2) (hs : stays b d1 = true) : Rep K H2 Ow2 d1 v1 o1 := by
  unfold stays at hs
  cases hb : pure? b with
  | true =>
    obtain ⟨e1, e2, sm⟩ := r2.pu hb
    have st2 := r2.st
    have s2 := r2.stp
    subst e1 e2
    exact Stp.repS r1.st st2 s2 sm r1.rep
  | false =>
    rw [hb] at hs
    have e := Rep.frz d1 v1 o1 r1.rep hs
    subst e
    exact r2.stp.rep r1.st r1.rep (fun _ z => nomatch z)
theorem Res.two {v1 v2 : V} {o2 : List Addr} {d1 d2 : D} {q qu qv : Bool} (al : ∀ b, Ow b → ∃ x, H b = some x) (r1 : Res K n σ H Ow os ρ p pu v1 H1 Ow1 os1 o1 d1 ρ1) (r2 : Res K n σ H1 Ow1 os1 ρ1 q qu v2 H2 Ow2 os2 o2 d2 ρ2) (hq : qv = true → pu = true ∧ qu = true) : Res K n σ H Ow os ρ q qv v2 H2 Ow2 os2 o2 d2 ρ2 := by
  refine ⟨(r1.stp.drop0.trans al r2.stp).weak fun b hb => .inl (by simpa using hb), r2.st, r2.rep, r2.own, fun z => ?_⟩
  obtain ⟨h1, h2⟩ := hq z
  obtain ⟨a1, a2, a3⟩ := r1.pu h1
  obtain ⟨b1, b2, b3⟩ := r2.pu h2
  exact ⟨b1.trans a1, b2.trans a2, a3.trans b3⟩
end

/-! ### the operators on values -/
section
variable {X : Cx} {H : Hp} {Ow : Addr → Prop} {x y : D} {v w : V} {o o' : List Addr} {Q : VK}
theorem wide_of {i j : Int} (hi : Small i) (hj : Small j) : CMulW i j := wide_mul hi hj (by decide) (by decide) (by decide)
/-- how an operator's result lies: a new list, a new tuple, or without an object (or one that stands) -/
def OpEnd (K : PySem.W.Frag) (H : Hp) (Ow : Addr → Prop) (k : D → Prop) (Q : VK) : Prop :=
  (∀ z u, Rep K H Ow z u [] → k z → Q u H) ∧ (∀ a l xs, H a = none → RepL K H Ow l xs [] → k (.mu l) → Q (.ref a) (upd H a (.lst xs))) ∧ (∀ a l xs, H a = none → RepL K H Ow l xs [] → k (.tup l) → Q (.ref a) (upd H a (.tup xs)))
theorem rep_lstK {K : PySem.W.Frag} {k : List D → Prop} (hk : lstK x k) (r : Rep K H Ow x v o) : ∃ l a xs, v = .ref a ∧ H a = some (.lst xs) ∧ RepL K H Ow l xs [] ∧ k l ∧ (x = .lst l ∨ x = .mu l) := by
  cases x with
  | lst l =>
    obtain ⟨a, xs, e, ht, hl, eo⟩ := r
    exact ⟨l, a, xs, e, ht.1, hl, hk, .inl rfl⟩
  | mu l =>
    obtain ⟨a, xs, o', e, ht, hw, hl, eo⟩ := r
    cases f : frzL l with
    | true =>
      have e' := RepL.frz l xs o' hl f
      subst e'
      refine ⟨l, a, xs, e, ht, hl, ?_, .inr rfl⟩
      simp only [lstK, f] at hk
      exact hk
    | false =>
      simp only [lstK, f] at hk
  | _ => exact hk.elim
theorem mem_lt {n : Nat} : ∀ {z : Int}, -(2 ^ 63) ≤ z → z < 2 ^ 63 → True := fun _ _ => trivial
end
end Tr

set_option maxRecDepth 100000
set_option maxHeartbeats 4000000
/-! Operators, comparisons, built-in functions: by values. -/
namespace Tr
open PySem PySem.Spec PyProof.Rows L2

/-- what the machine's operator gives of two values -/
def rOpr (K : PySem.W.Frag) : Op → R2
  | .add => fun x y H Q => (rI0 fun i j => .int (i + j)) x y H Q ∨ (∃ i j, x = .str i ∧ y = .str j ∧ i.length + j.length ≤ sizeLine ∧ Q (.str (i ++ j)) H) ∨ rCat x y H Q ∨ rCatA K x y H Q
  | .sub => rI0 fun i j => .int (i - j)
  | .mul => fun x y H Q => rI CMulW (fun i j => .int (i * j)) x y H Q ∨ rRep x y H Q
  | .fdiv => rI CDivW fun i j => .int (i / j)
  | .mod => rI (fun _ j => 0 < j) fun i j => .int (i % j)
  | .pow => rI CPow fun i j => .int (i ^ j.toNat)
  | .shl => rI CPow fun i j => .int (i * 2 ^ j.toNat)
  | .shr => rI (fun _ j => 0 ≤ j) fun i j => .int (i / 2 ^ j.toNat)
  | .band => rI0 fun i j => .int (Builtin.bitAnd i j)
  | .bor => rI0 fun i j => .int (Builtin.bitOr i j)
theorem opr_ok {X : Cx} : ∀ o : Op, OpR X (binaryOp o.py) (rOpr X.K o)
  | .add => op_add.or (op_add_str.or (op_cat.or op_catA))
  | .sub => op_sub
  | .mul => op_mulW.or op_rep
  | .fdiv => op_fdivW
  | .mod => op_mod
  | .pow => op_pow
  | .shl => op_shl
  | .shr => op_shr
  | .band => op_and
  | .bor => op_or
section
variable {K : PySem.W.Frag} {H : Hp} {Ow : Addr → Prop} {v w : V} {o o' : List Addr} {Q : VK} {k : D → Prop}
theorem OpEnd.int (h : OpEnd K H Ow k Q) {i : Int} (q : k (.int i)) : Q (.int i) H := h.1 (.int i) (.int i) ⟨rfl, rfl⟩ q
theorem addL {x y : D} (hk : lstK x fun l => lstK y fun m => l.length + m.length ≤ sizeLine ∧ k (.mu (l ++ m))) (rx : Rep K H Ow x v o) (ry : Rep K H Ow y w o') (h : OpEnd K H Ow k Q) : rCat v w H Q := by
  obtain ⟨l, a, xs, rfl, ha, hl, hk, _⟩ := rep_lstK hk rx
  obtain ⟨m, b, ys, rfl, hb, hm, hk, _⟩ := rep_lstK hk ry
  refine ⟨a, b, xs, ys, rfl, rfl, ha, hb, by rw [RepL.length l xs _ hl, RepL.length m ys _ hm]; exact hk.1, fun p hp => ?_⟩
  exact h.2.1 p (l ++ m) (xs ++ ys) hp (RepL.append l m xs ys [] [] hl hm) hk.2
theorem op_snd : ∀ (op : Op) (x y : D), opK op x y k → Rep K H Ow x v o → Rep K H Ow y w o' → OpEnd K H Ow k Q → rOpr K op v w H Q := by
  intro op x y hk rx ry h
  cases op with
  | add =>
    cases x with
    | int i =>
      cases y with
      | int j => obtain ⟨rfl, _⟩ := rx; obtain ⟨rfl, _⟩ := ry; exact .inl ⟨i, j, rfl, rfl, h.int hk⟩
      | _ => exact hk.elim
    | str i =>
      cases y with
      | str j => obtain ⟨rfl, _⟩ := rx; obtain ⟨rfl, _⟩ := ry; exact .inr (.inl ⟨i, j, rfl, rfl, hk.1, h.1 (.str (i ++ j)) _ ⟨rfl, rfl⟩ hk.2⟩)
      | _ => exact hk.elim
    | tup l =>
      cases y with
      | tup m =>
        have hk' : (match frzL l, frzL m with | true, true => l.length + m.length ≤ sizeLine ∧ k (.tup (l ++ m)) | _, _ => False) := hk
        cases f1 : frzL l with
        | false => rw [f1] at hk'; exact hk'.elim
        | true =>
          cases f2 : frzL m with
          | false => rw [f1, f2] at hk'; exact hk'.elim
          | true =>
            rw [f1, f2] at hk'
            obtain ⟨a, xs, rfl, ha, hl⟩ := id rx
            obtain ⟨b, ys, rfl, hb, hm⟩ := id ry
            have e1 := RepL.frz l xs _ hl f1
            have e2 := RepL.frz m ys _ hm f2
            subst e1 e2
            have l1 := RepL.length l xs _ hl
            have l2 := RepL.length m ys _ hm
            refine .inr (.inr (.inr ⟨a, b, xs, ys, rfl, rfl, ha.sq, hb.sq, by rw [l1, l2]; exact hk'.1, fun e => ?_, fun e e' => ?_, fun e e' p hp => ?_⟩))
            · have z : l = [] := List.length_eq_zero_iff.mp (by rw [← l1, e]; rfl)
              exact h.1 (.tup m) _ ry (by have := hk'.2; rw [z] at this; exact this)
            · have z : m = [] := List.length_eq_zero_iff.mp (by rw [← l2, e']; rfl)
              exact h.1 (.tup l) _ rx (by have := hk'.2; rw [z, List.append_nil] at this; exact this)
            · exact h.2.2 p (l ++ m) (xs ++ ys) hp (RepL.append l m xs ys [] [] hl hm) hk'.2
      | _ => exact hk.elim
    | lst l => exact .inr (.inr (.inl (addL (by cases y <;> exact hk) rx ry h)))
    | mu l => exact .inr (.inr (.inl (addL (by cases y <;> exact hk) rx ry h)))
    | _ => cases y <;> exact hk.elim
  | sub =>
    cases x <;> cases y <;> first | exact hk.elim | (obtain ⟨rfl, _⟩ := rx; obtain ⟨rfl, _⟩ := ry; exact ⟨_, _, rfl, rfl, h.int hk⟩)
  | mul =>
    cases x with
    | int i =>
      cases y with
      | int j => obtain ⟨rfl, _⟩ := rx; obtain ⟨rfl, _⟩ := ry; exact .inl ⟨i, j, rfl, rfl, wide_of hk.1 hk.2.1, h.int hk.2.2⟩
      | _ => exact hk.elim
    | lst l =>
      cases y with
      | int j =>
        obtain ⟨rfl, _⟩ := ry
        obtain ⟨a, xs, rfl, ha, hl, _⟩ := rx
        exact .inr ⟨a, j, xs, rfl, rfl, ha.1, hk.1, hk.2.1, by rw [RepL.length l xs _ hl]; exact hk.2.2.1, fun p hp => h.2.1 p _ _ hp (RepL.rep hl _) hk.2.2.2⟩
      | _ => exact hk.elim
    | mu l =>
      cases y with
      | int j =>
        obtain ⟨rfl, _⟩ := ry
        have hk' : (match frzL l with | true => -(2 ^ 63) ≤ j ∧ j < 2 ^ 63 ∧ l.length * j.toNat ≤ sizeLine ∧ k (.mu (List.replicate j.toNat l).flatten) | false => False) := hk
        cases f : frzL l with
        | false => rw [f] at hk'; exact hk'.elim
        | true =>
          rw [f] at hk'
          obtain ⟨a, xs, o1, rfl, ha, _, hl, _⟩ := rx
          have e1 := RepL.frz l xs _ hl f
          subst e1
          exact .inr ⟨a, j, xs, rfl, rfl, ha, hk'.1, hk'.2.1, by rw [RepL.length l xs _ hl]; exact hk'.2.2.1, fun p hp => h.2.1 p _ _ hp (RepL.rep hl _) hk'.2.2.2⟩
      | _ => exact hk.elim
    | _ => cases y <;> exact hk.elim
  | fdiv =>
    cases x <;> cases y <;> first | exact hk.elim | (obtain ⟨rfl, _⟩ := rx; obtain ⟨rfl, _⟩ := ry; exact ⟨_, _, rfl, rfl, wide_div hk.1 hk.2.1 (by decide) (by decide), h.int hk.2.2⟩)
  | mod =>
    cases x <;> cases y <;> first | exact hk.elim | (obtain ⟨rfl, _⟩ := rx; obtain ⟨rfl, _⟩ := ry; exact ⟨_, _, rfl, rfl, hk.1, h.int hk.2⟩)
  | pow =>
    cases x <;> cases y <;> first | exact hk.elim | (obtain ⟨rfl, _⟩ := rx; obtain ⟨rfl, _⟩ := ry; exact ⟨_, _, rfl, rfl, ⟨hk.1, Int.le_trans hk.2.1 (by decide), hk.2.2.1⟩, h.int hk.2.2.2⟩)
  | shl =>
    cases x <;> cases y <;> first | exact hk.elim | (obtain ⟨rfl, _⟩ := rx; obtain ⟨rfl, _⟩ := ry; exact ⟨_, _, rfl, rfl, ⟨hk.1, Int.le_trans hk.2.1 (by decide), hk.2.2.1⟩, h.int hk.2.2.2⟩)
  | shr =>
    cases x <;> cases y <;> first | exact hk.elim | (obtain ⟨rfl, _⟩ := rx; obtain ⟨rfl, _⟩ := ry; exact ⟨_, _, rfl, rfl, hk.1, h.int hk.2⟩)
  | band =>
    cases x <;> cases y <;> first | exact hk.elim | (obtain ⟨rfl, _⟩ := rx; obtain ⟨rfl, _⟩ := ry; exact ⟨_, _, rfl, rfl, h.int hk⟩)
  | bor =>
    cases x <;> cases y <;> first | exact hk.elim | (obtain ⟨rfl, _⟩ := rx; obtain ⟨rfl, _⟩ := ry; exact ⟨_, _, rfl, rfl, h.int hk⟩)
end

/-! ### comparisons -/
mutual
theorem rep_dp {K : PySem.W.Frag} {H : Hp} {Ow : Addr → Prop} : ∀ (d : D) (v : V) (o : List Addr), nohole d = true → Rep K H Ow d v o → Dp K H v (toPy d)
  | .hole, _, _, n, _ => by cases n
  | .non, _, _, _, h => by rw [h.1]; exact .non
  | .bl b, _, _, _, h => by rw [h.1]; exact .bl b
  | .int i, _, _, _, h => by rw [h.1]; exact .int i
  | .str s, _, _, _, h => by rw [h.1]; exact .str s
  | .tup l, v, o, n, h => by
    obtain ⟨a, xs, rfl, ht, hl⟩ := h
    exact .tup ht.sq (repL_dp l xs o n hl)
  | .lst l, v, o, n, h => by
    obtain ⟨a, xs, rfl, ht, hl, eo⟩ := h
    exact .lst ht.sq (repL_dp l xs [] n hl)
  | .mu l, v, o, n, h => by
    obtain ⟨a, xs, o', rfl, ht, _, hl, eo⟩ := h
    exact .lst (SqL.of ht) (repL_dp l xs o' n hl)
  | .scr l, _, _, n, _ => by cases n
theorem repL_dp {K : PySem.W.Frag} {H : Hp} {Ow : Addr → Prop} : ∀ (l : List D) (xs : List V) (o : List Addr), noholeL l = true → RepL K H Ow l xs o → DpAll K H xs (toPyL l)
  | [], _, _, _, h => by rw [h.1]; exact .nil
  | d :: ds, xs, o, n, h => by
    obtain ⟨v, vs, o1, o2, rfl, h1, h2, eo⟩ := h
    have n' : (nohole d && noholeL ds) = true := n
    rw [Bool.and_eq_true] at n'
    exact .cons (rep_dp d v o1 n'.1 h1) (repL_dp ds vs o2 n'.2 h2)
end
theorem rep_flatV {K : PySem.W.Frag} {H : Hp} {Ow : Addr → Prop} {d : D} {v : V} {o : List Addr} (h : flat d = true) (r : Rep K H Ow d v o) : flatV v = true := by
  cases d <;> first | exact absurd h Bool.false_ne_true | (obtain ⟨rfl, _⟩ := r; rfl)
theorem rep_eqF {K : PySem.W.Frag} {H : Hp} {Ow : Addr → Prop} {d e : D} {v w : V} {o o' : List Addr} (h : flat d = true) (h' : flat e = true) (r : Rep K H Ow d v o) (r' : Rep K H Ow e w o') : eqV v w = eqF d e := by
  cases d <;> first | exact absurd h Bool.false_ne_true | skip
  all_goals (cases e <;> first | exact absurd h' Bool.false_ne_true | (obtain ⟨rfl, _⟩ := r; obtain ⟨rfl, _⟩ := r'; rfl))
theorem rep_flatAll {K : PySem.W.Frag} {H : Hp} {Ow : Addr → Prop} : ∀ (l : List D) (xs : List V) (o : List Addr), l.all flat = true → RepL K H Ow l xs o → xs.all flatV = true
  | [], _, _, _, h => by rw [h.1]; rfl
  | d :: ds, xs, o, f, h => by
    obtain ⟨v, vs, o1, o2, rfl, h1, h2, eo⟩ := h
    rw [List.all_cons, Bool.and_eq_true] at f
    rw [List.all_cons, rep_flatV f.1 h1, rep_flatAll ds vs o2 f.2 h2]
    rfl
theorem rep_inF {K : PySem.W.Frag} {H : Hp} {Ow : Addr → Prop} {x : D} {v : V} {p : List Addr} (fx : flat x = true) (rx : Rep K H Ow x v p) : ∀ (l : List D) (xs : List V) (o : List Addr), l.all flat = true → RepL K H Ow l xs o → inV v xs = inF x l
  | [], _, _, _, h => by rw [h.1]; rfl
  | d :: ds, xs, o, f, h => by
    obtain ⟨v', vs, o1, o2, rfl, h1, h2, eo⟩ := h
    rw [List.all_cons, Bool.and_eq_true] at f
    have ih := rep_inF fx rx ds vs o2 f.2 h2
    unfold inV inF at ih ⊢
    rw [List.any_cons, List.any_cons, rep_eqF f.1 fx h1 rx, ih]

def rEqA (K : PySem.W.Frag) : R2 := fun x y H Q => rEq x y H Q ∨ rEqD K x y H Q
def rNeA (K : PySem.W.Frag) : R2 := fun x y H Q => rNe x y H Q ∨ rNeD K x y H Q
def rIsA : R2 := fun x y H Q => (y = .non ∧ Q (.bl (decide (x = .non))) H) ∨ rIsB x y H Q
def rNotA : R2 := fun x y H Q => (y = .non ∧ Q (.bl (!decide (x = .non))) H) ∨ rNotB x y H Q
def rCop (K : PySem.W.Frag) : Cop → R2
  | .eq => rEqA K | .ne => rNeA K
  | .lt => rI0 fun i j => .bl (decide (i < j)) | .le => rI0 fun i j => .bl (decide (i ≤ j)) | .gt => rI0 fun i j => .bl (decide (j < i)) | .ge => rI0 fun i j => .bl (decide (j ≤ i))
  | .is => rIsA | .isnot => rNotA
  | .isin => fun x y H Q => rIn K false x y H Q ∨ ∃ i j, x = .str i ∧ y = .str j ∧ Q (.bl (!(Builtin.Str.occurrences j i 0 j.length 1).isEmpty)) H
  | .notin => fun x y H Q => rIn K true x y H Q ∨ ∃ i j, x = .str i ∧ y = .str j ∧ Q (.bl (!(!(Builtin.Str.occurrences j i 0 j.length 1).isEmpty))) H
theorem cop_ok {X : Cx} (hu : X.A.units + 64 < cLine) : ∀ o : Cop, OpR X (compareOp o.py) (rCop X.K o)
  | .eq => op_eq.or (op_eqD hu)
  | .ne => op_ne.or (op_neD hu)
  | .lt => op_lt | .le => op_le | .gt => op_gt | .ge => op_ge
  | .is => op_isN.or op_isBl
  | .isnot => op_notN.or op_notBl
  | .isin => op_in_seq.or op_in_str
  | .notin => op_notIn_seq.or op_notin_str
section
variable {K : PySem.W.Frag} {H : Hp} {Ow : Addr → Prop} {v w : V} {o o' : List Addr} {Q : Bool → Prop} {R : VK} {k : Bool → Prop}
theorem isN_rep {x : D} (t : tyd x = true) (r : Rep K H Ow x v o) : decide (v = .non) = isN x := by
  cases x with
  | hole => cases t
  | non => rw [r.1]; rfl
  | bl b => rw [r.1]; rfl
  | int b => rw [r.1]; rfl
  | str b => rw [r.1]; rfl
  | tup l => obtain ⟨a, xs, rfl, _⟩ := r; rfl
  | lst l => obtain ⟨a, xs, rfl, _⟩ := r; rfl
  | mu l => obtain ⟨a, xs, o', rfl, _⟩ := r; rfl
  | scr l => cases t
theorem eq_snd {neg : Bool} {x y : D} (hk : eqK x y k) (rx : Rep K H Ow x v o) (ry : Rep K H Ow y w o') (h : ∀ b, k b → R (.bl (if neg = true then !b else b)) H) : if neg = true then rNeA K v w H R else rEqA K v w H R := by
  have sc : ∀ b, scal v w = true → decide (v = w) = b → k b → if neg = true then rNeA K v w H R else rEqA K v w H R := fun b h1 h2 h3 => by
    have q := h b h3
    cases neg with
    | true => exact .inl ⟨h1, by rw [h2]; exact q⟩
    | false => exact .inl ⟨h1, by rw [h2]; exact q⟩
  have dt : nohole x = true ∧ nohole y = true ∧ SeqAt.shaped (toPy x) = true ∧ SeqAt.shaped (toPy y) = true ∧ k (PyData.eqv (toPy x) (toPy y)) → if neg = true then rNeA K v w H R else rEqA K v w H R := fun ⟨n1, n2, s1, s2, q⟩ => by
    have q' := h _ q
    cases neg with
    | true => exact .inr ⟨_, _, rep_dp x v o n1 rx, rep_dp y w o' n2 ry, s1, s2, q'⟩
    | false => exact .inr ⟨_, _, rep_dp x v o n1 rx, rep_dp y w o' n2 ry, s1, s2, q'⟩
  cases x with
  | int i =>
    cases y with
    | int j => obtain ⟨rfl, _⟩ := rx; obtain ⟨rfl, _⟩ := ry; exact sc _ rfl (by simp) hk
    | non => obtain ⟨rfl, _⟩ := rx; obtain ⟨rfl, _⟩ := ry; exact sc _ rfl (by simp) hk
    | str j => obtain ⟨rfl, _⟩ := rx; obtain ⟨rfl, _⟩ := ry; exact sc _ rfl (by simp) hk
    | _ => exact dt hk
  | str i =>
    cases y with
    | str j => obtain ⟨rfl, _⟩ := rx; obtain ⟨rfl, _⟩ := ry; exact sc _ rfl (by simp) hk
    | non => obtain ⟨rfl, _⟩ := rx; obtain ⟨rfl, _⟩ := ry; exact sc _ rfl (by simp) hk
    | int j => obtain ⟨rfl, _⟩ := rx; obtain ⟨rfl, _⟩ := ry; exact sc _ rfl (by simp) hk
    | _ => exact dt hk
  | bl i =>
    cases y with
    | bl j => obtain ⟨rfl, _⟩ := rx; obtain ⟨rfl, _⟩ := ry; exact sc _ rfl (by simp) hk
    | _ => exact dt hk
  | non =>
    cases y with
    | non => obtain ⟨rfl, _⟩ := rx; obtain ⟨rfl, _⟩ := ry; exact sc _ rfl (by simp) hk
    | int j => obtain ⟨rfl, _⟩ := rx; obtain ⟨rfl, _⟩ := ry; exact sc _ rfl (by simp) hk
    | str j => obtain ⟨rfl, _⟩ := rx; obtain ⟨rfl, _⟩ := ry; exact sc _ rfl (by simp) hk
    | _ => exact dt hk
  | _ => exact dt (by cases y <;> exact hk)
theorem mem_snd {neg : Bool} {x y : D} (hk : memK x y k) (rx : Rep K H Ow x v o) (ry : Rep K H Ow y w o') (h : ∀ b, k b → R (.bl (if neg = true then !b else b)) H) : rCop K (if neg = true then .notin else .isin) v w H R := by
  have sq : ∀ (l : List D) (p : Addr) (xs : List V) (o1 : List Addr), w = .ref p → (SqL K H p xs ∨ SqT K H p xs) → RepL K H Ow l xs o1 → flat x = true → l.all flat = true → k (inF x l) → rCop K (if neg = true then .notin else .isin) v w H R := fun l p xs o1 e hs hl f1 f2 q => by
    have q' := h _ q
    have z : rIn K neg v w H R := ⟨p, xs, e, hs, rep_flatV f1 rx, rep_flatAll l xs o1 f2 hl, by rw [rep_inF f1 rx l xs o1 f2 hl]; exact q'⟩
    cases neg with
    | true => exact .inl z
    | false => exact .inl z
  have st : ∀ i j, x = .str i → y = .str j → k (!(Builtin.Str.occurrences j i 0 j.length 1).isEmpty) → rCop K (if neg = true then .notin else .isin) v w H R := fun i j e1 e2 q => by
    subst e1 e2
    obtain ⟨rfl, _⟩ := rx
    obtain ⟨rfl, _⟩ := ry
    have q' := h _ q
    cases neg with
    | true => exact .inr ⟨i, j, rfl, rfl, q'⟩
    | false => exact .inr ⟨i, j, rfl, rfl, q'⟩
  cases y with
  | lst l =>
    obtain ⟨a, xs, rfl, ht, hl, eo⟩ := ry
    have hk' : flat x = true ∧ l.all flat = true ∧ k (inF x l) := by cases x <;> exact hk
    exact sq l a xs [] rfl (.inl ht.sq) hl hk'.1 hk'.2.1 hk'.2.2
  | mu l =>
    obtain ⟨a, xs, o1, rfl, ht, _, hl, eo⟩ := ry
    have hk' : flat x = true ∧ l.all flat = true ∧ k (inF x l) := by cases x <;> exact hk
    exact sq l a xs o1 rfl (.inl (SqL.of ht)) hl hk'.1 hk'.2.1 hk'.2.2
  | tup l =>
    obtain ⟨a, xs, rfl, ht, hl⟩ := ry
    have hk' : flat x = true ∧ l.all flat = true ∧ k (inF x l) := by cases x <;> exact hk
    exact sq l a xs o' rfl (.inr ht.sq) hl hk'.1 hk'.2.1 hk'.2.2
  | str j =>
    cases x with
    | str i => exact st i j rfl rfl hk
    | _ => exact hk.elim
  | _ => cases x <;> exact hk.elim
theorem cop_snd : ∀ (op : Cop) (x y : D), copK op x y k → Rep K H Ow x v o → Rep K H Ow y w o' → (∀ b, k b → R (.bl b) H) → rCop K op v w H R := by
  intro op x y hk rx ry h
  cases op with
  | eq => exact eq_snd (neg := false) (k := k) (by cases x <;> cases y <;> exact hk) rx ry h
  | ne => exact eq_snd (neg := true) (k := fun b => k (!b)) (by cases x <;> cases y <;> exact hk) rx ry fun b q => h _ q
  | lt => cases x <;> cases y <;> first | exact hk.elim | (obtain ⟨rfl, _⟩ := rx; obtain ⟨rfl, _⟩ := ry; exact ⟨_, _, rfl, rfl, h _ hk⟩)
  | le => cases x <;> cases y <;> first | exact hk.elim | (obtain ⟨rfl, _⟩ := rx; obtain ⟨rfl, _⟩ := ry; exact ⟨_, _, rfl, rfl, h _ hk⟩)
  | gt => cases x <;> cases y <;> first | exact hk.elim | (obtain ⟨rfl, _⟩ := rx; obtain ⟨rfl, _⟩ := ry; exact ⟨_, _, rfl, rfl, h _ hk⟩)
  | ge => cases x <;> cases y <;> first | exact hk.elim | (obtain ⟨rfl, _⟩ := rx; obtain ⟨rfl, _⟩ := ry; exact ⟨_, _, rfl, rfl, h _ hk⟩)
  | is =>
    cases y with
    | non =>
      have hk' : tyd x = true ∧ k (isN x) := by cases x <;> exact hk
      obtain ⟨rfl, _⟩ := ry
      exact .inl ⟨rfl, by rw [isN_rep hk'.1 rx]; exact h _ hk'.2⟩
    | bl j =>
      cases x with
      | bl i => obtain ⟨rfl, _⟩ := rx; obtain ⟨rfl, _⟩ := ry; exact .inr ⟨_, _, rfl, rfl, h _ hk⟩
      | _ => exact hk.elim
    | _ => cases x <;> exact hk.elim
  | isnot =>
    cases y with
    | non =>
      have hk' : tyd x = true ∧ k (!isN x) := by cases x <;> exact hk
      obtain ⟨rfl, _⟩ := ry
      exact .inl ⟨rfl, by rw [isN_rep hk'.1 rx]; exact h _ hk'.2⟩
    | bl j =>
      cases x with
      | bl i => obtain ⟨rfl, _⟩ := rx; obtain ⟨rfl, _⟩ := ry; exact .inr ⟨_, _, rfl, rfl, h _ hk⟩
      | _ => exact hk.elim
    | _ => cases x <;> exact hk.elim
  | isin => exact mem_snd (neg := false) (k := k) (by cases x <;> cases y <;> exact hk) rx ry h
  | notin => exact mem_snd (neg := true) (k := fun b => k (!b)) (by cases x <;> cases y <;> exact hk) rx ry fun b q => h _ q
end
end Tr

set_option maxRecDepth 100000
set_option maxHeartbeats 4000000
/-! The meaning of code is what the program does: expressions. -/
namespace Tr
open PySem PySem.Spec PyProof.Rows L2

/-! ### values handed on -/
theorem fzK_eq {d : D} {k : D → Prop} (h : fzK d k) : k (freeze d) := by
  cases d with
  | hole => exact h.elim
  | mu l =>
    have h' : (match frzL l with | true => k (.lst l) | false => k (.lst (freezeL l))) := h
    show k (.lst (freezeL l))
    cases f : frzL l with
    | true => rw [f] at h'; rw [freezeL_frz l f]; exact h'
    | false => rw [f] at h'; exact h'
  | tup l =>
    have h' : (match frzL l with | true => k (.tup l) | false => k (.tup (freezeL l))) := h
    show k (.tup (freezeL l))
    cases f : frzL l with
    | true => rw [f] at h'; rw [freezeL_frz l f]; exact h'
    | false => rw [f] at h'; exact h'
  | _ => exact h
theorem set_same {ρ : Env} {i : Nat} {d : D} (h : gE ρ i = some d) : ρ.set i (some d) = ρ := by
  have hi := gE_lt h
  rw [gE_get, List.getElem?_eq_getElem hi] at h
  have e : ρ[i] = some d := h
  rw [← e, List.set_getElem_self]
theorem varK_eq {i : Nat} {ρ : Env} {d : D} {k : D → Env → Prop} (hg : gE ρ i = some d) (h : varK i ρ d k) : d ≠ .hole ∧ k (freeze d) (ρ.set i (some (freeze d))) := by
  cases d with
  | hole => exact h.elim
  | mu l =>
    refine ⟨(fun z => nomatch z), ?_⟩
    have h' : (match frzL l with | true => setK ρ i (some (.lst l)) fun ρ' => k (.lst l) ρ' | false => setK ρ i (some (.lst (freezeL l))) fun ρ' => k (.lst (freezeL l)) ρ') := h
    show k (.lst (freezeL l)) _
    cases f : frzL l with
    | true =>
      rw [f] at h'
      have q := (setK_eq _ _ _ _).mp h'
      show k (.lst (freezeL l)) (ρ.set i (some (.lst (freezeL l))))
      rw [freezeL_frz l f]; exact q
    | false => rw [f] at h'; exact (setK_eq _ _ _ _).mp h'
  | tup l =>
    refine ⟨(fun z => nomatch z), ?_⟩
    have h' : (match frzL l with | true => k (.tup l) ρ | false => setK ρ i (some (.tup (freezeL l))) fun ρ' => k (.tup (freezeL l)) ρ') := h
    show k (.tup (freezeL l)) (ρ.set i (some (.tup (freezeL l))))
    cases f : frzL l with
    | true => rw [f] at h'; rw [freezeL_frz l f, set_same hg]; exact h'
    | false => rw [f] at h'; exact (setK_eq _ _ _ _).mp h'
  | _ =>
    refine ⟨(fun z => nomatch z), ?_⟩
    show k _ (ρ.set i (some _))
    first
      | (rw [show (freeze _ : D) = _ from rfl, set_same hg]; exact h)
      | (have e := set_same hg; simp only [freeze]; rw [e]; exact h)
section
variable {K : PySem.W.Frag} {n : Nat} {σ : L2.St} {H H1 H2 : Hp} {Ow Ow1 Ow2 : Addr → Prop} {os os1 os2 : Os} {ρ ρ1 ρ2 : Env} {v : V} {o o1 : List Addr} {d : D}
/-- a name's value is frozen -/
theorem St.freeze {i : Nat} (S : St K n H Ow σ ρ os) (hg : gE ρ i = some d) (hv : σ[i]? = some (some v)) (r : Rep K H Ow d v (os i)) :
    St K n H (Tr.minus Ow (os i)) σ (ρ.set i (some (Tr.freeze d))) (updO os i []) ∧ Stp H Ow os H (Tr.minus Ow (os i)) (updO os i []) [] ∧ Rep K H (Tr.minus Ow (os i)) (Tr.freeze d) v [] := by
  have r' : Rep K H (Tr.minus Ow (os i)) (Tr.freeze d) v [] := Rep.freeze (fun b x _ no z => no z.1) d v (os i) (fun b hb z => z.2 hb) r
  have hi : i < n := by rw [← S.lnr]; exact gE_lt hg
  have S1 : St K n H (Tr.minus Ow (os i)) σ (ρ.set i none) (updO os i []) := S.drop'.minus fun b hb => S.apart hb
  have S2 := S1.set hi r' List.nodup_nil (fun _ z => nomatch z)
  have e1 : σ.set i (some v) = σ := by
    obtain ⟨h1, h2⟩ := List.getElem?_eq_some_iff.mp hv
    rw [← h2, List.set_getElem_self]
  have e2 : updO (updO os i []) i [] = updO os i [] := by
    funext j
    by_cases hj : j = i
    · rw [hj, updO_same, updO_same]
    · rw [updO_ne hj]
  rw [e1, e2, List.set_set] at S2
  refine ⟨S2, ⟨fun _ _ h _ => h, fun _ x h => ⟨x, h⟩, fun _ h => .inl h.1, fun b h no => ⟨h, fun z => no ⟨i, z⟩⟩, fun b h => ?_⟩, r'⟩
  rcases h with h | h
  · rcases inO_upd h with h | h
    · cases h
    · exact .inl h
  · cases h
/-- a temporary thing is frozen -/
theorem Res.freeze {q qu : Bool} (r : Res K n σ H Ow os ρ false qu v H1 Ow1 os1 o d ρ1) (al : ∀ b, Ow b → ∃ x, H b = some x) : Res K n σ H Ow os ρ q false v H1 (Tr.minus Ow1 o) os1 [] (Tr.freeze d) ρ1 :=
  ⟨r.stp.minus al, r.st.minus (r.own.2), Rep.freeze (fun b x _ no z => no z.1) d v o (fun b hb z => z.2 hb) r.rep, OwnR.nil, fun z => nomatch z⟩
end

section
variable {G : Gt} {C : Sem} {N : List Str} {sc : Scope}
theorem gK_of {b : Bool} {A : Prop} (h : gK b A) : b = true ∧ A := by
  cases b with
  | true => exact ⟨rfl, h⟩
  | false => exact h.elim
theorem toV_var {i : Nat} {r : Env → (D → Env → Prop) → Prop} {ρ : Env} {k : D → Env → Prop} (h : toV (.var i) r ρ k) : getK (gE ρ i) fun d => varK i ρ d k := h
theorem getK_some {o : Option D} {k : D → Prop} (h : getK o k) : ∃ d, o = some d ∧ k d := by
  cases o with
  | none => exact h.elim
  | some d => exact ⟨d, rfl, h⟩
theorem pure2 {a b : E} (h : (match pure? a with | true => pure? b | false => false) = true) : pure? a = true ∧ pure? b = true := by
  cases e : pure? a with
  | true => rw [e] at h; exact ⟨rfl, h⟩
  | false => rw [e] at h; cases h

theorem s_cst {c : Cst} {k0 pos} : SndE G C N sc (.cst c) (.Constant c.k k0 pos) := by
  intro X W hN hsc σ H ρ Ow os k Q S hk hK
  have fin : ∀ (u : V), Rep X.K H Ow c.d u [] → Q u H := fun u h => hK u H Ow os [] c.d ρ (Res.of_st S h) hk
  cases c with
  | non => exact pe_tw pe_non (fin _ ⟨rfl, rfl⟩)
  | bl b => exact pe_tw pe_bl (fin _ ⟨rfl, rfl⟩)
  | int i => exact pe_tw pe_int (fin _ ⟨rfl, rfl⟩)
  | str s => exact pe_tw pe_str (fin _ ⟨rfl, rfl⟩)
theorem s_glob {x : Str} {c : Cst} {pos} (h1 : G.cn x = some c) (h2 : glB sc x = true) (h3 : dbgB x = true) : SndE G C N sc (.glob x c) (.Name x pos) := by
  intro X W hN hsc σ H ρ Ow os k Q S hk hK
  obtain ⟨u, v, e, r, hv⟩ := W.cn x c h1
  refine pe_tw (pe_glob (glB_ok (by rw [hsc]; exact h2)) e r (dbgB_ok h3).1) ?_
  refine hK v H Ow os [] c.d ρ (Res.of_st S ?_) hk
  cases c <;> exact ⟨hv, rfl⟩
theorem s_var {i : Nat} {x : Str} {pos} (h1 : N[i]? = some x) (h2 : visB sc x = true) (h3 : dbgB x = true) : SndE G C N sc (.var i) (.Name x pos) := by
  intro X W hN hsc σ H ρ Ow os k Q S hk hK
  obtain ⟨d, e, hk⟩ := getK_some hk
  obtain ⟨v, hv, r⟩ := S.rep i d e
  refine pe_tw (pe_var (by rw [hN]; exact h1) (visB_ok (by rw [hsc]; exact h2)) (dbgB_ok h3).1 (dbgB_ok h3).2) ⟨v, hv, ?_⟩
  exact hK v H Ow os (os i) d ρ ⟨Stp.refl.weak fun b hb => .inr ⟨i, hb⟩, S, r, fun b hb => ⟨i, hb⟩, fun _ => ⟨rfl, rfl, Same.refl H⟩⟩ hk
theorem v_var {i : Nat} {x : Str} {pos} (h1 : N[i]? = some x) (h2 : visB sc x = true) (h3 : dbgB x = true) : SndV G C N sc (.var i) (.Name x pos) := by
  intro X W hN hsc σ H ρ Ow os k Q S hk hK
  obtain ⟨d, e, hk⟩ := getK_some (toV_var hk)
  obtain ⟨v, hv, r⟩ := S.rep i d e
  obtain ⟨nh, hk⟩ := varK_eq e hk
  refine pe_tw (pe_var (by rw [hN]; exact h1) (visB_ok (by rw [hsc]; exact h2)) (dbgB_ok h3).1 (dbgB_ok h3).2) ⟨v, hv, ?_⟩
  obtain ⟨S', s', r'⟩ := S.freeze e hv r
  exact hK v H _ _ [] _ _ ⟨s', S', r', OwnR.nil, fun z => nomatch z⟩ hk
/-- any expression but a name -/
theorem v_of {e : E} {a : Expr} (h : SndE G C N sc e a) (hv : isVar e = none) : SndV G C N sc e a := by
  intro X W hN hsc σ H ρ Ow os k Q S hk hK
  unfold toV at hk
  rw [hv] at hk
  cases hp : isPath e with
  | true =>
    simp only [hp] at hk
    refine h X W hN hsc σ H ρ Ow os _ Q S hk fun v H1 Ow1 os1 o1 d ρ1 r hk1 => ?_
    obtain ⟨f, hk2⟩ := gK_of hk1
    have e0 := Rep.frz d v o1 r.rep f
    subst e0
    exact hK v H1 Ow1 os1 [] d ρ1 ⟨r.stp, r.st, r.rep, OwnR.nil, fun z => nomatch z⟩ hk2
  | false =>
    simp only [hp] at hk
    refine h X W hN hsc σ H ρ Ow os k Q S hk fun v H1 Ow1 os1 o1 d ρ1 r hk1 => ?_
    rw [hp] at r
    exact hK v H1 Ow1 os1 o1 d ρ1 ⟨r.stp, r.st, r.rep, r.own, fun z => nomatch z⟩ hk1

theorem s_bin {o : Op} {a b : E} {x y : Expr} {pos} (ha : SndE G C N sc a x) (hb : SndE G C N sc b y) : SndE G C N sc (.bin o a b) (.BinOp x o.py y pos) := by
  intro X W hN hsc σ H ρ Ow os k Q S hk hK
  refine pe_tw (pe_op (opr_ok o) (tw_pe X x) (tw_pe X y)) ?_
  refine ha X W hN hsc σ H ρ Ow os _ _ S hk fun v H1 Ow1 os1 o1 d1 ρ1 r1 hk1 => ?_
  obtain ⟨hs, hk1'⟩ := gK_of hk1
  refine hb X W hN hsc σ H1 ρ1 Ow1 os1 _ _ r1.st hk1' fun w H2 Ow2 os2 o2 d2 ρ2 r2 hk2 => ?_
  have rx := r1.keep r2 hs
  have r12 := Res.two (qv := pure? (.bin o a b)) S.al r1 r2 fun z => pure2 z
  exact op_snd o d1 d2 hk2 rx r2.rep ⟨fun z u hz q => hK _ _ _ _ _ _ _ (r12.plain hz id) q, fun p l xs hp hl q => hK _ _ _ _ _ _ _ (Res.newL (⟨r12.stp, r12.st, r12.rep, r12.own, r12.pu⟩ : Res X.K N.length σ H Ow os ρ (isPath b) _ _ H2 Ow2 os2 o2 d2 ρ2) S.al hp hl id rfl) q,
    fun p l xs hp hl q => hK _ _ _ _ _ _ _ (Res.newT r12 S.al hp hl id) q⟩
theorem intK_some {d : D} {k : Int → Prop} (h : intK d k) : ∃ i, d = .int i ∧ k i := by
  cases d <;> first | exact h.elim | exact ⟨_, rfl, h⟩
theorem blK_some {d : D} {k : Bool → Prop} (h : blK d k) : ∃ b, d = .bl b ∧ k b := by
  cases d <;> first | exact h.elim | exact ⟨_, rfl, h⟩
theorem s_neg {a : E} {x : Expr} {pos} (ha : SndE G C N sc a x) : SndE G C N sc (.neg a) (.UnaryOp .USub x pos) := by
  intro X W hN hsc σ H ρ Ow os k Q S hk hK
  refine pe_tw (pe_un un_neg (tw_pe X x)) ?_
  refine ha X W hN hsc σ H ρ Ow os _ _ S hk fun v H1 Ow1 os1 o1 d1 ρ1 r1 hk1 => ?_
  obtain ⟨i, rfl, hk2⟩ := intK_some hk1
  obtain ⟨rfl, _⟩ := id r1.rep
  exact ⟨i, rfl, hK _ _ _ _ _ _ _ (r1.plain rep_int id) hk2⟩
theorem s_cmp {o : Cop} {a b : E} {x y : Expr} {pos} (ha : SndE G C N sc a x) (hb : SndE G C N sc b y) (hm : behindInMarks o.py y = false) : SndE G C N sc (.cmp o a b) (.Compare x [o.py] [y] pos) := by
  intro X W hN hsc σ H ρ Ow os k Q S hk hK
  refine pe_tw (pe_cmpR (cop_ok W.un o) (tw_pe X x) (tw_pe X y) hm) ?_
  refine ha X W hN hsc σ H ρ Ow os _ _ S hk fun v H1 Ow1 os1 o1 d1 ρ1 r1 hk1 => ?_
  obtain ⟨hs, hk1'⟩ := gK_of hk1
  refine hb X W hN hsc σ H1 ρ1 Ow1 os1 _ _ r1.st hk1' fun w H2 Ow2 os2 o2 d2 ρ2 r2 hk2 => ?_
  have rx := r1.keep r2 hs
  have r12 := Res.two (qv := pure? (.cmp o a b)) S.al r1 r2 fun z => pure2 z
  exact cop_snd o d1 d2 hk2 rx r2.rep fun z q => hK _ _ _ _ _ _ _ (r12.plain rep_bl id) q
theorem t_cmp {o : Cop} {a b : E} {x y : Expr} {pos} (ha : SndE G C N sc a x) (hb : SndE G C N sc b y) (hm : behindInMarks o.py y = false) : SndT G C N sc (.cmp o a b) (.Compare x [o.py] [y] pos) := by
  intro X W hN hsc σ H ρ Ow os k Q S hk hK
  refine pt_tw (pt_cmpR (cop_ok W.un o) (tw_pe X x) (tw_pe X y) hm) ?_
  refine ha X W hN hsc σ H ρ Ow os _ _ S hk fun v H1 Ow1 os1 o1 d1 ρ1 r1 hk1 => ?_
  obtain ⟨hs, hk1'⟩ := gK_of hk1
  refine hb X W hN hsc σ H1 ρ1 Ow1 os1 _ _ r1.st hk1' fun w H2 Ow2 os2 o2 d2 ρ2 r2 hk2 => ?_
  have rx := r1.keep r2 hs
  have r12 := Res.two (qv := false) S.al r1 r2 fun z => nomatch z
  exact cop_snd o d1 d2 hk2 rx r2.rep fun z q => ⟨z, rfl, hK _ _ _ _ _ r12.stp.drop0 r12.st q⟩
/-- a test by its value -/
theorem t_val {e : E} {a : Expr} (h : SndE G C N sc e a) (hi : ∀ env whole, isTrue a env whole = (do let v ← whole; standAt a.pos; holding [v] (truthy v))) :
    SndT G C N sc e a := by
  intro X W hN hsc σ H ρ Ow os k Q S hk hK
  refine pt_tw (pt_val (tw_pe X a) (hi X.env)) ?_
  refine h X W hN hsc σ H ρ Ow os _ _ S hk fun v H1 Ow1 os1 o1 d1 ρ1 r1 hk1 => ?_
  obtain ⟨b, rfl, hk2⟩ := blK_some hk1
  obtain ⟨rfl, _⟩ := id r1.rep
  exact ⟨b, rfl, hK _ _ _ _ _ r1.stp.drop0 r1.st hk2⟩
end
end Tr

set_option maxRecDepth 100000
set_option maxHeartbeats 4000000
/-! Expressions, second part: tests, choices, items, displays, built-in functions. -/
namespace Tr
open PySem PySem.Spec PyProof.Rows L2
section
variable {G : Gt} {C : Sem} {N : List Str} {sc : Scope}
theorem br_ite {b : Bool} {A B P R : Prop} (h : br b A B) (ha : A → P) (hb : B → R) : if b = true then P else R := by
  cases b with
  | true => exact iteT (ha (h.1 rfl))
  | false => exact iteF (hb (h.2 rfl))

theorem s_not {a : E} {x : Expr} {pos} (ha : SndE G C N sc a x) : SndE G C N sc (.not a) (.UnaryOp .Not x pos) := by
  intro X W hN hsc σ H ρ Ow os k Q S hk hK
  refine pe_tw (pe_not (tw_pe X x)) ?_
  refine ha X W hN hsc σ H ρ Ow os _ _ S hk fun v H1 Ow1 os1 o1 d1 ρ1 r1 hk1 => ?_
  obtain ⟨b, rfl, hk2⟩ := blK_some hk1
  obtain ⟨rfl, _⟩ := id r1.rep
  exact ⟨b, rfl, hK _ _ _ _ _ _ _ (r1.plain rep_bl fun z => nomatch z) hk2⟩
theorem t_not {a : E} {x : Expr} {pos} (ha : SndT G C N sc a x) : SndT G C N sc (.not a) (.UnaryOp .Not x pos) := by
  intro X W hN hsc σ H ρ Ow os k Q S hk hK
  refine pt_tw (pt_not (twT_pt X x)) ?_
  exact ha X W hN hsc σ H ρ Ow os (fun b ρ' => k (!b) ρ') _ S hk fun b H1 Ow1 os1 ρ1 s1 S1 hk1 => hK _ _ _ _ _ s1 S1 hk1
theorem Res.seq {K : PySem.W.Frag} {n : Nat} {σ : L2.St} {H H1 H2 : Hp} {Ow Ow1 Ow2 : Addr → Prop} {os os1 os2 : Os} {ρ ρ1 ρ2 : Env} {q qu qv : Bool} {v2 : V} {o2 : List Addr} {d2 : D} (al : ∀ b, Ow b → ∃ x, H b = some x) (s1 : Stp H Ow os H1 Ow1 os1 []) (r2 : Res K n σ H1 Ow1 os1 ρ1 q qu v2 H2 Ow2 os2 o2 d2 ρ2) (hv : qv = false) : Res K n σ H Ow os ρ q qv v2 H2 Ow2 os2 o2 d2 ρ2 :=
  ⟨(s1.trans al r2.stp).weak fun b hb => .inl (by simpa using hb), r2.st, r2.rep, r2.own, fun z => by rw [hv] at z; cases z⟩
theorem s_and {a b : E} {x y : Expr} {rest : List Expr} {pos} (ha : SndE G C N sc a x) (hb : ∀ X : Cx, Wd G C X → X.N = N → X.env.scope = sc → ∀ σ H ρ Ow os k Q, St X.K N.length H Ow σ ρ os → evE C b ρ k → Kn X.K N.length σ H Ow os ρ (isPath b) (pure? b) k Q → tw X (.BoolOp .And (y :: rest) pos) σ H Q) :
    SndE G C N sc (.and a b) (.BoolOp .And (x :: y :: rest) pos) := by
  intro X W hN hsc σ H ρ Ow os k Q S hk hK
  refine pe_tw (pe_and (tw_pe X x) (tw_pe X _)) ?_
  refine ha X W hN hsc σ H ρ Ow os _ _ S hk fun v H1 Ow1 os1 o1 d1 ρ1 r1 hk1 => ?_
  obtain ⟨c, rfl, hk2⟩ := blK_some hk1
  obtain ⟨rfl, _⟩ := id r1.rep
  refine ⟨c, rfl, br_ite hk2 (fun h => ?_) fun h => hK _ _ _ _ _ _ _ (r1.plain rep_bl fun z => nomatch z) h⟩
  refine hb X W hN hsc σ H1 ρ1 Ow1 os1 _ _ r1.st h fun w H2 Ow2 os2 o2 d2 ρ2 r2 hk3 => ?_
  obtain ⟨c', rfl, hk4⟩ := blK_some hk3
  obtain ⟨rfl, _⟩ := id r2.rep
  exact hK _ _ _ _ _ _ _ ((Res.two (qv := false) S.al r1 r2 fun z => nomatch z).plain rep_bl fun z => nomatch z) hk4
theorem s_or {a b : E} {x y : Expr} {rest : List Expr} {pos} (ha : SndE G C N sc a x) (hb : ∀ X : Cx, Wd G C X → X.N = N → X.env.scope = sc → ∀ σ H ρ Ow os k Q, St X.K N.length H Ow σ ρ os → evE C b ρ k → Kn X.K N.length σ H Ow os ρ (isPath b) (pure? b) k Q → tw X (.BoolOp .Or (y :: rest) pos) σ H Q) :
    SndE G C N sc (.or a b) (.BoolOp .Or (x :: y :: rest) pos) := by
  intro X W hN hsc σ H ρ Ow os k Q S hk hK
  refine pe_tw (pe_or (tw_pe X x) (tw_pe X _)) ?_
  refine ha X W hN hsc σ H ρ Ow os _ _ S hk fun v H1 Ow1 os1 o1 d1 ρ1 r1 hk1 => ?_
  obtain ⟨c, rfl, hk2⟩ := blK_some hk1
  obtain ⟨rfl, _⟩ := id r1.rep
  refine ⟨c, rfl, br_ite hk2 (fun h => hK _ _ _ _ _ _ _ (r1.plain rep_bl fun z => nomatch z) h) fun h => ?_⟩
  refine hb X W hN hsc σ H1 ρ1 Ow1 os1 _ _ r1.st h fun w H2 Ow2 os2 o2 d2 ρ2 r2 hk3 => ?_
  obtain ⟨c', rfl, hk4⟩ := blK_some hk3
  obtain ⟨rfl, _⟩ := id r2.rep
  exact hK _ _ _ _ _ _ _ ((Res.two (qv := false) S.al r1 r2 fun z => nomatch z).plain rep_bl fun z => nomatch z) hk4
theorem s_one {op : BoolOp} {b : E} {y : Expr} {pos} (hb : SndE G C N sc b y) : ∀ X : Cx, Wd G C X → X.N = N → X.env.scope = sc → ∀ σ H ρ Ow os k Q, St X.K N.length H Ow σ ρ os → evE C b ρ k → Kn X.K N.length σ H Ow os ρ (isPath b) (pure? b) k Q → tw X (.BoolOp op [y] pos) σ H Q :=
  fun X W hN hsc σ H ρ Ow os k Q S hk hK => pe_tw (pe_one (tw_pe X y)) (hb X W hN hsc σ H ρ Ow os k Q S hk hK)
/-- and, or as tests -/
def SndW (G : Gt) (C : Sem) (N : List Str) (sc : Scope) (e : E) (a : Expr) : Prop :=
  ∀ X : Cx, Wd G C X → X.N = N → X.env.scope = sc → ∃ t, PW X a t ∧ ∀ σ H ρ Ow os (k : Bool → Env → Prop) (Q : Bool → Hp → Prop), St X.K N.length H Ow σ ρ os → evE C e ρ (fun d ρ' => blK d fun b => k b ρ') →
    (∀ b H' Ow' os' ρ', Stp H Ow os H' Ow' os' [] → St X.K N.length H' Ow' σ ρ' os' → k b ρ' → Q b H') → t σ H Q
theorem w_t {e : E} {a : Expr} (h : SndW G C N sc e a) : SndT G C N sc e a := by
  intro X W hN hsc σ H ρ Ow os k Q S hk hK
  obtain ⟨t, ht, q⟩ := h X W hN hsc
  exact pt_tw ht.pt (q σ H ρ Ow os k Q S hk hK)
theorem w_and1 {b : E} {y : Expr} {pos} (hb : SndT G C N sc b y) : SndW G C N sc b (.BoolOp .And [y] pos) := fun X W hN hsc =>
  ⟨_, pw_and1 (twT_pt X y), fun σ H ρ Ow os k Q S hk hK => hb X W hN hsc σ H ρ Ow os k Q S hk hK⟩
theorem w_or1 {b : E} {y : Expr} {pos} (hb : SndT G C N sc b y) : SndW G C N sc b (.BoolOp .Or [y] pos) := fun X W hN hsc =>
  ⟨_, pw_or1 (twT_pt X y), fun σ H ρ Ow os k Q S hk hK => hb X W hN hsc σ H ρ Ow os k Q S hk hK⟩
theorem w_and {a b : E} {x y : Expr} {rest : List Expr} {pos} (ha : SndT G C N sc a x) (hb : SndW G C N sc b (.BoolOp .And (y :: rest) pos)) : SndW G C N sc (.and a b) (.BoolOp .And (x :: y :: rest) pos) := by
  intro X W hN hsc
  obtain ⟨t, ht, q⟩ := hb X W hN hsc
  refine ⟨_, pw_and (twT_pt X x) ht, fun σ H ρ Ow os k Q S hk hK => ?_⟩
  refine ha X W hN hsc σ H ρ Ow os (fun c ρ1 => br c (evE C b ρ1 fun y ρ2 => blK y fun c' => k c' ρ2) (k false ρ1)) _ S hk fun c H1 Ow1 os1 ρ1 s1 S1 hk1 => ?_
  refine br_ite hk1 (fun h => ?_) fun h => hK _ _ _ _ _ s1 S1 h
  refine q σ H1 ρ1 Ow1 os1 k Q S1 h fun b H2 Ow2 os2 ρ2 s2 S2 hk2 => ?_
  exact hK _ _ _ _ _ ((s1.trans S.al s2).weak fun b hb => nomatch hb) S2 hk2
theorem w_or {a b : E} {x y : Expr} {rest : List Expr} {pos} (ha : SndT G C N sc a x) (hb : SndW G C N sc b (.BoolOp .Or (y :: rest) pos)) : SndW G C N sc (.or a b) (.BoolOp .Or (x :: y :: rest) pos) := by
  intro X W hN hsc
  obtain ⟨t, ht, q⟩ := hb X W hN hsc
  refine ⟨_, pw_or (twT_pt X x) ht, fun σ H ρ Ow os k Q S hk hK => ?_⟩
  refine ha X W hN hsc σ H ρ Ow os (fun c ρ1 => br c (k true ρ1) (evE C b ρ1 fun y ρ2 => blK y fun c' => k c' ρ2)) _ S hk fun c H1 Ow1 os1 ρ1 s1 S1 hk1 => ?_
  refine br_ite hk1 (fun h => hK _ _ _ _ _ s1 S1 h) fun h => ?_
  refine q σ H1 ρ1 Ow1 os1 k Q S1 h fun b H2 Ow2 os2 ρ2 s2 S2 hk2 => ?_
  exact hK _ _ _ _ _ ((s1.trans S.al s2).weak fun b hb => nomatch hb) S2 hk2
theorem s_ite {c a b : E} {x y z : Expr} {pos} (hc : SndT G C N sc c x) (ha : SndV G C N sc a y) (hb : SndV G C N sc b z) : SndE G C N sc (.ite c a b) (.IfExp x y z pos) := by
  intro X W hN hsc σ H ρ Ow os k Q S hk hK
  refine pe_tw (pe_ifExp (twT_pt X x) (tw_pe X y) (tw_pe X z)) ?_
  refine hc X W hN hsc σ H ρ Ow os (fun t ρ1 => br t (toV a (evE C a) ρ1 k) (toV b (evE C b) ρ1 k)) _ S hk fun t H1 Ow1 os1 ρ1 s1 S1 hk1 => ?_
  refine br_ite hk1 (fun h => ?_) fun h => ?_
  · exact ha X W hN hsc σ H1 ρ1 Ow1 os1 k Q S1 h fun v H2 Ow2 os2 o2 d2 ρ2 r2 hk2 => hK _ _ _ _ _ _ _ (Res.seq S.al s1 r2 rfl) hk2
  · exact hb X W hN hsc σ H1 ρ1 Ow1 os1 k Q S1 h fun v H2 Ow2 os2 o2 d2 ρ2 r2 hk2 => hK _ _ _ _ _ _ _ (Res.seq S.al s1 r2 rfl) hk2
theorem chain_core {o o' : Cop} {a b c : E} {x y z : Expr} (ha : SndE G C N sc a x) (hb : SndE G C N sc b y) (hc : SndE G C N sc c z) (X : Cx) (W : Wd G C X) (hN : X.N = N) (hsc : X.env.scope = sc) {σ H ρ Ow os} {k : Bool → Env → Prop} {R : VK} (S : St X.K N.length H Ow σ ρ os)
    (hk : evE C (.chain o o' a b c) ρ (fun d ρ' => blK d fun b => k b ρ')) (hK : ∀ b H' Ow' os' ρ', Stp H Ow os H' Ow' os' [] → St X.K N.length H' Ow' σ ρ' os' → k b ρ' → R (.bl b) H') :
    tChain (rCop X.K o) (rCop X.K o') (tw X x) (tw X y) (tw X z) σ H R := by
  refine ha X W hN hsc σ H ρ Ow os _ _ S hk fun v H1 Ow1 os1 o1 d1 ρ1 r1 hk1 => ?_
  obtain ⟨i, rfl, hk1⟩ := intK_some hk1
  obtain ⟨rfl, _⟩ := id r1.rep
  refine hb X W hN hsc σ H1 ρ1 Ow1 os1 _ _ r1.st hk1 fun w H2 Ow2 os2 o2 d2 ρ2 r2 hk2 => ?_
  obtain ⟨j, rfl, hk2⟩ := intK_some hk2
  obtain ⟨rfl, _⟩ := id r2.rep
  have r12 := Res.two (qv := false) S.al r1 r2 fun z => nomatch z
  refine cop_snd (Ow := Ow2) (o := []) (o' := []) o (.int i) (.int j) hk2 rep_int rep_int fun t hk3 => ⟨t, rfl, br_ite hk3 (fun h => ?_) fun h => hK _ _ _ _ _ r12.stp.drop0 r12.st h⟩
  refine hc X W hN hsc σ H2 ρ2 Ow2 os2 _ _ r2.st h fun u H3 Ow3 os3 o3 d3 ρ3 r3 hk4 => ?_
  obtain ⟨l, rfl, hk4⟩ := intK_some hk4
  obtain ⟨rfl, _⟩ := id r3.rep
  have r13 := Res.two (qv := false) S.al r12 r3 fun z => nomatch z
  exact cop_snd (Ow := Ow3) (o := []) (o' := []) o' (.int j) (.int l) hk4 rep_int rep_int fun t hk5 => hK _ _ _ _ _ r13.stp.drop0 r13.st hk5
/-- the meaning hands on a truth -/
theorem chain_bl {o o' : Cop} {a b c : E} {ρ : Env} {k : D → Env → Prop} (hm : ∀ (C : Sem) (e : E) (ρ : Env) (k k' : D → Env → Prop), (∀ d ρ', k d ρ' → k' d ρ') → evE C e ρ k → evE C e ρ k') (h : evE C (.chain o o' a b c) ρ k) : evE C (.chain o o' a b c) ρ (fun d ρ' => blK d fun b => k (.bl b) ρ') := h
theorem s_chain {o o' : Cop} {a b c : E} {x y z : Expr} {pos} (ha : SndE G C N sc a x) (hb : SndE G C N sc b y) (hc : SndE G C N sc c z) (hm : lastMarks [o.py, o'.py] [y, z] = false) : SndE G C N sc (.chain o o' a b c) (.Compare x [o.py, o'.py] [y, z] pos) := by
  intro X W hN hsc σ H ρ Ow os k Q S hk hK
  refine pe_tw (pe_chain (cop_ok W.un o) (cop_ok W.un o') (tw_pe X x) (tw_pe X y) (tw_pe X z) hm) ?_
  exact chain_core (k := fun b ρ' => k (.bl b) ρ') ha hb hc X W hN hsc S hk fun b H' Ow' os' ρ' s1 S1 h => hK _ _ _ _ _ _ _ ⟨s1, S1, rep_bl, OwnR.nil, fun z => nomatch z⟩ h
theorem t_chain {o o' : Cop} {a b c : E} {x y z : Expr} {pos} (ha : SndE G C N sc a x) (hb : SndE G C N sc b y) (hc : SndE G C N sc c z) (hm : lastMarks [o.py, o'.py] [y, z] = false) : SndT G C N sc (.chain o o' a b c) (.Compare x [o.py, o'.py] [y, z] pos) := by
  intro X W hN hsc σ H ρ Ow os k Q S hk hK
  refine pt_tw (pt_chain (cop_ok W.un o) (cop_ok W.un o') (tw_pe X x) (tw_pe X y) (tw_pe X z) hm) ?_
  exact chain_core (k := k) ha hb hc X W hN hsc S hk fun b H' Ow' os' ρ' s1 S1 h => ⟨b, rfl, hK _ _ _ _ _ s1 S1 h⟩

/-! ### items -/
theorem nth_get : ∀ (l : List D) (n : Nat), nth l n = l[n]?
  | [], n => by simp [nth]
  | x :: r, 0 => rfl
  | x :: r, n + 1 => by
    show nth r n = _
    rw [nth_get r n]
    rfl
theorem atI_map {K : PySem.W.Frag} {H : Hp} {Ow : Addr → Prop} {l : List D} {xs : List V} {o : List Addr} {i : Int} {d : D} (hl : RepL K H Ow l xs o) (h : atI l i = some d) : ∃ v o', atI xs i = some v ∧ Rep K H Ow d v o' ∧ ∀ b ∈ o', b ∈ o := by
  have e := RepL.length l xs o hl
  unfold atI at h ⊢
  rw [e]
  cases q : ixN l.length i with
  | none => rw [q] at h; cases h
  | some j =>
    rw [q] at h
    exact RepL.get l xs o j d hl h
/-- an item that is looked at -/
def ItemAt (d : D) (i : Int) (z : D) : Prop := ∃ l, (d = .tup l ∨ d = .lst l ∨ d = .mu l) ∧ atI l i = some z
theorem ItemAt.snd {K : PySem.W.Frag} {H : Hp} {Ow : Addr → Prop} {d z : D} {i : Int} {v : V} {o : List Addr} (h : ItemAt d i z) (r : Rep K H Ow d v o) {Q : VK} (q : ∀ u o', Rep K H Ow z u o' → (∀ b ∈ o', b ∈ o) → Q u H) : rIx K v (.int i) H Q := by
  obtain ⟨l, e, ha⟩ := h
  rcases e with rfl | rfl | rfl
  · obtain ⟨a, xs, rfl, ht, hl⟩ := r
    obtain ⟨u, o', q1, q2, q3⟩ := atI_map hl ha
    exact .inr (.inl ⟨a, xs, i, u, rfl, rfl, ht.sq, q1, q u o' q2 q3⟩)
  · obtain ⟨a, xs, rfl, ht, hl, eo⟩ := r
    obtain ⟨u, o', q1, q2, q3⟩ := atI_map hl ha
    exact .inl ⟨a, xs, i, u, rfl, rfl, ht.sq, q1, q u o' q2 (fun b hb => nomatch q3 b hb)⟩
  · obtain ⟨a, xs, o1, rfl, ht, _, hl, eo⟩ := r
    obtain ⟨u, o', q1, q2, q3⟩ := atI_map hl ha
    exact .inl ⟨a, xs, i, u, rfl, rfl, SqL.of ht, q1, q u o' q2 fun b hb => by rw [eo]; exact List.mem_cons_of_mem _ (q3 b hb)⟩
theorem fldK_item {d : D} {n : Nat} {k : D → Prop} (h : fldK d n k) : ∃ z, ItemAt d (n : Int) z ∧ k z := by
  have go : ∀ l : List D, getK (nth l n) k → ∃ z, atI l (n : Int) = some z ∧ k z := fun l h => by
    obtain ⟨z, e, hk⟩ := getK_some h
    rw [nth_get] at e
    exact ⟨z, atI_nat e, hk⟩
  cases d with
  | tup l => obtain ⟨z, e, hk⟩ := go l h; exact ⟨z, ⟨l, .inl rfl, e⟩, hk⟩
  | lst l => obtain ⟨z, e, hk⟩ := go l h; exact ⟨z, ⟨l, .inr (.inl rfl), e⟩, hk⟩
  | mu l => obtain ⟨z, e, hk⟩ := go l h; exact ⟨z, ⟨l, .inr (.inr rfl), e⟩, hk⟩
  | _ => exact h.elim
theorem idxK_item {d i : D} {k : D → Prop} (h : idxK d i k) : ∃ z j, i = .int j ∧ ItemAt d j z ∧ k z := by
  cases i with
  | int j =>
    cases d with
    | tup l => obtain ⟨z, e, hk⟩ := getK_some h; exact ⟨z, j, rfl, ⟨l, .inl rfl, e⟩, hk⟩
    | lst l => obtain ⟨z, e, hk⟩ := getK_some h; exact ⟨z, j, rfl, ⟨l, .inr (.inl rfl), e⟩, hk⟩
    | mu l => obtain ⟨z, e, hk⟩ := getK_some h; exact ⟨z, j, rfl, ⟨l, .inr (.inr rfl), e⟩, hk⟩
    | _ => exact h.elim
  | _ => cases d <;> exact h.elim
theorem item_end {K : PySem.W.Frag} {n : Nat} {σ : L2.St} {H H1 : Hp} {Ow Ow1 : Addr → Prop} {os os1 : Os} {ρ ρ1 : Env} {p pu q qu : Bool} {v u : V} {o o' : List Addr} {d z : D} {k : D → Env → Prop} {Q : VK} (r : Res K n σ H Ow os ρ q pu v H1 Ow1 os1 o d ρ1) (hu : Rep K H1 Ow1 z u o') (hp : p = true → ∀ b ∈ o', inO os1 b) (hq : qu = true → pu = true)
    (hk : gK (orB p (frz z)) (k z ρ1)) (hK : Kn K n σ H Ow os ρ p qu k Q) : Q u H1 := by
  obtain ⟨f, hk'⟩ := gK_of hk
  cases p with
  | true => exact hK u H1 Ow1 os1 o' z ρ1 ⟨r.stp.weak fun b hb => .inr (hp rfl b hb), r.st, hu, hp rfl, fun z => r.pu (hq z)⟩ hk'
  | false =>
    have e := Rep.frz z u o' hu f
    subst e
    exact hK u H1 Ow1 os1 [] z ρ1 ⟨r.stp.drop0, r.st, hu, OwnR.nil, fun z => r.pu (hq z)⟩ hk'
theorem own_path {p : Bool} {o : List Addr} {os : Os} (h : OwnR p o os) (hp : p = true) : ∀ b ∈ o, inO os b := by
  unfold OwnR at h
  rw [if_pos hp] at h
  exact h
theorem s_fld {a : E} {n : Nat} {x : Expr} {j p pos} (ha : SndE G C N sc a x) : SndE G C N sc (.fld a n) (.Subscript x (.Constant (.int (n : Int)) j p) pos) := by
  intro X W hN hsc σ H ρ Ow os k Q S hk hK
  refine pe_tw (pe_ix ix_seq (tw_pe X x) pe_int fun _ _ => rfl) ?_
  refine ha X W hN hsc σ H ρ Ow os _ _ S hk fun v H1 Ow1 os1 o1 d1 ρ1 r1 hk1 => ?_
  obtain ⟨z, hi, hk2⟩ := fldK_item hk1
  exact hi.snd r1.rep fun u o' hu hs => item_end r1 hu (fun hp b hb => own_path r1.own hp b (hs b hb)) id hk2 hK
theorem s_last {a : E} {x : Expr} {j p p' pos} (ha : SndE G C N sc a x) : SndE G C N sc (.last a) (.Subscript x (.UnaryOp .USub (.Constant (.int 1) j p) p') pos) := by
  intro X W hN hsc σ H ρ Ow os k Q S hk hK
  refine pe_tw (pe_ix ix_seq (tw_pe X x) (pe_un un_neg pe_int) fun _ _ => rfl) ?_
  refine ha X W hN hsc σ H ρ Ow os _ _ S hk fun v H1 Ow1 os1 o1 d1 ρ1 r1 hk1 => ⟨1, rfl, ?_⟩
  obtain ⟨z, j', e, hi, hk2⟩ := idxK_item hk1
  cases e
  exact hi.snd r1.rep fun u o' hu hs => item_end r1 hu (fun hp b hb => own_path r1.own hp b (hs b hb)) id hk2 hK
theorem keepOwn {K : PySem.W.Frag} {n : Nat} {σ : L2.St} {H H1 H2 : Hp} {Ow Ow1 Ow2 : Addr → Prop} {os os1 os2 : Os} {ρ ρ1 ρ2 : Env} {p pu pb : Bool} {b : E} {v1 v2 : V} {o1 o2 : List Addr} {d1 d2 : D} (r1 : Res K n σ H Ow os ρ p pu v1 H1 Ow1 os1 o1 d1 ρ1) (r2 : Res K n σ H1 Ow1 os1 ρ1 pb (pure? b) v2 H2 Ow2 os2 o2 d2 ρ2) (hs : stays b d1 = true) (hp : p = true) : ∀ c ∈ o1, inO os2 c := by
  unfold stays at hs
  cases hb : pure? b with
  | true =>
    obtain ⟨_, e2, _⟩ := r2.pu hb
    rw [e2]
    exact own_path r1.own hp
  | false =>
    rw [hb] at hs
    have e := Rep.frz d1 v1 o1 r1.rep hs
    rw [e]
    exact fun _ z => nomatch z
theorem s_idx {a i : E} {x y : Expr} {pos} (ha : SndE G C N sc a x) (hi : SndE G C N sc i y) (hy : PlainIx y) : SndE G C N sc (.idx a i) (.Subscript x y pos) := by
  intro X W hN hsc σ H ρ Ow os k Q S hk hK
  refine pe_tw (pe_ix ix_seq (tw_pe X x) (tw_pe X y) hy) ?_
  refine ha X W hN hsc σ H ρ Ow os _ _ S hk fun v H1 Ow1 os1 o1 d1 ρ1 r1 hk1 => ?_
  obtain ⟨hs, hk1'⟩ := gK_of hk1
  refine hi X W hN hsc σ H1 ρ1 Ow1 os1 _ _ r1.st hk1' fun w H2 Ow2 os2 o2 d2 ρ2 r2 hk2 => ?_
  obtain ⟨z, j, rfl, hz, hk3⟩ := idxK_item hk2
  obtain ⟨rfl, _⟩ := id r2.rep
  have rx := r1.keep r2 hs
  have r12 := Res.two (qv := pure? (.idx a i)) S.al r1 r2 fun z => pure2 z
  exact hz.snd rx fun u o' hu hs' => item_end r12 hu (fun hp b hb => keepOwn r1 r2 hs hp b (hs' b hb)) id hk3 hK
end
end Tr

set_option maxRecDepth 100000
set_option maxHeartbeats 4000000
/-! Expressions, third part: slices, displays, built-in functions, calls. -/
namespace Tr
open PySem PySem.Spec PyProof.Rows L2
def noStar : Expr → Bool
  | .Starred _ _ => false
  | _ => true
theorem star_cons {e : Expr} {es : List Expr} {env : PySem.Env} (h : noStar e = true) : starEach (e :: es) env = (false, eval e env) :: starEach es env := by
  cases e <;> first | rfl | cases h
def noStars (es : List Expr) : Bool := es.all noStar
theorem star_any {pos : Pos} {env : PySem.Env} : ∀ {es : List Expr}, noStars es = true → (backTo pos (starEach es env)).any (·.1) = false
  | [], _ => rfl
  | e :: es, h => by
    unfold noStars at h
    rw [List.all_cons, Bool.and_eq_true] at h
    rw [star_cons h.1]
    show (false || (backTo pos (starEach es env)).any (·.1)) = false
    rw [star_any (es := es) h.2]
    rfl
section
variable {G : Gt} {C : Sem} {N : List Str} {sc : Scope}

/-! ### slices -/
/-- an optional part -/
def SndO (G : Gt) (C : Sem) (N : List Str) (sc : Scope) (e : EO) (a : Option Expr) : Prop :=
  ∀ X : Cx, Wd G C X → X.N = N → X.env.scope = sc → ∃ t, PO X a t ∧ ∀ σ H ρ Ow os (k : Option Int → Env → Prop) (Q : Option Int → Hp → Prop), St X.K N.length H Ow σ ρ os → evEO C e ρ k →
    (∀ i H' Ow' os' ρ', Stp H Ow os H' Ow' os' [] → St X.K N.length H' Ow' σ ρ' os' → (pureO e = true → ρ' = ρ ∧ os' = os ∧ Same H H') → k i ρ' → Q i H') → t σ H Q
theorem o_none : SndO G C N sc .none none := fun X W hN hsc => ⟨_, po_none, fun σ H ρ Ow os k Q S hk hK => hK _ _ _ _ _ Stp.refl S (fun _ => ⟨rfl, rfl, Same.refl H⟩) hk⟩
theorem o_some {e : E} {x : Expr} (h : SndE G C N sc e x) : SndO G C N sc (.some e) (some x) := fun X W hN hsc => ⟨_, po_some (tw_pe X x), fun σ H ρ Ow os k Q S hk hK => by
  refine h X W hN hsc σ H ρ Ow os _ _ S hk fun v H1 Ow1 os1 o1 d1 ρ1 r1 hk1 => ?_
  obtain ⟨i, rfl, hk2⟩ := intK_some hk1
  obtain ⟨rfl, _⟩ := id r1.rep
  exact ⟨i, rfl, hK _ _ _ _ _ r1.stp.drop0 r1.st r1.pu hk2⟩⟩
theorem staysO_of {lo hi : EO} {d : D} (h : staysO lo hi d = true) : (pureO lo = true ∧ pureO hi = true) ∨ frz d = true := by
  unfold staysO at h
  cases e1 : pureO lo with
  | false => rw [e1] at h; exact .inr h
  | true =>
    cases e2 : pureO hi with
    | false => rw [e1, e2] at h; exact .inr h
    | true => exact .inl ⟨rfl, rfl⟩
/-- what a slice gives -/
def rCut (K : PySem.W.Frag) : V → Option Int → Option Int → Hp → VK → Prop := fun x lo hi H Q => rSlL K x lo hi H Q ∨ rSlA K x lo hi H Q
theorem cut_all (xs : List V) (l : List D) {lo hi : Option Int} (e : xs.length = l.length) (hw : HT.sIx xs.length 0 lo = 0 ∧ HT.sIx xs.length xs.length hi = xs.length) : (l.drop (HT.sIx l.length 0 lo)).take (HT.sIx l.length l.length hi - HT.sIx l.length 0 lo) = l := by
  rw [e] at hw
  rw [hw.1, hw.2]
  simp
theorem cut_snd {K : PySem.W.Frag} {H : Hp} {Ow : Addr → Prop} {d : D} {v : V} {o : List Addr} {lo hi : Option Int} {k : D → Prop} {Q : VK} (hk : cutK d lo hi k) (r : Rep K H Ow d v o) (h : OpEnd K H Ow k Q) : rCut K v lo hi H Q := by
  have go : ∀ l a xs, v = .ref a → SqL K H a xs → RepL K H Ow l xs [] → k (.mu ((l.drop (HT.sIx l.length 0 lo)).take (HT.sIx l.length l.length hi - HT.sIx l.length 0 lo))) → rCut K v lo hi H Q := fun l a xs e hs hl q => by
    refine .inl ⟨a, xs, e, hs, fun p hp => ?_⟩
    unfold cutV
    rw [RepL.length l xs _ hl]
    exact h.2.1 p _ _ hp (RepL.sub hl _ _) q
  cases d with
  | tup l =>
    have hk' : (match frzL l with | true => k (.tup ((l.drop (HT.sIx l.length 0 lo)).take (HT.sIx l.length l.length hi - HT.sIx l.length 0 lo))) | false => False) := hk
    cases f : frzL l with
    | false => rw [f] at hk'; exact hk'.elim
    | true =>
      rw [f] at hk'
      obtain ⟨a, xs, rfl, ht, hl⟩ := id r
      have e1 := RepL.frz l xs _ hl f
      subst e1
      have e := RepL.length l xs _ hl
      refine .inr ⟨a, xs, rfl, ht.sq, fun hw => ?_, fun hw p hp => ?_⟩
      · refine h.1 (.tup l) _ r ?_
        have q : k (.tup ((l.drop (HT.sIx l.length 0 lo)).take (HT.sIx l.length l.length hi - HT.sIx l.length 0 lo))) := hk'
        rw [cut_all xs l e hw] at q
        exact q
      · unfold cutV
        rw [e]
        exact h.2.2 p _ _ hp (RepL.sub hl _ _) hk'
  | scr l =>
    obtain ⟨a, xs, rfl, ht, hl, eo⟩ := r
    exact go l a xs rfl ht.sq hl hk
  | lst l =>
    obtain ⟨l', a, xs, e, ha, hl, hk2, _⟩ := rep_lstK (k := fun l => k (.mu ((l.drop (HT.sIx l.length 0 lo)).take (HT.sIx l.length l.length hi - HT.sIx l.length 0 lo)))) hk r
    exact go l' a xs e (SqL.of ha) hl hk2
  | mu l =>
    obtain ⟨l', a, xs, e, ha, hl, hk2, _⟩ := rep_lstK (k := fun l => k (.mu ((l.drop (HT.sIx l.length 0 lo)).take (HT.sIx l.length l.length hi - HT.sIx l.length 0 lo)))) hk r
    exact go l' a xs e (SqL.of ha) hl hk2
  | _ => exact hk.elim
theorem s_slice {a : E} {lo hi : EO} {x : Expr} {l h : Option Expr} {p pos} (ha : SndE G C N sc a x) (hl : SndO G C N sc lo l) (hh : SndO G C N sc hi h) : SndE G C N sc (.slice a lo hi) (.Subscript x (.Slice l h none p) pos) := by
  intro X W hN hsc σ H ρ Ow os k Q S hk hK
  obtain ⟨tl, pl, ql⟩ := hl X W hN hsc
  obtain ⟨th, ph, qh⟩ := hh X W hN hsc
  refine pe_tw (pe_slice (sl_list.or sl_tupA) (tw_pe X x) pl ph) ?_
  refine ha X W hN hsc σ H ρ Ow os _ _ S hk fun v H1 Ow1 os1 o1 d1 ρ1 r1 hk1 => ?_
  obtain ⟨hs, hk1'⟩ := gK_of hk1
  refine ql σ H1 ρ1 Ow1 os1 _ _ r1.st hk1' fun i H2 Ow2 os2 ρ2 s2 S2 p2 hk2 => ?_
  refine qh σ H2 ρ2 Ow2 os2 _ _ S2 hk2 fun j H3 Ow3 os3 ρ3 s3 S3 p3 hk3 => ?_
  have s23 : Stp H1 Ow1 os1 H3 Ow3 os3 [] := (s2.trans r1.st.al s3).weak fun b hb => by simp at hb
  have rx : Rep X.K H3 Ow3 d1 v o1 := by
    rcases staysO_of hs with ⟨e1, e2⟩ | f
    · obtain ⟨a1, a2, a3⟩ := p2 e1
      obtain ⟨b1, b2, b3⟩ := p3 e2
      subst a1 a2 b1 b2
      exact Stp.repS r1.st S3 s23 (a3.trans b3) r1.rep
    · have e := Rep.frz d1 v o1 r1.rep f
      subst e
      exact s23.rep r1.st r1.rep fun _ z => nomatch z
  have r13 : Res X.K N.length σ H Ow os ρ false false v H3 Ow3 os3 [] .hole ρ3 := ⟨(r1.stp.drop0.trans S.al s23).weak fun b hb => (nomatch hb), S3, rfl, OwnR.nil, fun z => nomatch z⟩
  exact cut_snd hk3 rx ⟨fun z u hz q => hK _ _ _ _ _ _ _ (r13.plain hz fun z => nomatch z) q, fun p l xs hp hl q => hK _ _ _ _ _ _ _ (r13.newL S.al hp hl (fun z => nomatch z) rfl) q, fun p l xs hp hl q => hK _ _ _ _ _ _ _ (r13.newT S.al hp hl fun z => nomatch z) q⟩
theorem s_rev {a : E} {x : Expr} {k0 p1 p2 p3 pos} (ha : SndE G C N sc a x) : SndE G C N sc (.rev a) (.Subscript x (.Slice none none (some (.UnaryOp .USub (.Constant (.int 1) k0 p1) p2)) p3) pos) := by
  intro X W hN hsc σ H ρ Ow os k Q S hk hK
  refine pe_tw (pe_revL (tw_pe X x)) ?_
  refine ha X W hN hsc σ H ρ Ow os _ _ S hk fun v H1 Ow1 os1 o1 d1 ρ1 r1 hk1 => ?_
  obtain ⟨l, b, xs, e, hb, hl, hk2, _⟩ := rep_lstK hk1 r1.rep
  exact ⟨b, xs, e, SqL.of hb, fun p hp => hK _ _ _ _ _ _ _ (r1.newL S.al hp hl.reverse (fun z => nomatch z) rfl) hk2⟩

/-! ### displays -/
def SndEs (G : Gt) (C : Sem) (N : List Str) (sc : Scope) (es : Es) (xs : List Expr) : Prop :=
  ∀ X : Cx, Wd G C X → X.N = N → X.env.scope = sc → ∀ σ H ρ Ow os (k : List D → Env → Prop) (Q : List V → Hp → Prop), St X.K N.length H Ow σ ρ os → evEs C es ρ k →
    (∀ vs H' Ow' os' o ds ρ', Stp H Ow os H' Ow' os' o → St X.K N.length H' Ow' σ ρ' os' → RepL X.K H' Ow' ds vs o → o.Nodup → (∀ b ∈ o, ¬ inO os' b) → vs.length = xs.length → k ds ρ' → Q vs H') → twA X xs σ H Q
theorem es_nil : SndEs G C N sc .nil [] := fun X W hN hsc σ H ρ Ow os k Q S hk hK =>
  pa_tw pa_nil (hK [] H Ow os [] [] ρ Stp.refl S ⟨rfl, rfl⟩ List.nodup_nil (fun _ z => nomatch z) rfl hk)
theorem es_cons {e : E} {es : Es} {x : Expr} {xs : List Expr} (hn : noStar x = true) (he : SndV G C N sc e x) (hr : SndEs G C N sc es xs) : SndEs G C N sc (.cons e es) (x :: xs) := by
  intro X W hN hsc σ H ρ Ow os k Q S hk hK
  refine pa_tw (pa_cons (tw_pe X x) (twA_pa X xs) (star_cons hn)) ?_
  refine he X W hN hsc σ H ρ Ow os _ _ S hk fun v H1 Ow1 os1 o1 d1 ρ1 r1 hk1 => ?_
  refine hr X W hN hsc σ H1 ρ1 Ow1 os1 _ _ r1.st hk1 fun vs H2 Ow2 os2 o2 ds ρ2 s2 S2 rl nd dj ln hk2 => ?_
  have rv : Rep X.K H2 Ow2 d1 v o1 := s2.rep r1.st r1.rep r1.own.2
  have ap : ∀ b, b ∈ o1 → ¬ (inO os1 b ∨ H1 b = none) := fun b hb z => by
    rcases z with z | z
    · exact r1.own.2 b hb z
    · obtain ⟨_, x, e⟩ := Rep.own d1 v o1 r1.rep b hb
      rw [z] at e; cases e
  refine hK (v :: vs) H2 Ow2 os2 (o1 ++ o2) (d1 :: ds) ρ2 (r1.stp.trans S.al s2) S2 ⟨v, vs, o1, o2, rfl, rv, rl, rfl⟩ ?_ ?_ (by rw [List.length_cons, List.length_cons, ln]) hk2
  · rw [List.nodup_append]
    exact ⟨r1.own.1, nd, fun b hb c hc e => ap b hb (s2.new b (.inr (by rw [e]; exact hc)))⟩
  · intro b hb
    rcases List.mem_append.mp hb with hb | hb
    · exact fun z => ap b hb (s2.new b (.inl z))
    · exact dj b hb
theorem small_line {n : Nat} (h : n ≤ 1000) : n ≤ sizeLine := Nat.le_of_lt (small1000 h)
theorem s_tup {es : Es} {xs : List Expr} {k0 pos} (hl : decide (xs.length ≤ 1000) = true) (h : SndEs G C N sc es xs) : SndE G C N sc (.tup es) (.Tuple xs k0 pos) := by
  intro X W hN hsc σ H ρ Ow os k Q S hk hK
  refine pe_tw (pe_tup (twA_pa X xs)) ?_
  refine h X W hN hsc σ H ρ Ow os _ _ S hk fun vs H1 Ow1 os1 o ds ρ1 s1 S1 rl nd dj ln hk1 => ⟨by rw [ln]; exact small_line (of_decide_eq_true hl), fun p hp => ?_⟩
  have s2 : Stp H1 Ow1 os1 (upd H1 p (.tup vs)) Ow1 os1 [] := Stp.frz hp
  refine hK _ _ _ _ o (.tup ds) ρ1 ⟨(s1.trans S.al s2).weak fun b hb => .inl (by simpa using hb), S1.frz hp, ⟨p, vs, rfl, .inl ⟨.inl upd_same, fun z => ?_⟩, ?_⟩, ⟨nd, dj⟩, fun z => nomatch z⟩ hk1
  · obtain ⟨x, e⟩ := S1.al p z
    rw [hp] at e; cases e
  · exact RepL.move (fun b x e no => ⟨same_upd hp b x e, no⟩) ds vs o (fun b hb => ⟨fun x e => same_upd hp b x e, (RepL.own ds vs o rl b hb).1⟩) rl
theorem s_lst {es : Es} {xs : List Expr} {pos} (hl : decide (xs.length ≤ 1000) = true) (h : SndEs G C N sc es xs) : SndE G C N sc (.lst es) (.List xs pos) := by
  intro X W hN hsc σ H ρ Ow os k Q S hk hK
  refine pe_tw (pe_lst (twA_pa X xs)) ?_
  refine h X W hN hsc σ H ρ Ow os _ _ S hk fun vs H1 Ow1 os1 o ds ρ1 s1 S1 rl nd dj ln hk1 => ⟨by rw [ln]; exact small_line (of_decide_eq_true hl), fun p hp => ?_⟩
  have s2 : Stp H1 Ow1 os1 (upd H1 p (.lst vs)) (plus Ow1 p) os1 [p] := Stp.mu hp
  have np : p ∉ o := fun z => by
    obtain ⟨_, x, e⟩ := RepL.own ds vs o rl p z
    rw [hp] at e; cases e
  refine hK _ _ _ _ (p :: o) (.mu ds) ρ1 ⟨(s1.trans S.al s2).weak fun b hb => .inl (by simpa [or_comm] using hb), S1.mu hp, ⟨p, vs, o, rfl, upd_same, .inr rfl, ?_, rfl⟩, ⟨List.nodup_cons.mpr ⟨np, nd⟩, fun b hb => ?_⟩, fun z => nomatch z⟩ hk1
  · exact RepL.move (fun b x e no => ⟨same_upd hp b x e, fun z => z.elim no fun z => by rw [z, hp] at e; cases e⟩) ds vs o (fun b hb => ⟨fun x e => same_upd hp b x e, .inl (RepL.own ds vs o rl b hb).1⟩) rl
  · rcases List.mem_cons.mp hb with rfl | hb
    · intro z
      obtain ⟨x, e⟩ := S1.al b (S1.held z)
      rw [hp] at e; cases e
    · exact dj b hb

/-! ### built-in functions -/
inductive RA (K : PySem.W.Frag) (H : Hp) (Ow : Addr → Prop) : List D → List V → Prop where
  | nil : RA K H Ow [] []
  | cons {d : D} {v : V} {o : List Addr} {ds : List D} {vs : List V} (h : Rep K H Ow d v o) (t : RA K H Ow ds vs) : RA K H Ow (d :: ds) (v :: vs)
@[reducible] def pureLs : Es → Bool
  | .cons a .nil => pure? a
  | _ => false
def SndLs (G : Gt) (C : Sem) (N : List Str) (sc : Scope) (es : Es) (xs : List Expr) : Prop :=
  ∀ X : Cx, Wd G C X → X.N = N → X.env.scope = sc → ∀ σ H ρ Ow os (k : List D → Env → Prop) (Q : List V → Hp → Prop), St X.K N.length H Ow σ ρ os → evLs C es ρ k →
    (∀ vs H' Ow' os' ds ρ', Stp H Ow os H' Ow' os' [] → St X.K N.length H' Ow' σ ρ' os' → RA X.K H' Ow' ds vs → (pureLs es = true → ρ' = ρ ∧ os' = os ∧ Same H H') → k ds ρ' → Q vs H') → twA X xs σ H Q
theorem ls_nil : SndLs G C N sc .nil [] := fun X W hN hsc σ H ρ Ow os k Q S hk hK =>
  pa_tw pa_nil (hK [] H Ow os [] ρ Stp.refl S .nil (fun z => nomatch z) hk)
theorem ls_one {e : E} {x : Expr} (hn : noStar x = true) (he : SndE G C N sc e x) : SndLs G C N sc (.cons e .nil) [x] := by
  intro X W hN hsc σ H ρ Ow os k Q S hk hK
  refine pa_tw (pa_cons (tw_pe X x) pa_nil (star_cons hn)) ?_
  exact he X W hN hsc σ H ρ Ow os _ _ S hk fun v H1 Ow1 os1 o1 d1 ρ1 r1 hk1 => hK [v] H1 Ow1 os1 [d1] ρ1 r1.stp.drop0 r1.st (.cons r1.rep .nil) r1.pu hk1
theorem ls_cons {e e' : E} {es : Es} {x : Expr} {xs : List Expr} (hn : noStar x = true) (he : SndE G C N sc e x) (hr : SndLs G C N sc (.cons e' es) xs) : SndLs G C N sc (.cons e (.cons e' es)) (x :: xs) := by
  intro X W hN hsc σ H ρ Ow os k Q S hk hK
  refine pa_tw (pa_cons (tw_pe X x) (twA_pa X xs) (star_cons hn)) ?_
  refine he X W hN hsc σ H ρ Ow os _ _ S hk fun v H1 Ow1 os1 o1 d1 ρ1 r1 hk1 => ?_
  obtain ⟨f, hk2⟩ := gK_of hk1
  refine hr X W hN hsc σ H1 ρ1 Ow1 os1 _ _ r1.st hk2 fun vs H2 Ow2 os2 ds ρ2 s2 S2 ra pu hk3 => ?_
  have e0 := Rep.frz d1 v o1 r1.rep f
  have rr := r1.rep
  subst e0
  exact hK (v :: vs) H2 Ow2 os2 (d1 :: ds) ρ2 ((r1.stp.drop0.trans S.al s2).weak fun b hb => nomatch hb) S2 (.cons (s2.rep r1.st rr fun _ z => nomatch z) ra) (fun z => nomatch z) hk3

theorem repL_ints {K : PySem.W.Frag} {H : Hp} {Ow : Addr → Prop} : ∀ (ns : List Int) (xs : List V) (o : List Addr), RepL K H Ow (ns.map D.int) xs o → xs = ns.map V.int
  | [], _, _, h => h.1
  | n :: ns, xs, o, h => by
    obtain ⟨v, vs, o1, o2, rfl, h1, h2, eo⟩ := h
    rw [repL_ints ns vs o2 h2, h1.1]
    rfl
theorem repL_bls {K : PySem.W.Frag} {H : Hp} {Ow : Addr → Prop} : ∀ (ns : List Bool) (xs : List V) (o : List Addr), RepL K H Ow (ns.map D.bl) xs o → xs = ns.map V.bl
  | [], _, _, h => h.1
  | n :: ns, xs, o, h => by
    obtain ⟨v, vs, o1, o2, rfl, h1, h2, eo⟩ := h
    rw [repL_bls ns vs o2 h2, h1.1]
    rfl
theorem repL_of_ints {K : PySem.W.Frag} {H : Hp} {Ow : Addr → Prop} : ∀ (ns : List Int), RepL K H Ow (ns.map D.int) (ns.map V.int) []
  | [] => ⟨rfl, rfl⟩
  | n :: ns => ⟨_, _, [], [], rfl, ⟨rfl, rfl⟩, repL_of_ints ns, rfl⟩

/-- the value that a built-in's name has -/
def Bi.val : Bi → Value
  | .len => .builtin "len" | .int => .type "int" | .abs => .builtin "abs" | .max => .builtin "max" | .min => .builtin "min" | .sum => .builtin "sum" | .list => .type "list" | .sorted => .builtin "sorted" | .any => .builtin "any" | .all => .builtin "all" | .str => .type "str"
def rBi (K : PySem.W.Frag) : Bi → List V → Hp → VK → Prop
  | .len => fun xs H Q => ∃ x n, xs = [x] ∧ LenV K x H n ∧ Q (.int n) H
  | .int => fun xs H Q => (∃ i, xs = [.int i] ∧ Q (.int i) H) ∨ ∃ k, xs = [.bl k] ∧ Q (.int (if k then 1 else 0)) H
  | .abs => fun xs H Q => ∃ i, xs = [.int i] ∧ Q (.int (if i < 0 then -i else i)) H
  | .max => fun xs H Q => (∃ i j, xs = [.int i, .int j] ∧ Q (.int (if j > i then j else i)) H) ∨ rMax K xs H Q
  | .min => fun xs H Q => (∃ i j, xs = [.int i, .int j] ∧ Q (.int (if j < i then j else i)) H) ∨ rMin K xs H Q
  | .sum => rSum K
  | .list => fun xs H Q => ∃ p ys, xs = [.ref p] ∧ (SqL K H p ys ∨ SqT K H p ys) ∧ ∀ l, H l = none → Q (.ref l) (upd H l (.lst ys))
  | .sorted => rSorted K
  | .any => rAny K
  | .all => rAll K
  | .str => fun xs H Q => ∃ i, xs = [.int i] ∧ i.natAbs.log2 < 1920 ∧ Q (.str (toString i)) H
theorem rBi_ok {X : Cx} (hc : X.calm = true) : ∀ b : Bi, CallR X b.val (rBi X.K b)
  | .len => call_len
  | .int => call_int1
  | .abs => call_abs
  | .max => (call_max2 hc).or (cr_max hc)
  | .min => (call_min2 hc).or (cr_min hc)
  | .sum => cr_sum hc
  | .list => call_list_of
  | .sorted => cr_sorted
  | .any => cr_any hc
  | .all => cr_all hc
  | .str => call_str_int
theorem pe_bi {X : Cx} (W : Wd G C X) (b : Bi) {e : Expr} {es : List Expr} {t : TA} {p pos : Pos} (hg : Gl X b.name) (ha : PA X (e :: es) t) (hn : noStar e = true) (hns : noStars es = true) : PE X (.Call (.Name b.name p) (e :: es) [] pos) (tCB (rBi X.K b) t) := by
  have hm : X.mg b.name = none := W.mt _ (by cases b <;> (unfold bnames Bi.name; simp))
  have h := rBi_ok W.calm b
  cases b <;> first
    | exact pe_callB h hg hm (by decide +kernel) ha (by decide) (by decide) (star_cons hn) (star_any hns)
    | exact pe_callTy h hg hm (by decide +kernel) ha (by decide) (by decide) (star_cons hn) (star_any hns)
section
variable {K : PySem.W.Frag} {H : Hp} {Ow : Addr → Prop} {Q : VK} {k : D → Prop}
theorem ra1 {x : D} {vs : List V} (h : RA K H Ow [x] vs) : ∃ v o, vs = [v] ∧ Rep K H Ow x v o := by
  cases h with
  | cons h t => cases t; exact ⟨_, _, rfl, h⟩
theorem ra2 {x y : D} {vs : List V} (h : RA K H Ow [x, y] vs) : ∃ v w o o', vs = [v, w] ∧ Rep K H Ow x v o ∧ Rep K H Ow y w o' := by
  cases h with
  | cons h t =>
    obtain ⟨w, o', rfl, h'⟩ := ra1 t
    exact ⟨_, _, _, _, rfl, h, h'⟩
theorem len_snd {x : D} {v : V} {o : List Addr} {k : Nat → Prop} (hk : lenK x k) (r : Rep K H Ow x v o) : ∃ n, LenV K v H n ∧ k n := by
  cases x with
  | tup l => obtain ⟨a, xs, rfl, ht, hl⟩ := r; exact ⟨_, .inr ⟨xs, ht.sq, rfl⟩, by rw [RepL.length l xs _ hl]; exact hk⟩
  | lst l => obtain ⟨a, xs, rfl, ht, hl, _⟩ := r; exact ⟨_, .inl ⟨xs, ht.sq, rfl⟩, by rw [RepL.length l xs _ hl]; exact hk⟩
  | mu l => obtain ⟨a, xs, o', rfl, ht, _, hl, _⟩ := r; exact ⟨_, .inl ⟨xs, SqL.of ht, rfl⟩, by rw [RepL.length l xs _ hl]; exact hk⟩
  | str s => obtain ⟨rfl, _⟩ := r; exact ⟨_, ⟨hk.1, rfl⟩, hk.2⟩
  | _ => exact hk.elim
theorem seq_snd {x : D} {v : V} {o : List Addr} {k : List D → Prop} (hk : seqK x k) (r : Rep K H Ow x v o) : ∃ l a xs, v = .ref a ∧ (SqL K H a xs ∨ SqT K H a xs) ∧ RepL K H Ow l xs [] ∧ k l := by
  cases x with
  | lst l => obtain ⟨a, xs, rfl, ht, hl, _⟩ := r; exact ⟨l, a, xs, rfl, .inl ht.sq, hl, hk⟩
  | mu l =>
    have hk' : (match frzL l with | true => k l | false => False) := hk
    cases f : frzL l with
    | false => rw [f] at hk'; exact hk'.elim
    | true =>
      rw [f] at hk'
      obtain ⟨a, xs, o', rfl, ht, _, hl, _⟩ := r
      have e := RepL.frz l xs o' hl f
      subst e
      exact ⟨l, a, xs, rfl, .inl (SqL.of ht), hl, hk'⟩
  | tup l =>
    have hk' : (match frzL l with | true => k l | false => False) := hk
    cases f : frzL l with
    | false => rw [f] at hk'; exact hk'.elim
    | true =>
      rw [f] at hk'
      obtain ⟨a, xs, rfl, ht, hl⟩ := r
      have e := RepL.frz l xs _ hl f
      subst e
      exact ⟨l, a, xs, rfl, .inr ht.sq, hl, hk'⟩
  | _ => exact hk.elim
theorem bi_snd : ∀ (b : Bi) (ds : List D) (vs : List V), biK b ds k → RA K H Ow ds vs → OpEnd K H Ow k Q → rBi K b vs H Q := by
  intro b ds vs hk ra h
  have no : ∀ {P : Prop}, (biK b ds k → False) → P := fun f => (f hk).elim
  match b, ds, hk with
  | .len, [x], hk =>
    obtain ⟨v, o, rfl, r⟩ := ra1 ra
    obtain ⟨n, h1, h2⟩ := len_snd hk r
    exact ⟨v, n, rfl, h1, h.int h2⟩
  | .int, [.int i], hk => obtain ⟨v, o, rfl, r⟩ := ra1 ra; obtain ⟨rfl, _⟩ := r; exact .inl ⟨i, rfl, h.int hk⟩
  | .int, [.bl i], hk => obtain ⟨v, o, rfl, r⟩ := ra1 ra; obtain ⟨rfl, _⟩ := r; exact .inr ⟨i, rfl, h.int hk⟩
  | .abs, [.int i], hk => obtain ⟨v, o, rfl, r⟩ := ra1 ra; obtain ⟨rfl, _⟩ := r; exact ⟨i, rfl, h.int hk⟩
  | .max, [.int i, .int j], hk => obtain ⟨v, w, o, o', rfl, r, r'⟩ := ra2 ra; obtain ⟨rfl, _⟩ := r; obtain ⟨rfl, _⟩ := r'; exact .inl ⟨i, j, rfl, h.int hk⟩
  | .min, [.int i, .int j], hk => obtain ⟨v, w, o, o', rfl, r, r'⟩ := ra2 ra; obtain ⟨rfl, _⟩ := r; obtain ⟨rfl, _⟩ := r'; exact .inl ⟨i, j, rfl, h.int hk⟩
  | .max, [x], hk =>
    obtain ⟨v, o, rfl, r⟩ := ra1 ra
    have hk : lstK x fun l => ∃ ns, IsInts l ns ∧ 0 < ns.length ∧ ∀ m, m ∈ ns → (∀ y, y ∈ ns → y ≤ m) → k (.int m) := by cases x <;> exact hk
    obtain ⟨l, a, xs, rfl, ha, hl, ⟨ns, hi, h0, q⟩, _⟩ := rep_lstK hk r
    obtain rfl : l = ns.map D.int := hi
    obtain rfl := repL_ints ns xs _ hl
    exact .inr ⟨a, ns, rfl, SqL.of ha, h0, fun m h1 h2 => h.int (q m h1 h2)⟩
  | .min, [x], hk =>
    obtain ⟨v, o, rfl, r⟩ := ra1 ra
    have hk : lstK x fun l => ∃ ns, IsInts l ns ∧ 0 < ns.length ∧ ∀ m, m ∈ ns → (∀ y, y ∈ ns → m ≤ y) → k (.int m) := by cases x <;> exact hk
    obtain ⟨l, a, xs, rfl, ha, hl, ⟨ns, hi, h0, q⟩, _⟩ := rep_lstK hk r
    obtain rfl : l = ns.map D.int := hi
    obtain rfl := repL_ints ns xs _ hl
    exact .inr ⟨a, ns, rfl, SqL.of ha, h0, fun m h1 h2 => h.int (q m h1 h2)⟩
  | .sum, [x], hk =>
    obtain ⟨v, o, rfl, r⟩ := ra1 ra
    obtain ⟨l, a, xs, rfl, ha, hl, ⟨ns, hi, q⟩, _⟩ := rep_lstK hk r
    obtain rfl : l = ns.map D.int := hi
    obtain rfl := repL_ints ns xs _ hl
    exact ⟨a, ns, rfl, SqL.of ha, h.int q⟩
  | .any, [x], hk =>
    obtain ⟨v, o, rfl, r⟩ := ra1 ra
    obtain ⟨l, a, xs, rfl, ha, hl, ⟨ns, hi, q⟩, _⟩ := rep_lstK hk r
    obtain rfl : l = ns.map D.bl := hi
    obtain rfl := repL_bls ns xs _ hl
    exact ⟨a, ns, rfl, SqL.of ha, h.1 (.bl _) _ rep_bl q⟩
  | .all, [x], hk =>
    obtain ⟨v, o, rfl, r⟩ := ra1 ra
    obtain ⟨l, a, xs, rfl, ha, hl, ⟨ns, hi, q⟩, _⟩ := rep_lstK hk r
    obtain rfl : l = ns.map D.bl := hi
    obtain rfl := repL_bls ns xs _ hl
    exact ⟨a, ns, rfl, SqL.of ha, h.1 (.bl _) _ rep_bl q⟩
  | .list, [x], hk =>
    obtain ⟨v, o, rfl, r⟩ := ra1 ra
    obtain ⟨l, a, xs, rfl, ha, hl, q⟩ := seq_snd hk r
    exact ⟨a, xs, rfl, ha, fun p hp => h.2.1 p l xs hp hl q⟩
  | .sorted, [x], hk =>
    obtain ⟨v, o, rfl, r⟩ := ra1 ra
    obtain ⟨l, a, xs, rfl, ha, hl, ⟨ns, hi, h63, q⟩, _⟩ := rep_lstK hk r
    obtain rfl : l = ns.map D.int := hi
    obtain rfl := repL_ints ns xs _ hl
    exact ⟨a, ns, rfl, SqL.of ha, h63, fun ns' p perm pw hp => h.2.1 p (ns'.map D.int) (ns'.map V.int) hp (repL_of_ints ns') (q ns' perm pw)⟩
  | .str, [.int i], hk => obtain ⟨v, o, rfl, r⟩ := ra1 ra; obtain ⟨rfl, _⟩ := r; exact ⟨i, rfl, hk.1, h.1 (.str _) _ ⟨rfl, rfl⟩ hk.2⟩
end
theorem s_bi {b : Bi} {es : Es} {x : Expr} {xs : List Expr} {p pos} (hn : noStar x = true) (hns : noStars xs = true) (hg : glB sc b.name = true) (h : SndLs G C N sc es (x :: xs)) : SndE G C N sc (.bi b es) (.Call (.Name b.name p) (x :: xs) [] pos) := by
  intro X W hN hsc σ H ρ Ow os k Q S hk hK
  refine pe_tw (pe_bi W b (glB_ok (by rw [hsc]; exact hg)) (twA_pa X _) hn hns) ?_
  refine h X W hN hsc σ H ρ Ow os _ _ S hk fun vs H1 Ow1 os1 ds ρ1 s1 S1 ra pu hk1 => ?_
  have pl : pure? (.bi b es) = true → pureLs es = true := fun z => by
    cases es with
    | nil => exact nomatch z
    | cons a r =>
      cases r with
      | nil => exact z
      | cons _ _ => exact nomatch z
  have r1 : Res X.K N.length σ H Ow os ρ false (pure? (.bi b es)) .non H1 Ow1 os1 [] .hole ρ1 := ⟨s1, S1, rfl, OwnR.nil, fun z => pu (pl z)⟩
  exact bi_snd b ds vs hk1 ra ⟨fun z u hz q => hK _ _ _ _ _ _ _ (r1.plain hz id) q, fun p l xs hp hl q => hK _ _ _ _ _ _ _ (r1.newL S.al hp hl id rfl) q, fun p l xs hp hl q => hK _ _ _ _ _ _ _ (r1.newT S.al hp hl id) q⟩

/-! ### isinstance -/
def tyOfD : D → String
  | .hole => "" | .non => "NoneType" | .bl _ => "bool" | .int _ => "int" | .str _ => "str" | .tup _ => "tuple" | .lst _ => "list" | .mu _ => "list" | .scr _ => ""
theorem kit_D (d : D) (t : Ty) (h : tyd d = true) : kitB (tyOfD d) t.name = some (isTy d t) := by
  cases d <;> first | exact absurd h Bool.false_ne_true | skip
  all_goals (cases t <;> (simp only [tyOfD, isTy, Ty.name]; decide +kernel))
theorem tyX_D {K : PySem.W.Frag} {H : Hp} {Ow : Addr → Prop} {d : D} {v : V} {o : List Addr} (h : tyd d = true) (r : Rep K H Ow d v o) : TyX K H v (.type (tyOfD d)) := by
  cases d with
  | hole => cases h
  | scr l => cases h
  | non => obtain ⟨rfl, _⟩ := r; exact .base .non
  | bl b => obtain ⟨rfl, _⟩ := r; exact .base (.bl b)
  | int b => obtain ⟨rfl, _⟩ := r; exact .base (.int b)
  | str b => obtain ⟨rfl, _⟩ := r; exact .base (.str b)
  | tup l =>
    obtain ⟨a, xs, rfl, ht, hl⟩ := r
    rcases ht with ⟨e | ⟨ob, e⟩, _⟩ | ⟨ob, its, n, e, c, _⟩
    · exact .base (.tup e)
    · exact .fTuple e
    · exact .kTuple e c
  | lst l => obtain ⟨a, xs, rfl, ht, hl, _⟩ := r; exact .base (.lst ht.1)
  | mu l => obtain ⟨a, xs, o', rfl, ht, _, hl, _⟩ := r; exact .base (.lst ht)
theorem ty_boot (t : Ty) : bootBuiltins (t.name : Str) = some (.type t.name) := by cases t <;> decide +kernel
theorem ty_mem (t : Ty) : (t.name : Str) ∈ bnames := by cases t <;> (unfold bnames; decide +kernel)
theorem pe_ty {X : Cx} (W : Wd G C X) (t : Ty) {p : Pos} (hg : glB X.env.scope (t.name : Str) = true) : PE X (.Name (t.name : Str) p) (tC (.ty t.name)) :=
  pe_bltn (glB_ok hg) (W.mt _ (ty_mem t)) (ty_boot t) rfl (by cases t <;> decide +kernel) (by cases t <;> decide +kernel)
theorem isi_boot : bootBuiltins "isinstance" = some (.builtin "isinstance") := by decide +kernel
theorem s_isi {a : E} {t : Ty} {x : Expr} {p p2 pos} (hn : noStar x = true) (h1 : glB sc "isinstance" = true) (h2 : glB sc (t.name : Str) = true) (ha : SndE G C N sc a x) : SndE G C N sc (.isi a t) (.Call (.Name "isinstance" p) [x, .Name (t.name : Str) p2] [] pos) := by
  intro X W hN hsc σ H ρ Ow os k Q S hk hK
  refine pe_tw (pe_callB call_isi (glB_ok (by rw [hsc]; exact h1)) (W.mt _ (by unfold bnames; decide +kernel)) isi_boot (pa_cons (tw_pe X x) (pa_cons (pe_ty W t (by rw [hsc]; exact h2)) pa_nil (star_cons rfl)) (star_cons hn)) (by decide) (by decide) (star_cons hn) (star_any rfl)) ?_
  refine ha X W hN hsc σ H ρ Ow os _ _ S hk fun v H1 Ow1 os1 o1 d1 ρ1 r1 hk1 => ?_
  exact ⟨v, .ty t.name, .type (tyOfD d1), .type t.name, isTy d1 t, rfl, .ty _, tyX_D hk1.1 r1.rep, kit_ty (kit_D d1 t hk1.1), hK _ _ _ _ _ _ _ (r1.plain rep_bl fun z => nomatch z) hk1.2⟩
theorem s_isi2 {a : E} {t u : Ty} {x : Expr} {p p2 p3 k0 p4 pos} (hn : noStar x = true) (h1 : glB sc "isinstance" = true) (h2 : glB sc (t.name : Str) = true) (h3 : glB sc (u.name : Str) = true) (ha : SndE G C N sc a x) : SndE G C N sc (.isi2 a t u) (.Call (.Name "isinstance" p) [x, .Tuple [.Name (t.name : Str) p2, .Name (u.name : Str) p3] k0 p4] [] pos) := by
  intro X W hN hsc σ H ρ Ow os k Q S hk hK
  refine pe_tw (pe_callB call_isiT (glB_ok (by rw [hsc]; exact h1)) (W.mt _ (by unfold bnames; decide +kernel)) isi_boot (pa_cons (tw_pe X x) (pa_cons (pe_tup (pa_cons (pe_ty W t (by rw [hsc]; exact h2)) (pa_cons (pe_ty W u (by rw [hsc]; exact h3)) pa_nil (star_cons rfl)) (star_cons rfl))) pa_nil (star_cons rfl)) (star_cons hn)) (by decide) (by decide) (star_cons hn) (star_any rfl)) ?_
  refine ha X W hN hsc σ H ρ Ow os _ _ S hk fun v H1 Ow1 os1 o1 d1 ρ1 r1 hk1 => ⟨(by show 2 ≤ sizeLine; decide), fun q hq => ?_⟩
  have rv : Rep X.K (upd H1 q (.tup [.ty t.name, .ty u.name])) Ow1 d1 v o1 := Rep.move (fun b x e no => ⟨same_upd hq b x e, no⟩) d1 v o1 (fun b hb => ⟨fun x e => same_upd hq b x e, (Rep.own d1 v o1 r1.rep b hb).1⟩) r1.rep
  refine ⟨v, q, [.ty t.name, .ty u.name], .type (tyOfD d1), [.type t.name, .type u.name], isTy d1 t || isTy d1 u, rfl, upd_same, .cons (.ty _) (.cons (.ty _) .nil), tyX_D hk1.1 rv, ?_, ?_⟩
  · refine kitAny_cons (b := isTy d1 t) (kit_ty (kit_D d1 t hk1.1)) (fun e => ?_) fun e => by rw [e]; rfl
    refine kitAny_cons (b := isTy d1 u) (kit_ty (kit_D d1 u hk1.1)) (fun e' => ?_) fun e' => by rw [e']; simp
    rw [e, e']; exact kitAny_nil
  · have r2 : Res X.K N.length σ H Ow os ρ false false v (upd H1 q (.tup [.ty t.name, .ty u.name])) Ow1 os1 [] .hole ρ1 := ⟨(r1.stp.drop0.trans S.al (Stp.frz hq)).weak fun b hb => (nomatch hb), r1.st.frz hq, rfl, OwnR.nil, fun z => nomatch z⟩
    have hk2 := hk1.2
    rw [orB_eq] at hk2
    exact hK _ _ _ _ _ _ _ (r2.plain rep_bl fun z => nomatch z) hk2

/-! ### xs.index(y) -/
def noBase : Expr → Bool
  | .Call (.Name _ _) [] [] _ => false
  | _ => true
theorem base_of {x : Expr} {f : Str} {env : PySem.Env} {whole : PySem.Sem Value} (h : noBase x = true) : attributeBase x f env whole = whole := by
  unfold attributeBase
  split
  · cases h
  · rfl
theorem s_index {a b : E} {x y : Expr} {apos pos : Pos} (hx : noBase x = true) (hl : (apos.endLine == pos.line) = true) (hn : noStar y = true) (ha : SndE G C N sc a x) (hb : SndE G C N sc b y) : SndE G C N sc (.index a b) (.Call (.Attribute x "index" apos) [y] [] pos) := by
  intro X W hN hsc σ H ρ Ow os k Q S hk hK
  refine pe_tw (pe_bm PySem.F.plainAttrs_list PySem.F.slot_list_index PySem.F.type_list_index mt_index (tw_pe X x) (pa_cons (tw_pe X y) pa_nil (star_cons hn)) (base_of hx) (by rw [star_cons hn]; rfl) hl (star_cons hn) (star_any rfl)) ?_
  refine ha X W hN hsc σ H ρ Ow os _ _ S hk fun v H1 Ow1 os1 o1 d1 ρ1 r1 hk1 => ?_
  obtain ⟨hty, hk1⟩ := gK_of hk1
  obtain ⟨hs, hk1'⟩ := gK_of hk1
  have ty : tyV X.K "list" v H1 := by
    have rr := r1.rep
    cases d1 with
    | lst l => obtain ⟨a, xs, rfl, ht, hl, _⟩ := rr; exact .inl ⟨rfl, _, SqL.of ht.1⟩
    | mu l => obtain ⟨a, xs, o', rfl, ht, _, hl, _⟩ := rr; exact .inl ⟨rfl, _, SqL.of ht⟩
    | _ => exact absurd hty Bool.false_ne_true
  refine ⟨ty, ?_⟩
  refine hb X W hN hsc σ H1 ρ1 Ow1 os1 _ _ r1.st hk1' fun w H2 Ow2 os2 o2 d2 ρ2 r2 hk2 => ?_
  have rx := r1.keep r2 hs
  have r12 := Res.two (qv := false) S.al r1 r2 fun z => nomatch z
  obtain ⟨l, c, xs, rfl, hc, hl', ⟨f1, f2, j, z, hz, hzj, hno, q⟩, _⟩ := rep_lstK hk2 rx
  obtain ⟨u, hu, ru⟩ := RepL.all0 l xs hl' z j hz
  have fz : flat z = true := List.all_eq_true.mp f2 z (List.mem_of_getElem? hz)
  refine ⟨c, xs, w, j, u, rfl, rfl, SqL.of hc, rep_flatV f1 r2.rep, rep_flatAll l xs [] f2 hl', hu, by rw [rep_eqF fz f1 ru r2.rep]; exact hzj, fun m z' hm e => ?_, hK _ _ _ _ _ _ _ (r12.plain rep_int fun z => nomatch z) q⟩
  have hlen := RepL.length l xs [] hl'
  have hm' : m < l.length := by rw [← hlen]; exact (List.getElem?_eq_some_iff.mp e).1
  obtain ⟨u', hu', ru'⟩ := RepL.all0 l xs hl' l[m] m (List.getElem?_eq_getElem hm')
  rw [e] at hu'
  cases hu'
  rw [rep_eqF (List.all_eq_true.mp f2 _ (List.getElem_mem hm')) f1 ru' r2.rep]
  exact hno m _ hm (List.getElem?_eq_getElem hm')
end
end Tr

set_option maxRecDepth 100000
set_option maxHeartbeats 4000000
/-! Expressions, fourth part: calls of defs. -/
namespace Tr
open PySem PySem.Spec PyProof.Rows L2
@[reducible] def avShape : List AV → List Bool
  | [] => []
  | .val _ :: r => false :: avShape r
  | .ref _ :: r => true :: avShape r
@[reducible] def asShape : As → List Bool
  | .nil => []
  | .val _ r => false :: asShape r
  | .ref _ r => true :: asShape r
@[reducible] def posOf : Nat → List Bool → List Nat
  | _, [] => []
  | p, true :: r => p :: posOf (p + 1) r
  | p, false :: r => posOf (p + 1) r
/-- the arguments as they were looked at -/
inductive AR (K : PySem.W.Frag) (H : Hp) (Ow : Addr → Prop) (σ : L2.St) : List AV → List V → Prop where
  | nil : AR K H Ow σ [] []
  | val {d : D} {v : V} {r : List AV} {vs : List V} (h : Rep K H Ow d v []) (t : AR K H Ow σ r vs) : AR K H Ow σ (.val d :: r) (v :: vs)
  | ref {i : Nat} {v : V} {r : List AV} {vs : List V} (h : σ[i]? = some (some v)) (t : AR K H Ow σ r vs) : AR K H Ow σ (.ref i :: r) (v :: vs)
section
variable {K : PySem.W.Frag} {n : Nat} {σ : L2.St} {H H' : Hp} {Ow Ow' : Addr → Prop} {os os' : Os} {ρ ρ' : Env}
theorem AR.step {m : Nat} {σ' : L2.St} {o : List Addr} (S : St K m H Ow σ' ρ os) (s : Stp H Ow os H' Ow' os' o) : ∀ {avs : List AV} {vs : List V}, AR K H Ow σ avs vs → AR K H' Ow' σ avs vs
  | _, _, .nil => .nil
  | _, _, .val h t => .val (s.rep S h fun _ z => nomatch z) (AR.step S s t)
  | _, _, .ref h t => .ref h (AR.step S s t)
/-- the arguments' data, each with what it owns -/
inductive AL (K : PySem.W.Frag) (H : Hp) (Ow : Addr → Prop) : List D → List V → List (List Addr) → Prop where
  | nil : AL K H Ow [] [] []
  | cons {d : D} {v : V} {o : List Addr} {ds : List D} {vs : List V} {oo : List (List Addr)} (h : Rep K H Ow d v o) (t : AL K H Ow ds vs oo) : AL K H Ow (d :: ds) (v :: vs) (o :: oo)
theorem AL.lens : ∀ {ds : List D} {vs : List V} {oo : List (List Addr)}, AL K H Ow ds vs oo → ds.length = vs.length ∧ oo.length = vs.length
  | _, _, _, .nil => ⟨rfl, rfl⟩
  | _, _, _, .cons h t => ⟨congrArg (· + 1) (AL.lens t).1, congrArg (· + 1) (AL.lens t).2⟩
theorem AL.get : ∀ {ds : List D} {vs : List V} {oo : List (List Addr)} {i : Nat} {d : D}, AL K H Ow ds vs oo → ds[i]? = some d → ∃ v o, vs[i]? = some v ∧ oo[i]? = some o ∧ Rep K H Ow d v o
  | _, _, _, _, _, .nil, e => by cases e
  | _, _, _, 0, _, .cons h t, e => by cases e; exact ⟨_, _, rfl, rfl, h⟩
  | _, _, _, i + 1, _, .cons h t, e => AL.get (i := i) t e
def osL (oo : List (List Addr)) : Os := fun i => oo.getD i []
theorem inO_osL {oo : List (List Addr)} {b : Addr} : inO (osL oo) b ↔ b ∈ oo.flatten := by
  unfold inO osL
  constructor
  · rintro ⟨i, h⟩
    by_cases hi : i < oo.length
    · rw [List.getD_eq_getElem?_getD, List.getElem?_eq_getElem hi] at h
      exact List.mem_flatten.mpr ⟨oo[i], List.getElem_mem hi, h⟩
    · rw [List.getD_eq_getElem?_getD, List.getElem?_eq_none (by omega)] at h
      cases h
  · intro h
    obtain ⟨l, hl, hb⟩ := List.mem_flatten.mp h
    obtain ⟨i, hi, e⟩ := List.getElem_of_mem hl
    exact ⟨i, by rw [List.getD_eq_getElem?_getD, List.getElem?_eq_getElem hi, e]; exact hb⟩
theorem nodup_osL : ∀ {oo : List (List Addr)}, oo.flatten.Nodup → (∀ i, (osL oo i).Nodup) ∧ ∀ i j b, b ∈ osL oo i → b ∈ osL oo j → i = j
  | [], _ => ⟨fun i => by show ((([] : List (List Addr))).getD i []).Nodup; simp, fun i j b h => by
      have h : b ∈ (([] : List (List Addr))).getD i [] := h
      simp at h⟩
  | o :: oo, h => by
    rw [List.flatten_cons, List.nodup_append] at h
    obtain ⟨h1, h2, h3⟩ := h
    obtain ⟨g1, g2⟩ := nodup_osL h2
    have e : ∀ i, osL (o :: oo) (i + 1) = osL oo i := fun i => rfl
    refine ⟨fun i => ?_, fun i j b hi hj => ?_⟩
    · cases i with
      | zero => exact h1
      | succ i => exact g1 i
    · cases i with
      | zero =>
        cases j with
        | zero => rfl
        | succ j => exact absurd rfl (h3 b hi b (inO_osL.mp ⟨j, hj⟩))
      | succ i =>
        cases j with
        | zero => exact absurd rfl (h3 b hj b (inO_osL.mp ⟨i, hi⟩))
        | succ j => rw [g2 i j b hi hj]
theorem gE_map : ∀ (ds : List D) (i : Nat), gE (ds.map some) i = ds[i]?
  | [], i => by simp [gE]
  | d :: ds, 0 => rfl
  | d :: ds, i + 1 => by
    show gE (ds.map some) i = _
    rw [gE_map ds i]
    rfl
/-- the callee's frame at the call -/
theorem AL.st {ds : List D} {vs : List V} {oo : List (List Addr)} (h : AL K H Ow ds vs oo) (nd : oo.flatten.Nodup) (al : ∀ b, Ow b → ∃ x, H b = some x) : St K vs.length H Ow (vs.map some) (ds.map some) (osL oo) := by
  obtain ⟨l1, l2⟩ := h.lens
  obtain ⟨n1, n2⟩ := nodup_osL nd
  refine ⟨by simp, by simp [l1], fun i d e => ?_, fun i e => ?_, n1, n2, al⟩
  · rw [gE_map] at e
    obtain ⟨v, o, q1, q2, q3⟩ := h.get e
    refine ⟨v, by simp [q1], ?_⟩
    unfold osL
    rw [List.getD_eq_getElem?_getD, q2]
    exact q3
  · rw [gE_map] at e
    have hi : ds.length ≤ i := List.getElem?_eq_none_iff.mp e
    unfold osL
    rw [List.getD_eq_getElem?_getD, List.getElem?_eq_none (by omega)]
    rfl
/-- the written-to are taken out of the caller's frame -/
theorem take_snd : ∀ (avs : List AV) (vs : List V) (ρ : Env) (os : Os) (k : List D → Env → Prop), St K n H Ow σ ρ os → AR K H Ow σ avs vs → takeK avs ρ k →
    ∃ ds ρ' os' oo, k ds ρ' ∧ St K n H Ow σ ρ' os' ∧ AL K H Ow ds vs oo ∧ oo.flatten.Nodup ∧ (∀ b ∈ oo.flatten, ¬ inO os' b) ∧ (∀ b, inO os' b → inO os b) ∧ (∀ b ∈ oo.flatten, inO os b) ∧
      (∀ p j, j ∉ posOf p (avShape avs) → p ≤ j → oo.getD (j - p) [] = []) := by
  intro avs
  induction avs with
  | nil =>
    intro vs ρ os k S ar hk
    cases ar
    exact ⟨[], ρ, os, [], hk, S, .nil, List.nodup_nil, (fun _ z => nomatch z), fun _ h => h, (fun _ z => nomatch z), fun _ _ _ _ => rfl⟩
  | cons av r ih =>
    intro vs ρ os k S ar hk
    cases ar with
    | @val d v _ vs h t =>
      obtain ⟨ds, ρ', os', oo, q1, q2, q3, q4, q5, q6, q7, q8⟩ := ih vs ρ os _ S t hk
      refine ⟨d :: ds, ρ', os', [] :: oo, q1, q2, .cons h q3, by simpa using q4, by simpa using q5, q6, by simpa using q7, fun p j hj hp => ?_⟩
      have hj' : j ∉ posOf (p + 1) (avShape r) := hj
      by_cases e : j = p
      · rw [e, Nat.sub_self]; rfl
      · have z := q8 (p + 1) j hj' (by omega)
        rw [show j - p = (j - (p + 1)) + 1 by omega]
        exact z
    | @ref i v _ vs h t =>
      obtain ⟨d, e, hk⟩ := getK_some hk
      have hk := (setK_eq _ _ _ _).mp hk
      obtain ⟨v', hv', rv⟩ := S.rep i d e
      rw [h] at hv'
      obtain rfl : v = v' := by cases hv'; rfl
      obtain ⟨ds, ρ', os', oo, q1, q2, q3, q4, q5, q6, q7, q8⟩ := ih vs (ρ.set i none) (updO os i []) _ S.drop' t hk
      have up : ∀ b, inO (updO os i []) b → inO os b := fun b z => (inO_upd z).elim (fun z => nomatch z) id
      refine ⟨d :: ds, ρ', os', os i :: oo, q1, q2, .cons rv q3, ?_, fun b hb => ?_, fun b z => up b (q6 b z), fun b hb => ?_, fun p j hj hp => ?_⟩
      · rw [List.flatten_cons, List.nodup_append]
        exact ⟨S.nd i, q4, fun b hb c hc z => S.apart hb (by rw [z]; exact q7 c hc)⟩
      · rw [List.flatten_cons] at hb
        rcases List.mem_append.mp hb with hb | hb
        · exact fun z => S.apart hb (q6 b z)
        · exact q5 b hb
      · rw [List.flatten_cons] at hb
        rcases List.mem_append.mp hb with hb | hb
        · exact ⟨i, hb⟩
        · exact up b (q7 b hb)
      · have hj' : j ∉ p :: posOf (p + 1) (avShape r) := hj
        rw [List.mem_cons, not_or] at hj'
        have z := q8 (p + 1) j hj'.2 (by omega)
        rw [show j - p = (j - (p + 1)) + 1 by omega]
        exact z
/-- .. and put back -/
theorem put_snd : ∀ (avs : List AV) (vs : List V) (outs : List D) (p : Nat) (osc : Os) (ρ : Env) (os : Os) (k : Env → Prop) (vall : List V), St K n H Ow σ ρ os → AR K H Ow σ avs vs → (∀ j, vs[j]? = vall[p + j]?) → putK avs outs ρ k →
    (∀ (j i : Nat) (d : D), (posOf p (avShape avs))[j]? = some i → outs[j]? = some d → ∃ u, vall[i]? = some u ∧ Rep K H Ow d u (osc i)) → (∀ i, (osc i).Nodup) → (∀ i j b, b ∈ osc i → b ∈ osc j → i = j) → (∀ i b, p ≤ i → b ∈ osc i → ¬ inO os b) →
    ∃ ρ' os', k ρ' ∧ St K n H Ow σ ρ' os' ∧ ∀ b, inO os' b → inO os b ∨ ∃ i, p ≤ i ∧ b ∈ osc i := by
  intro avs
  induction avs with
  | nil =>
    intro vs outs p osc ρ os k vall S ar hv hk hr h1 h2 h3
    cases outs with
    | nil => exact ⟨ρ, os, hk, S, fun b h => .inl h⟩
    | cons _ _ => exact hk.elim
  | cons av r ih =>
    intro vs outs p osc ρ os k vall S ar hv hk hr h1 h2 h3
    cases ar with
    | @val d v _ vs h t =>
      obtain ⟨ρ', os', q1, q2, q3⟩ := ih vs outs (p + 1) osc ρ os k vall S t (fun j => by
        have := hv (j + 1)
        rw [List.getElem?_cons_succ] at this
        rw [this]; congr 1; omega) hk hr h1 h2 fun i b hi hb => h3 i b (by omega) hb
      exact ⟨ρ', os', q1, q2, fun b hb => (q3 b hb).imp id fun ⟨i, hi, z⟩ => ⟨i, by omega, z⟩⟩
    | @ref i v _ vs h t =>
      cases outs with
      | nil => exact hk.elim
      | cons d ds =>
        have hk' : setK ρ i (some d) fun ρ1 => putK r ds ρ1 k := hk
        have hk' := (setK_eq _ _ _ _).mp hk'
        obtain ⟨u, hu, ru⟩ := hr 0 p d rfl rfl
        have hu' : vall[p]? = some v := by
          have := hv 0
          rw [Nat.add_zero] at this
          exact this.symm
        rw [hu] at hu'
        obtain rfl : u = v := by cases hu'; rfl
        have hi : i < n := by
          rw [← S.len]
          exact (List.getElem?_eq_some_iff.mp h).1
        have S1 := S.set hi ru (h1 p) (fun b hb => h3 p b (Nat.le_refl _) hb)
        have e1 : σ.set i (some u) = σ := by
          obtain ⟨g1, g2⟩ := List.getElem?_eq_some_iff.mp h
          rw [← g2, List.set_getElem_self]
        rw [e1] at S1
        obtain ⟨ρ', os', q1, q2, q3⟩ := ih vs ds (p + 1) osc (ρ.set i (some d)) (updO os i (osc p)) k vall S1 t (fun j => by
          have := hv (j + 1)
          rw [List.getElem?_cons_succ] at this
          rw [this]; congr 1; omega) hk' (fun j l d' e1 e2 => hr (j + 1) l d' e1 e2) h1 h2 fun l b hl hb z => by
            rcases inO_upd z with z | z
            · have := h2 l p b hb z
              omega
            · exact h3 l b (by omega) hb z
        refine ⟨ρ', os', q1, q2, fun b hb => ?_⟩
        rcases q3 b hb with z | ⟨l, hl, z⟩
        · rcases inO_upd z with z | z
          · exact .inr ⟨p, Nat.le_refl _, z⟩
          · exact .inl z
        · exact .inr ⟨l, by omega, z⟩
end
section
variable {G : Gt} {C : Sem} {N : List Str} {sc : Scope}
def SndAs (G : Gt) (C : Sem) (N : List Str) (sc : Scope) (as : As) (xs : List Expr) : Prop :=
  ∀ X : Cx, Wd G C X → X.N = N → X.env.scope = sc → ∀ σ H ρ Ow os (k : List AV → Env → Prop) (Q : List V → Hp → Prop), St X.K N.length H Ow σ ρ os → evAs C as ρ k →
    (∀ vs H' Ow' os' avs ρ', Stp H Ow os H' Ow' os' [] → St X.K N.length H' Ow' σ ρ' os' → AR X.K H' Ow' σ avs vs → avShape avs = asShape as → k avs ρ' → Q vs H') → twA X xs σ H Q
theorem as_nil : SndAs G C N sc .nil [] := fun X W hN hsc σ H ρ Ow os k Q S hk hK =>
  pa_tw pa_nil (hK [] H Ow os [] ρ Stp.refl S .nil rfl hk)
theorem as_val {e : E} {r : As} {x : Expr} {xs : List Expr} (hn : noStar x = true) (he : SndV G C N sc e x) (hr : SndAs G C N sc r xs) : SndAs G C N sc (.val e r) (x :: xs) := by
  intro X W hN hsc σ H ρ Ow os k Q S hk hK
  refine pa_tw (pa_cons (tw_pe X x) (twA_pa X xs) (star_cons hn)) ?_
  refine he X W hN hsc σ H ρ Ow os _ _ S hk fun v H1 Ow1 os1 o1 d1 ρ1 r1 hk1 => ?_
  have hk2 := fzK_eq hk1
  have r2 : Res X.K N.length σ H Ow os ρ false false v H1 (Tr.minus Ow1 o1) os1 [] (freeze d1) ρ1 := r1.freeze S.al
  refine hr X W hN hsc σ H1 ρ1 _ os1 _ _ r2.st hk2 fun vs H2 Ow2 os2 avs ρ2 s2 S2 ar sh hk3 => ?_
  exact hK (v :: vs) H2 Ow2 os2 (.val (freeze d1) :: avs) ρ2 ((r2.stp.trans S.al s2).weak fun b hb => nomatch hb) S2 (.val (s2.rep r2.st r2.rep fun _ z => nomatch z) ar) (congrArg (List.cons false) sh) hk3
theorem as_ref {i : Nat} {r : As} {x : Str} {p : Pos} {xs : List Expr} (h1 : N[i]? = some x) (h2 : visB sc x = true) (h3 : dbgB x = true) (hr : SndAs G C N sc r xs) : SndAs G C N sc (.ref i r) (.Name x p :: xs) := by
  intro X W hN hsc σ H ρ Ow os k Q S hk hK
  refine pa_tw (pa_cons (pe_var (i := i) (by rw [hN]; exact h1) (visB_ok (by rw [hsc]; exact h2)) (dbgB_ok h3).1 (dbgB_ok h3).2) (twA_pa X xs) (star_cons rfl)) ?_
  obtain ⟨d, e, hk⟩ := getK_some hk
  obtain ⟨v, hv, rv⟩ := S.rep i d e
  refine ⟨v, hv, ?_⟩
  refine hr X W hN hsc σ H ρ Ow os _ _ S hk fun vs H2 Ow2 os2 avs ρ2 s2 S2 ar sh hk3 => ?_
  exact hK (v :: vs) H2 Ow2 os2 (.ref i :: avs) ρ2 s2 S2 (.ref hv ar) (congrArg (List.cons true) sh) hk3
theorem AR.len {K : PySem.W.Frag} {H : Hp} {Ow : Addr → Prop} {σ : L2.St} : ∀ {avs : List AV} {vs : List V}, AR K H Ow σ avs vs → avs.length = vs.length
  | _, _, .nil => rfl
  | _, _, .val _ t => congrArg (· + 1) (AR.len t)
  | _, _, .ref _ t => congrArg (· + 1) (AR.len t)
/-- a frame that a call does not touch -/
theorem St.other {K : PySem.W.Frag} {m n : Nat} {σc σ : L2.St} {ρc ρ : Env} {osc osc' os : Os} {H H' : Hp} {Ow Ow' : Addr → Prop} {o : List Addr} (Sc : St K m H Ow σc ρc osc) (s : Stp H Ow osc H' Ow' osc' o) (S : St K n H Ow σ ρ os) (dj : ∀ b, inO os b → ¬ inO osc b) (al : ∀ b, Ow' b → ∃ x, H' b = some x) : St K n H' Ow' σ ρ os :=
  ⟨S.len, S.lnr, fun i d e => by
    obtain ⟨v, h1, h2⟩ := S.rep i d e
    exact ⟨v, h1, s.rep Sc h2 fun b hb => dj b ⟨i, hb⟩⟩, S.emp, S.nd, S.dj, al⟩
theorem avShape_len : ∀ avs : List AV, (avShape avs).length = avs.length
  | [] => rfl
  | .val _ :: r => congrArg (· + 1) (avShape_len r)
  | .ref _ :: r => congrArg (· + 1) (avShape_len r)
/-- the callee's promise, from the meaning -/
theorem call_core {X : Cx} {f : Nat} {n : Nat} {as : As} (hio : posOf 0 (asShape as) = G.io f) {σ H ρ Ow os} {k : D → Env → Prop} {Q : VK} (S : St X.K n H Ow σ ρ os) {vs : List V} {H1 Ow1 os1 avs ρ1} (s1 : Stp H Ow os H1 Ow1 os1 []) (S1 : St X.K n H1 Ow1 σ ρ1 os1) (ar : AR X.K H1 Ow1 σ avs vs) (sh : avShape avs = asShape as)
    (hk : takeK avs ρ1 fun ds ρ2 => C f ds fun r outs => putK avs outs ρ2 fun ρ3 => k r ρ3) (hK : Kn X.K n σ H Ow os ρ false false k Q) : spF X.K vs.length (G.io f) (C f) vs H1 Q E0 := by
  obtain ⟨ds, ρ2, os2, oo, hk2, S2, al, nd, dj, in1, in2, sp⟩ := take_snd avs vs ρ1 os1 _ S1 ar hk
  have Sc := al.st nd S1.al
  refine ⟨rfl, ds, Ow1, osL oo, _, Sc, fun i hi => ?_, hk2, fun r outs hr v H' Ow' os' o s2 al' rr nd' dj' hio' n1 n2 => ?_⟩
  · rw [← hio, ← sh] at hi
    exact sp 0 i hi (Nat.zero_le _)
  · have S3 : St X.K n H' Ow' σ ρ2 os2 := St.other Sc s2 S2 (fun b hb z => dj b (inO_osL.mp z) hb) al'
    have ar3 : AR X.K H' Ow' σ avs vs := AR.step Sc s2 ar
    obtain ⟨ρ3, os3, q1, S4, q2⟩ := put_snd avs vs outs 0 os' ρ2 os2 _ vs S3 ar3 (fun j => by rw [Nat.zero_add]) hr (by rw [sh, hio]; exact hio') n1 n2 fun i b _ hb z => by
      rcases s2.new b (.inl ⟨i, hb⟩) with w | w
      · exact dj b (inO_osL.mp w) z
      · obtain ⟨x, e⟩ := S2.al b (S2.held z)
        rw [w] at e; cases e
    have sc : Stp H1 Ow1 os1 H' Ow' os3 o := by
      refine ⟨fun b x e no => s2.keep b x e fun z => no (in2 b (inO_osL.mp z)), s2.dom, s2.sub, fun b h no => s2.oth b h fun z => no (in2 b (inO_osL.mp z)), fun b h => ?_⟩
      have up : inO (osL oo) b ∨ H1 b = none → inO os1 b ∨ H1 b = none := fun z => z.imp (fun z => in2 b (inO_osL.mp z)) id
      rcases h with h | h
      · rcases q2 b h with z | ⟨i, _, z⟩
        · exact .inl (in1 b z)
        · exact up (s2.new b (.inl ⟨i, z⟩))
      · exact up (s2.new b (.inr h))
    refine hK v H' Ow' os3 o r ρ3 ⟨(s1.trans S.al sc).weak fun b hb => .inl (by simpa using hb), S4, rr, ⟨nd', fun b hb z => ?_⟩, fun z => nomatch z⟩ q1
    rcases q2 b z with w | ⟨i, _, w⟩
    · rcases s2.new b (.inr hb) with u | u
      · exact dj b (inO_osL.mp u) w
      · obtain ⟨x, e⟩ := S2.al b (S2.held w)
        rw [u] at e; cases e
    · exact dj' b hb ⟨i, w⟩
theorem s_call {f : Nat} {as : As} {x : Str} {e : Expr} {xs : List Expr} {p pos} (hf : G.fn f = some x) (h1 : glB sc x = true) (h2 : dbgB x = true) (hn : noStar e = true) (hns : noStars xs = true) (hio : posOf 0 (asShape as) = G.io f) (hnp : (asShape as).length = G.np f) (h : SndAs G C N sc as (e :: xs)) : SndE G C N sc (.call f as) (.Call (.Name x p) (e :: xs) [] pos) := by
  intro X W hN hsc σ H ρ Ow os k Q S hk hK
  obtain ⟨a, fd, ps, kk, hm, kp, hb, hr, F⟩ := W.fn f x hf
  refine pe_tw (pe_call F hr (glB_ok (by rw [hsc]; exact h1)) hm kp hb .nil (by rw [show X = X from rfl]; exact pass0) (twA_pa X (e :: xs)) (dbgB_ok h2).1 (star_cons hn) (star_any hns)) ?_
  refine h X W hN hsc σ H ρ Ow os _ _ S hk fun vs H1 Ow1 os1 avs ρ1 s1 S1 ar sh hk1 => ?_
  rw [List.append_nil]
  have q := call_core hio S s1 S1 ar sh hk1 hK
  have e1 : vs.length = G.np f := by rw [← hnp, ← sh, ← ar.len, avShape_len]
  rw [e1] at q
  exact q
end
end Tr

set_option maxRecDepth 100000
set_option maxHeartbeats 4000000
/-! Targets, what is walked. -/
namespace Tr
open PySem PySem.Spec PyProof.Rows L2
/-! ### targets -/
def twG (X : Cx) (tg : Expr) : TG := fun v σ H Q => ∀ pins s u, Inv X pins σ H s → RelV v u → wpAny (model X.prog X.w) X.A (assign tg X.env u) (fun _ s' => ∃ σ' H', Inv X pins σ' H' s' ∧ Q σ' H') X.xe s
theorem twG_pg (X : Cx) (tg : Expr) : PG X tg (twG X tg) := ⟨fun pins s σ H v u Q I r h => h pins s u I r⟩
theorem pg_twG {X : Cx} {tg : Expr} {g : TG} (h : PG X tg g) {v : V} {σ : L2.St} {H : Hp} {Q : L2.St → Hp → Prop} (q : g v σ H Q) : twG X tg v σ H Q := fun pins s u I r => h.run pins s σ H v u Q I r q
def twGs (X : Cx) (ts : List Expr) : TGs := fun vs σ H Q => ∀ pins s us, Inv X pins σ H s → Vals vs us → wpAny (model X.prog X.w) X.A (assignInOrder ((assignEach ts X.env).map (·.2)) us) (fun _ s' => ∃ σ' H', Inv X pins σ' H' s' ∧ Q σ' H') X.xe s
theorem twGs_pg (X : Cx) (ts : List Expr) : PGs X ts (twGs X ts) := ⟨fun pins s σ H vs us Q I r h => h pins s us I r⟩
theorem pgs_twG {X : Cx} {ts : List Expr} {g : TGs} (h : PGs X ts g) {vs : List V} {σ : L2.St} {H : Hp} {Q : L2.St → Hp → Prop} (q : g vs σ H Q) : twGs X ts vs σ H Q := fun pins s us I r => h.run pins s σ H vs us Q I r q
mutual
def slotsT : Tg → List Nat
  | .nm i => [i]
  | .tup ts => slotsTs ts
def slotsTs : List Tg → List Nat
  | [] => []
  | t :: ts => slotsT t ++ slotsTs ts
end
def locB (F : Str → Bool) (sc : Scope) (x : Str) : Bool := match sc.names.lookup x with
  | some .local => true
  | some .cell => F x
  | _ => false
/-- where a binding ends -/
def GEnd (K : PySem.W.Frag) (n : Nat) (H : Hp) (Ow : Addr → Prop) (σ : L2.St) (os : Os) (o : List Addr) (sl : List Nat) (k : Env → Prop) (Q : L2.St → Hp → Prop) : Prop :=
  ∀ σ' ρ' os', St K n H Ow σ' ρ' os' → (∀ b, inO os' b → inO os b ∨ b ∈ o) → (∀ i, i ∉ sl → σ'[i]? = σ[i]?) → k ρ' → Q σ' H
def SndG (G : Gt) (C : Sem) (F : Str → Bool) (N : List Str) (sc : Scope) (t : Tg) (tg : Expr) : Prop :=
  ∀ X : Cx, Wd G C X → X.N = N → X.env.scope = sc → (∀ x, F x = true → X.fn x = true) → ∀ v σ H ρ Ow os d o (k : Env → Prop) (Q : L2.St → Hp → Prop), St X.K N.length H Ow σ ρ os → Rep X.K H Ow d v o → o.Nodup → (∀ b ∈ o, ¬ inO os b) → bindK t d ρ k →
    GEnd X.K N.length H Ow σ os o (slotsT t) k Q → twG X tg v σ H Q
def SndGs (G : Gt) (C : Sem) (F : Str → Bool) (N : List Str) (sc : Scope) (ts : List Tg) (tgs : List Expr) : Prop :=
  ∀ X : Cx, Wd G C X → X.N = N → X.env.scope = sc → (∀ x, F x = true → X.fn x = true) → ∀ vs σ H ρ Ow os ds o (k : Env → Prop) (Q : L2.St → Hp → Prop), St X.K N.length H Ow σ ρ os → RepL X.K H Ow ds vs o → o.Nodup → (∀ b ∈ o, ¬ inO os b) → bindKs ts ds ρ k →
    GEnd X.K N.length H Ow σ os o (slotsTs ts) k Q → twGs X tgs vs σ H Q
section
variable {G : Gt} {C : Sem} {F : Str → Bool} {N : List Str} {sc : Scope}
theorem get_lt {N : List Str} {i : Nat} {x : Str} (h : N[i]? = some x) : i < N.length := (List.getElem?_eq_some_iff.mp h).1
theorem loc_of {X : Cx} {x : Str} (hsc : X.env.scope = sc) (hF : ∀ x, F x = true → X.fn x = true) (h : locB F sc x = true) : Loc X.env.scope x ∧ (X.fn x = true ∨ X.env.scope.names.lookup x = some .local) := by
  unfold locB at h
  rw [hsc]
  split at h
  · exact ⟨.inl (by assumption), .inr (by assumption)⟩
  · exact ⟨.inr (by assumption), .inl (hF x h)⟩
  · cases h
theorem g_nm {i : Nat} {x : Str} {p : Pos} (h1 : N[i]? = some x) (h2 : locB F sc x = true) : SndG G C F N sc (.nm i) (.Name x p) := by
  intro X W hN hsc hF v σ H ρ Ow os d o k Q S r nd dj hk hK
  obtain ⟨a, b⟩ := loc_of hsc hF h2
  refine pg_twG (pg_name (by rw [hN, ← hN]; exact W.nd) (by rw [hN]; exact h1) a b) ?_
  have hk := (setK_eq _ _ _ _).mp hk
  refine hK _ _ _ (S.set (get_lt h1) r nd dj) (fun b hb => (inO_upd hb).symm) (fun j hj => ?_) hk
  have : i ≠ j := fun e => hj (by rw [e]; exact List.mem_singleton.mpr rfl)
  rw [List.getElem?_set_ne this]
theorem assign_len : ∀ (es : List Expr) (env : PySem.Env), (assignEach es env).length = es.length
  | [], _ => rfl
  | e :: es, env => by
    cases e <;> (show (assignEach es env).length + 1 = _; rw [assign_len es env]; rfl)
theorem assign_star : ∀ (es : List Expr) (env : PySem.Env), noStars es = true → (assignEach es env).findIdx? (·.1) = none
  | [], _, _ => rfl
  | e :: es, env, h => by
    unfold noStars at h
    rw [List.all_cons, Bool.and_eq_true] at h
    have ih := assign_star es env h.2
    have e1 : assignEach (e :: es) env = (false, assign e env) :: assignEach es env := by cases e <;> first | rfl | cases h.1
    rw [e1, List.findIdx?_cons]
    simp [ih]
theorem assign_cons {e : Expr} {es : List Expr} {env : PySem.Env} (h : noStar e = true) : (assignEach (e :: es) env).map (·.2) = assign e env :: (assignEach es env).map (·.2) := by
  cases e <;> first | rfl | cases h
theorem gs_nil : SndGs G C F N sc [] [] := by
  intro X W hN hsc hF vs σ H ρ Ow os ds o k Q S r nd dj hk hK
  cases ds with
  | cons _ _ => exact hk.elim
  | nil =>
    obtain ⟨rfl, rfl⟩ := r
    exact pgs_twG pgs_nil ⟨rfl, hK σ ρ os S (fun b hb => .inl hb) (fun _ _ => rfl) hk⟩
theorem gs_cons {t : Tg} {ts : List Tg} {e : Expr} {es : List Expr} (hn : noStar e = true) (h : SndG G C F N sc t e) (hr : SndGs G C F N sc ts es) : SndGs G C F N sc (t :: ts) (e :: es) := by
  intro X W hN hsc hF vs σ H ρ Ow os ds o k Q S r nd dj hk hK
  cases ds with
  | nil => exact hk.elim
  | cons d ds =>
    obtain ⟨v, vr, o1, o2, rfl, r1, r2, rfl⟩ := r
    rw [List.nodup_append] at nd
    refine pgs_twG (pgs_cons (twG_pg X e) (twGs_pg X es) (assign_cons hn)) ⟨v, vr, rfl, ?_⟩
    refine h X W hN hsc hF v σ H ρ Ow os d o1 _ _ S r1 nd.1 (fun b hb => dj b (List.mem_append_left _ hb)) hk fun σ1 ρ1 os1 S1 in1 sl1 hk1 => ?_
    refine hr X W hN hsc hF vr σ1 H ρ1 Ow os1 ds o2 _ _ S1 r2 nd.2.1 (fun b hb z => ?_) hk1 fun σ2 ρ2 os2 S2 in2 sl2 hk2 => ?_
    · rcases in1 b z with w | w
      · exact dj b (List.mem_append_right _ hb) w
      · exact nd.2.2 b w b hb rfl
    · refine hK σ2 ρ2 os2 S2 (fun b hb => ?_) (fun i hi => ?_) hk2
      · rcases in2 b hb with w | w
        · rcases in1 b w with w | w
          · exact .inl w
          · exact .inr (List.mem_append_left _ w)
        · exact .inr (List.mem_append_right _ w)
      · have hi' : i ∉ slotsT t ++ slotsTs ts := hi
        rw [List.mem_append, not_or] at hi'
        exact (sl2 i hi'.2).trans (sl1 i hi'.1)
theorem sameLen_eq : ∀ (ts : List Tg) (l : List D), sameLen ts l = true → ts.length = l.length
  | [], [], _ => rfl
  | _ :: ts, _ :: l, h => congrArg (· + 1) (sameLen_eq ts l h)
  | [], _ :: _, h => nomatch h
  | _ :: _, [], h => nomatch h
theorem g_tup {ts : List Tg} {es : List Expr} {k0 : Nat} {p : Pos} (hn : noStars es = true) (h : SndGs G C F N sc ts es) (hl : ts.length = es.length) : SndG G C F N sc (.tup ts) (.Tuple es k0 p) := by
  intro X W hN hsc hF v σ H ρ Ow os d o k Q S r nd dj hk hK
  refine pg_twG (pg_tup W.calm (twGs_pg X es) (assign_len es X.env) (assign_star es X.env hn)) ?_
  cases d with
  | tup l =>
    obtain ⟨a, xs, rfl, ht, rl⟩ := r
    obtain ⟨hsl, hk⟩ := gK_of hk
    refine ⟨a, xs, rfl, ht.sq, by rw [RepL.length l xs _ rl, ← sameLen_eq ts l hsl, hl], ?_⟩
    exact h X W hN hsc hF xs σ H ρ Ow os l o k Q S rl nd dj hk hK
  | _ => exact hk.elim

end
/-! ### what is walked -/
/-- the items of an iterator: Sd that the source stands -/
structure ItR (K : PySem.W.Frag) (J : It) (items : List D) where
  Sd : Hp → (Addr → Prop) → Prop
  stay : ∀ H Ow H' Ow', Sd H Ow → (∀ b x, H b = some x → ¬ Ow b → H' b = some x ∧ ¬ Ow' b) → Sd H' Ow'
  go : ∀ i H Ow, Sd H Ow → i < items.length → J.go i H
  stop : ∀ i H Ow, Sd H Ow → items.length ≤ i → J.stop i H
  yld : ∀ i H Ow x H' d, Sd H Ow → (∀ b, Ow b → ∃ x, H b = some x) → items[i]? = some d → J.yld i H x H' → Rep K H' Ow d x [] ∧ (H' = H ∨ ∃ p u, H p = none ∧ H' = upd H p u)
def noSet : Expr → Bool
  | .Set _ _ _ => false
  | _ => true
theorem set_of {e : Expr} {env : PySem.Env} (h : noSet e = true) : ∀ x, foldedSetIterable e env x = pure x := by
  intro x
  cases e <;> first | rfl | cases h
def SndSrc (G : Gt) (C : Sem) (N : List Str) (sc : Scope) (s : Src) (iter tg : Expr) : Prop :=
  ∀ X : Cx, Wd G C X → X.N = N → X.env.scope = sc → ∃ wi, PI X tg iter wi ∧ ∀ σ H ρ Ow os (k : List D → Env → Prop) (R : It → Hp → Prop), St X.K N.length H Ow σ ρ os → evSrc C s ρ k →
    (∀ J H' Ow' os' ρ' items (I : ItR X.K J items), I.Sd H' Ow' → Stp H Ow os H' Ow' os' [] → St X.K N.length H' Ow' σ ρ' os' → k items ρ' → R J H') → wi σ H R
section
variable {G : Gt} {C : Sem} {N : List Str} {sc : Scope}
def ItR.list {K : PySem.W.Frag} {a : Addr} {l : List D} : ItR K (Itl K a) l where
  Sd := fun H Ow => ∃ xs, LsOk H Ow a xs ∧ RepL K H Ow l xs []
  stay := fun H Ow H' Ow' ⟨xs, h, r⟩ hk => ⟨xs, hk a _ h.1 h.2, RepL.move hk l xs [] (fun _ z => nomatch z) r⟩
  go := fun i H Ow ⟨xs, h, r⟩ hi => by
    have e := RepL.length l xs [] r
    exact ⟨xs, xs[i], h.sq, List.getElem?_eq_getElem (by omega)⟩
  stop := fun i H Ow ⟨xs, h, r⟩ hi => ⟨xs, h.sq, by rw [RepL.length l xs [] r]; exact hi⟩
  yld := fun i H Ow x H' d ⟨xs, h, r⟩ _ hd hy => by
    obtain ⟨rfl, hx⟩ := hy
    obtain ⟨v, hv, rv⟩ := RepL.all0 l xs r d i hd
    rw [hx xs h.sq] at hv
    cases hv
    exact ⟨rv, .inl rfl⟩
def ItR.tup {K : PySem.W.Frag} {a : Addr} {l : List D} : ItR K (Itt K a) l where
  Sd := fun H Ow => ∃ xs, TpOk K H Ow a xs ∧ RepL K H Ow l xs []
  stay := fun H Ow H' Ow' ⟨xs, h, r⟩ hk => ⟨xs, by
    rcases h with ⟨r, n⟩ | z
    · obtain ⟨x, hx⟩ := rd_there r
      exact .inl ⟨rd_keep r fun y hy => (hk a y hy n).1, (hk a x hx n).2⟩
    · exact .inr z, RepL.move hk l xs [] (fun _ z => nomatch z) r⟩
  go := fun i H Ow ⟨xs, h, r⟩ hi => by
    have e := RepL.length l xs [] r
    exact ⟨xs, xs[i], h.sq, List.getElem?_eq_getElem (by omega)⟩
  stop := fun i H Ow ⟨xs, h, r⟩ hi => ⟨xs, h.sq, by rw [RepL.length l xs [] r]; exact hi⟩
  yld := fun i H Ow x H' d ⟨xs, h, r⟩ _ hd hy => by
    obtain ⟨rfl, hx⟩ := hy
    obtain ⟨v, hv, rv⟩ := RepL.all0 l xs r d i hd
    rw [hx xs h.sq] at hv
    cases hv
    exact ⟨rv, .inl rfl⟩
/-- a list or a tuple, walked -/
def iSeq (K : PySem.W.Frag) (te : TE) : TI := fun σ H R => te σ H fun x H1 => (∃ a, x = .ref a ∧ (∃ xs, SqL K H1 a xs) ∧ R (Itl K a) H1) ∨ ∃ a, x = .ref a ∧ (∃ xs, SqT K H1 a xs) ∧ R (Itt K a) H1
theorem pi_seq {X : Cx} {tg l : Expr} {tl : TE} (hl : PE X l tl) : PI X tg l (iSeq X.K tl) := by
  refine ⟨fun pins s σ H R I h => ?_⟩
  refine thn (hl.run pins s σ H _ I h) fun v s1 ⟨x, H1, I1, r1, q1⟩ => ?_
  rcases q1 with ⟨a, e, ⟨xs, hq⟩, q⟩ | ⟨a, e, ⟨xs, hq⟩, q⟩
  · subst e
    cases r1
    obtain ⟨its, rv, p, hz⟩ := I1.list hq
    refine wpAny_pyIter_list p.isList ?_
    refine ⟨s1.heap.objs.size, [s1.heap.objs.size], _, _, H1, rfl, I1.kept (t' := s1.toks) fun b o e => Heap.get?_push_of_some _ e, turn_list a _, ⟨_, Heap.get?_push_size _ rfl, rfl, rfl⟩, fun b hb => ?_, q⟩
    have e : b = s1.heap.objs.size := by simpa using hb
    subst e
    exact I1.fpOk (Nat.le_refl _) (I1.hok.fresh (Nat.le_refl _))
  · subst e
    cases r1
    obtain ⟨its, rv, p, hz⟩ := I1.tuple hq
    refine wpAny_pyIter_tuple (show s1.heap.IsTuple a its.toArray from p) ?_
    refine ⟨s1.heap.objs.size, [s1.heap.objs.size], _, _, H1, rfl, I1.kept (t' := s1.toks) fun b o e => Heap.get?_push_of_some _ e, turn_tuple a _, ⟨_, Heap.get?_push_size _ rfl, rfl, rfl⟩, fun b hb => ?_, q⟩
    have e : b = s1.heap.objs.size := by simpa using hb
    subst e
    exact I1.fpOk (Nat.le_refl _) (I1.hok.fresh (Nat.le_refl _))
/-- a value that is kept and frozen -/
theorem fz_snd {e : E} {a : Expr} (h : SndV G C N sc e a) {X : Cx} (W : Wd G C X) (hN : X.N = N) (hsc : X.env.scope = sc) {σ H ρ Ow os} {k : D → Env → Prop} {Q : VK} (S : St X.K N.length H Ow σ ρ os) (hk : toV e (evE C e) ρ fun x ρ1 => fzK x fun x' => k x' ρ1)
    (hK : ∀ v H' Ow' os' d ρ', Stp H Ow os H' Ow' os' [] → St X.K N.length H' Ow' σ ρ' os' → Rep X.K H' Ow' d v [] → k d ρ' → Q v H') : tw X a σ H Q := by
  refine h X W hN hsc σ H ρ Ow os _ _ S hk fun v H1 Ow1 os1 o1 d1 ρ1 r1 hk1 => ?_
  have r2 : Res X.K N.length σ H Ow os ρ false false v H1 (Tr.minus Ow1 o1) os1 [] (freeze d1) ρ1 := r1.freeze S.al
  exact hK _ _ _ _ _ _ r2.stp r2.st r2.rep (fzK_eq hk1)
theorem s_frz {e : E} {a : Expr} (h : SndV G C N sc e a) : SndE G C N sc (.frz e) a := fun X W hN hsc σ H ρ Ow os k Q S hk hK =>
  fz_snd (k := fun x' ρ1 => k x' ρ1) h W hN hsc S hk fun v H1 Ow1 os1 d ρ1 s1 S1 r1 hk1 => hK v H1 Ow1 os1 [] d ρ1 ⟨s1, S1, r1, OwnR.nil, fun z => nomatch z⟩ hk1
/-- frozen items -/
theorem rep_seq0 {K : PySem.W.Frag} {H : Hp} {Ow : Addr → Prop} {x : D} {v : V} {k : List D → Prop} (hk : seqK x k) (r : Rep K H Ow x v []) : ∃ l a xs, v = .ref a ∧ (LsOk H Ow a xs ∨ TpOk K H Ow a xs) ∧ RepL K H Ow l xs [] ∧ k l := by
  cases x with
  | lst l => obtain ⟨a, xs, rfl, ht, hl, _⟩ := r; exact ⟨l, a, xs, rfl, .inl ht, hl, hk⟩
  | mu l => obtain ⟨a, xs, o', rfl, ht, _, hl, e⟩ := r; cases e
  | tup l =>
    have hk' : (match frzL l with | true => k l | false => False) := hk
    cases f : frzL l with
    | false => rw [f] at hk'; exact hk'.elim
    | true =>
      rw [f] at hk'
      obtain ⟨a, xs, rfl, ht, hl⟩ := r
      exact ⟨l, a, xs, rfl, .inr ht, hl, hk'⟩
  | _ => exact hk.elim
theorem rep_lst0 {K : PySem.W.Frag} {H : Hp} {Ow : Addr → Prop} {x : D} {v : V} {k : List D → Prop} (hk : lstK x k) (r : Rep K H Ow x v []) : ∃ l a xs, v = .ref a ∧ LsOk H Ow a xs ∧ RepL K H Ow l xs [] ∧ k l := by
  cases x with
  | lst l => obtain ⟨a, xs, rfl, ht, hl, _⟩ := r; exact ⟨l, a, xs, rfl, ht, hl, hk⟩
  | mu l => obtain ⟨a, xs, o', rfl, ht, _, hl, e⟩ := r; cases e
  | _ => exact hk.elim
theorem src_list {e : E} {x tg : Expr} (h : SndV G C N sc e x) : SndSrc G C N sc (.list e) x tg := by
  intro X W hN hsc
  refine ⟨_, pi_seq (tw_pe X x), fun σ H ρ Ow os k R S hk hK => ?_⟩
  refine fz_snd (k := fun x' ρ1 => seqK x' fun l => k l ρ1) h W hN hsc S hk fun v H1 Ow1 os1 d ρ1 s1 S1 r1 hk1 => ?_
  obtain ⟨l, a, xs, rfl, ht, hl, hk2⟩ := rep_seq0 hk1 r1
  rcases ht with ht | ht
  · exact .inl ⟨a, rfl, ⟨xs, ht.sq⟩, hK _ _ _ _ _ l ItR.list ⟨xs, ht, hl⟩ s1 S1 hk2⟩
  · exact .inr ⟨a, rfl, ⟨xs, ht.sq⟩, hK _ _ _ _ _ l ItR.tup ⟨xs, ht, hl⟩ s1 S1 hk2⟩
theorem rangeL_len : ∀ (n : Nat) (i : Int), (rangeL i n).length = n
  | 0, _ => rfl
  | n + 1, i => congrArg (· + 1) (rangeL_len n (i + 1))
theorem rangeL_get : ∀ (n : Nat) (i : Int) (j : Nat) (d : D), (rangeL i n)[j]? = some d → d = .int (i + j)
  | 0, _, _, _, h => by cases h
  | n + 1, i, 0, d, h => by cases h; simp
  | n + 1, i, j + 1, d, h => by
    have := rangeL_get n (i + 1) j d h
    rw [this]; congr 1; push_cast; omega
def ItR.range {K : PySem.W.Frag} {lo : Int} {n : Nat} : ItR K (Itr lo n) (rangeL lo n) where
  Sd := fun _ _ => True
  stay := fun _ _ _ _ _ _ => trivial
  go := fun i H Ow _ hi => by rw [rangeL_len] at hi; exact hi
  stop := fun i H Ow _ hi => by rw [rangeL_len] at hi; exact hi
  yld := fun i H Ow x H' d _ _ hd hy => by
    obtain ⟨rfl, rfl⟩ := hy
    rw [rangeL_get n lo i d hd]
    exact ⟨rep_int, .inl rfl⟩
theorem src_range1 {e : E} {x tg : Expr} {p pos : Pos} (hg : glB sc "range" = true) (hn : noStar x = true) (h : SndE G C N sc e x) : SndSrc G C N sc (.range1 e) (.Call (.Name "range" p) [x] [] pos) tg := by
  intro X W hN hsc
  refine ⟨_, pi_range1 (glB_ok (by rw [hsc]; exact hg)) (W.mt _ (by unfold bnames; decide +kernel)) (pa_cons (tw_pe X x) pa_nil (star_cons hn)) (star_cons hn), fun σ H ρ Ow os k R S hk hK => ?_⟩
  refine h X W hN hsc σ H ρ Ow os _ _ S hk fun v H1 Ow1 os1 o1 d1 ρ1 r1 hk1 => ?_
  obtain ⟨i, rfl, hk2⟩ := intK_some hk1
  obtain ⟨rfl, _⟩ := id r1.rep
  exact ⟨i, rfl, hk2.1.1, hk2.1.2, hK _ _ _ _ _ _ ItR.range trivial r1.stp.drop0 r1.st hk2.2⟩
theorem src_range2 {a b : E} {x y tg : Expr} {p pos : Pos} (hg : glB sc "range" = true) (hn : noStar x = true) (hn2 : noStar y = true) (ha : SndE G C N sc a x) (hb : SndE G C N sc b y) : SndSrc G C N sc (.range2 a b) (.Call (.Name "range" p) [x, y] [] pos) tg := by
  intro X W hN hsc
  refine ⟨_, pi_range2 (glB_ok (by rw [hsc]; exact hg)) (W.mt _ (by unfold bnames; decide +kernel)) (pa_cons (tw_pe X x) (pa_cons (tw_pe X y) pa_nil (star_cons hn2)) (star_cons hn)) (by rw [star_cons hn, star_cons hn2]; rfl) (star_cons hn2), fun σ H ρ Ow os k R S hk hK => ?_⟩
  refine ha X W hN hsc σ H ρ Ow os _ _ S hk fun v H1 Ow1 os1 o1 d1 ρ1 r1 hk1 => ?_
  obtain ⟨i, rfl, hk2⟩ := intK_some hk1
  obtain ⟨rfl, _⟩ := id r1.rep
  refine hb X W hN hsc σ H1 ρ1 Ow1 os1 _ _ r1.st hk2 fun w H2 Ow2 os2 o2 d2 ρ2 r2 hk3 => ?_
  obtain ⟨j, rfl, hk4⟩ := intK_some hk3
  obtain ⟨rfl, _⟩ := id r2.rep
  have r12 := Res.two (qv := false) S.al r1 r2 fun z => nomatch z
  exact ⟨i, j, rfl, ⟨hk4.1.1, hk4.1.2, hk4.2.1.1, hk4.2.1.2⟩, hK _ _ _ _ _ _ ItR.range trivial r12.stp.drop0 r12.st hk4.2.2⟩
theorem rangeDn_len : ∀ (n : Nat) (i : Int), (rangeDn i n).length = n
  | 0, _ => rfl
  | n + 1, i => congrArg (· + 1) (rangeDn_len n (i - 1))
theorem rangeDn_get : ∀ (n : Nat) (i : Int) (j : Nat) (d : D), (rangeDn i n)[j]? = some d → d = .int (i + (j : Nat) * (-1))
  | 0, _, _, _, h => by cases h
  | n + 1, i, 0, d, h => by cases h; simp
  | n + 1, i, j + 1, d, h => by
    have := rangeDn_get n (i - 1) j d h
    rw [this]; congr 1; push_cast; omega
def ItR.rangeDn {K : PySem.W.Frag} {lo : Int} {n : Nat} : ItR K (Itc lo (-1) n) (rangeDn lo n) where
  Sd := fun _ _ => True
  stay := fun _ _ _ _ _ _ => trivial
  go := fun i H Ow _ hi => by rw [rangeDn_len] at hi; exact hi
  stop := fun i H Ow _ hi => by rw [rangeDn_len] at hi; exact hi
  yld := fun i H Ow x H' d _ _ hd hy => by
    obtain ⟨rfl, rfl⟩ := hy
    rw [rangeDn_get n lo i d hd]
    exact ⟨rep_int, .inl rfl⟩
theorem src_rangeDown {a b : E} {x y tg : Expr} {p pos : Pos} {j0 p1 p2} (hg : glB sc "range" = true) (hn : noStar x = true) (hn2 : noStar y = true) (ha : SndE G C N sc a x) (hb : SndE G C N sc b y) : SndSrc G C N sc (.rangeDown a b) (.Call (.Name "range" p) [x, y, .UnaryOp .USub (.Constant (.int 1) j0 p1) p2] [] pos) tg := by
  intro X W hN hsc
  refine ⟨_, pi_range3 (glB_ok (by rw [hsc]; exact hg)) (W.mt _ (by unfold bnames; decide +kernel)) (pa_cons (tw_pe X x) (pa_cons (tw_pe X y) (pa_cons (pe_un un_neg pe_int) pa_nil (star_cons rfl)) (star_cons hn2)) (star_cons hn)) (star_cons hn) (star_any (by show (noStar y && (noStar _ && true)) = true; rw [hn2]; rfl)), fun σ H ρ Ow os k R S hk hK => ?_⟩
  refine ha X W hN hsc σ H ρ Ow os _ _ S hk fun v H1 Ow1 os1 o1 d1 ρ1 r1 hk1 => ?_
  obtain ⟨i, rfl, hk2⟩ := intK_some hk1
  obtain ⟨rfl, _⟩ := id r1.rep
  refine hb X W hN hsc σ H1 ρ1 Ow1 os1 _ _ r1.st hk2 fun w H2 Ow2 os2 o2 d2 ρ2 r2 hk3 => ⟨1, rfl, ?_⟩
  obtain ⟨j, rfl, hk4⟩ := intK_some hk3
  obtain ⟨rfl, _⟩ := id r2.rep
  have r12 := Res.two (qv := false) S.al r1 r2 fun z => nomatch z
  exact ⟨i, j, -1, (i - j).toNat, rfl, RgC.neg hk4.1.1 hk4.1.2 hk4.2.1.1 hk4.2.1.2, hK _ _ _ _ _ _ ItR.rangeDn trivial r12.stp.drop0 r12.st hk4.2.2⟩
theorem enumL_len : ∀ (l : List D) (i : Int), (enumL i l).length = l.length
  | [], _ => rfl
  | d :: l, i => congrArg (· + 1) (enumL_len l (i + 1))
theorem enumL_get : ∀ (l : List D) (i : Int) (j : Nat) (d : D), (enumL i l)[j]? = some d → ∃ e, l[j]? = some e ∧ d = .tup [.int (i + j), e]
  | [], _, _, _, h => by cases h
  | e :: l, i, 0, d, h => by cases h; exact ⟨e, rfl, by simp⟩
  | e :: l, i, j + 1, d, h => by
    obtain ⟨e', h1, h2⟩ := enumL_get l (i + 1) j d h
    exact ⟨e', h1, by rw [h2]; congr 3; push_cast; omega⟩
theorem rep_pair {K : PySem.W.Frag} {H : Hp} {Ow : Addr → Prop} {T : Addr} {xs : List V} {l : List D} (hT : H T = none) (al : ∀ b, Ow b → ∃ x, H b = some x) (r : RepL K H Ow l xs []) : Rep K (upd H T (.tup xs)) Ow (.tup l) (.ref T) [] := by
  refine ⟨T, xs, rfl, .inl ⟨.inl upd_same, fun z => ?_⟩, RepL.move (fun b x e no => ⟨same_upd hT b x e, no⟩) l xs [] (fun _ z => nomatch z) r⟩
  obtain ⟨x, e⟩ := al T z
  rw [hT] at e; cases e
def ItR.enum {K : PySem.W.Frag} {a : Addr} {l : List D} : ItR K (Ite K a) (enumL 0 l) where
  Sd := fun H Ow => ∃ xs, LsOk H Ow a xs ∧ RepL K H Ow l xs []
  stay := fun H Ow H' Ow' ⟨xs, h, r⟩ hk => ⟨xs, hk a _ h.1 h.2, RepL.move hk l xs [] (fun _ z => nomatch z) r⟩
  go := fun i H Ow ⟨xs, h, r⟩ hi => by
    have e := RepL.length l xs [] r
    rw [enumL_len] at hi
    exact ⟨xs, xs[i], h.sq, List.getElem?_eq_getElem (by omega)⟩
  stop := fun i H Ow ⟨xs, h, r⟩ hi => ⟨xs, h.sq, by rw [RepL.length l xs [] r, ← enumL_len l 0]; exact hi⟩
  yld := fun i H Ow x H' d ⟨xs, h, r⟩ al hd hy => by
    obtain ⟨T, y, rfl, hT, rfl, hx⟩ := hy
    obtain ⟨e, h1, h2⟩ := enumL_get l 0 i d hd
    obtain ⟨v, hv, rv⟩ := RepL.all0 l xs r e i h1
    rw [hx xs h.sq] at hv
    cases hv
    refine ⟨?_, .inr ⟨T, _, hT, rfl⟩⟩
    rw [h2]
    exact rep_pair hT al ⟨_, _, [], [], rfl, by rw [Int.zero_add]; exact rep_int, ⟨_, _, [], [], rfl, rv, ⟨rfl, rfl⟩, rfl⟩, rfl⟩
theorem src_enum {e : E} {x : Expr} {p pos tpos : Pos} {elts kk} (hg : glB sc "enumerate" = true) (hn : noStar x = true) (h : SndV G C N sc e x) : SndSrc G C N sc (.enum e) (.Call (.Name "enumerate" p) [x] [] pos) (.Tuple elts kk tpos) := by
  intro X W hN hsc
  refine ⟨_, pi_enum (glB_ok (by rw [hsc]; exact hg)) (W.mt _ (by unfold bnames; decide +kernel)) (pa_cons (tw_pe X x) pa_nil (star_cons hn)) (star_cons hn), fun σ H ρ Ow os k R S hk hK => ?_⟩
  refine fz_snd (k := fun x' ρ1 => lstK x' fun l => k (enumL 0 l) ρ1) h W hN hsc S hk fun v H1 Ow1 os1 d ρ1 s1 S1 r1 hk1 => ?_
  obtain ⟨l, a, xs, rfl, ht, hl, hk2⟩ := rep_lst0 hk1 r1
  exact ⟨a, xs, rfl, ht.sq, hK _ _ _ _ _ _ ItR.enum ⟨xs, ht, hl⟩ s1 S1 hk2⟩
theorem zipL_get : ∀ (l m : List D) (j : Nat) (d : D), (zipL l m)[j]? = some d → ∃ e f, l[j]? = some e ∧ m[j]? = some f ∧ d = .tup [e, f]
  | [], _, _, _, h => by cases h
  | _ :: _, [], _, _, h => by cases h
  | e :: l, f :: m, 0, d, h => by cases h; exact ⟨e, f, rfl, rfl, rfl⟩
  | e :: l, f :: m, j + 1, d, h => zipL_get l m j d h
theorem zipL_len : ∀ (l m : List D), (zipL l m).length = min l.length m.length
  | [], m => by simp [zipL]
  | _ :: _, [] => by simp [zipL]
  | e :: l, f :: m => by
    show (zipL l m).length + 1 = min (l.length + 1) (m.length + 1)
    rw [zipL_len l m]; omega
def ItR.zip {K : PySem.W.Frag} {a b : Addr} {l m : List D} : ItR K (Itz K a b) (zipL l m) where
  Sd := fun H Ow => ∃ xs ys, LsOk H Ow a xs ∧ RepL K H Ow l xs [] ∧ LsOk H Ow b ys ∧ RepL K H Ow m ys []
  stay := fun H Ow H' Ow' ⟨xs, ys, h, r, h', r'⟩ hk => ⟨xs, ys, hk a _ h.1 h.2, RepL.move hk l xs [] (fun _ z => nomatch z) r, hk b _ h'.1 h'.2, RepL.move hk m ys [] (fun _ z => nomatch z) r'⟩
  go := fun i H Ow ⟨xs, ys, h, r, h', r'⟩ hi => by
    have e := RepL.length l xs [] r
    have e' := RepL.length m ys [] r'
    rw [zipL_len] at hi
    exact ⟨xs, ys, xs[i], ys[i], h.sq, h'.sq, List.getElem?_eq_getElem (by omega), List.getElem?_eq_getElem (by omega)⟩
  stop := fun i H Ow ⟨xs, ys, h, r, h', r'⟩ hi => by
    have e := RepL.length l xs [] r
    have e' := RepL.length m ys [] r'
    rw [zipL_len] at hi
    exact ⟨xs, ys, h.sq, h'.sq, by omega⟩
  yld := fun i H Ow x H' d ⟨xs, ys, h, r, h', r'⟩ al hd hy => by
    obtain ⟨T, y, z, rfl, hT, rfl, hx, hy⟩ := hy
    obtain ⟨e, f, h1, h2, rfl⟩ := zipL_get l m i d hd
    obtain ⟨v, hv, rv⟩ := RepL.all0 l xs r e i h1
    obtain ⟨w, hw, rw'⟩ := RepL.all0 m ys r' f i h2
    rw [hx xs h.sq] at hv
    rw [hy ys h'.sq] at hw
    cases hv
    cases hw
    exact ⟨rep_pair hT al ⟨_, _, [], [], rfl, rv, ⟨_, _, [], [], rfl, rw', ⟨rfl, rfl⟩, rfl⟩, rfl⟩, .inr ⟨T, _, hT, rfl⟩⟩
theorem src_zip {a b : E} {x y : Expr} {p pos tpos : Pos} {elts kk} (hg : glB sc "zip" = true) (hn : noStar x = true) (hn2 : noStar y = true) (ha : SndV G C N sc a x) (hb : SndV G C N sc b y) : SndSrc G C N sc (.zip a b) (.Call (.Name "zip" p) [x, y] [] pos) (.Tuple elts kk tpos) := by
  intro X W hN hsc
  refine ⟨_, pi_zip (glB_ok (by rw [hsc]; exact hg)) (W.mt _ (by unfold bnames; decide +kernel)) (pa_cons (tw_pe X x) (pa_cons (tw_pe X y) pa_nil (star_cons hn2)) (star_cons hn)) (star_cons hn) (star_any (by show (noStar y && true) = true; rw [hn2]; rfl)), fun σ H ρ Ow os k R S hk hK => ?_⟩
  refine fz_snd (k := fun x' ρ1 => toV b (evE C b) ρ1 fun y ρ2 => fzK y fun y' => lstK x' fun l => lstK y' fun m => k (zipL l m) ρ2) ha W hN hsc S hk fun v H1 Ow1 os1 d ρ1 s1 S1 r1 hk1 => ?_
  refine fz_snd (k := fun y' ρ2 => lstK d fun l => lstK y' fun m => k (zipL l m) ρ2) hb W hN hsc S1 hk1 fun w H2 Ow2 os2 d2 ρ2 s2 S2 r2 hk2 => ?_
  have r1' := s2.rep S1 r1 fun _ z => nomatch z
  obtain ⟨l, c, xs, rfl, ht, hl, hk3⟩ := rep_lst0 hk2 r1'
  obtain ⟨m, c', ys, rfl, ht', hl', hk4⟩ := rep_lst0 hk3 r2
  exact ⟨c, c', xs, ys, rfl, ht.sq, ht'.sq, hK _ _ _ _ _ _ ItR.zip ⟨xs, ys, ht, hl, ht', hl'⟩ ((s1.trans S.al s2).weak fun b hb => nomatch hb) S2 hk4⟩
end
end Tr

set_option maxRecDepth 100000
set_option maxHeartbeats 4000000
/-! Comprehensions. -/
namespace Tr
open PySem PySem.Spec PyProof.Rows L2
theorem Wd.blk {G : Gt} {C : Sem} {X : Cx} (W : Wd G C X) (s : Shared) (H : Hp) (scope : Scope) (cenv : PySem.Env) (fp : List Addr) : Wd G C (X.blk s H scope cenv fp) :=
  ⟨W.calm, W.nd, rfl, W.mt, W.cn, W.fn, W.un⟩
/-- within a comprehension's block -/
def twB (X : Cx) (scope : Scope) (e : Expr) : TE := fun σ H Q => ∀ (s : Shared) (H0 : Hp) (c : Addr) (cl : List (Str × Addr)) (fp : List Addr), tw (X.blk s H0 scope (compEnvC scope cl c X.env) fp) e σ H Q
def twBT (X : Cx) (scope : Scope) (e : Expr) : TT := fun σ H Q => ∀ (s : Shared) (H0 : Hp) (c : Addr) (cl : List (Str × Addr)) (fp : List Addr), twT (X.blk s H0 scope (compEnvC scope cl c X.env) fp) e σ H Q
def twBG (X : Cx) (scope : Scope) (e : Expr) : TG := fun v σ H Q => ∀ (s : Shared) (H0 : Hp) (c : Addr) (cl : List (Str × Addr)) (fp : List Addr), twG (X.blk s H0 scope (compEnvC scope cl c X.env) fp) e v σ H Q
theorem relabel_eq (scope : Scope) (cl : List (Str × Addr)) (c : Addr) (env : PySem.Env) : (compEnvC scope cl c env).scope = relS scope env.scope := rfl
section
variable {K : PySem.W.Frag} {n : Nat} {σ : L2.St} {H H' : Hp} {Ow Ow' : Addr → Prop} {os os' : Os} {ρ ρ' : Env}
theorem wipeK_eq : ∀ (own : List Nat) (ρ : Env) (k : Env → Prop), wipeK own ρ k → k (own.foldl (fun r i => r.set i none) ρ)
  | [], _, _, h => h
  | i :: r, ρ, k, h => wipeK_eq r _ k ((setK_eq _ _ _ _).mp h)
def wipeE (own : List Nat) (ρ : Env) : Env := own.foldl (fun r i => r.set i none) ρ
theorem gE_wipe : ∀ (own : List Nat) (ρ : Env) (j : Nat), gE (wipeE own ρ) j = if j ∈ own then none else gE ρ j
  | [], ρ, j => by simp [wipeE]
  | i :: r, ρ, j => by
    show gE (wipeE r (ρ.set i none)) j = _
    rw [gE_wipe r]
    by_cases h : j ∈ r
    · simp [h]
    · rw [if_neg h, gE_set]
      by_cases e : i = j
      · subst e
        by_cases hl : i < ρ.length
        · simp [hl]
        · have : gE ρ i = none := by
            cases q : gE ρ i with
            | none => rfl
            | some d => exact absurd (gE_lt q) hl
          simp [hl, this]
      · simp [e, h, Ne.symm e]
theorem wipeE_len : ∀ (own : List Nat) (ρ : Env), (wipeE own ρ).length = ρ.length
  | [], _ => rfl
  | i :: r, ρ => by show (wipeE r (ρ.set i none)).length = _; rw [wipeE_len r, List.length_set]
theorem wipe_get : ∀ (own : List Nat) (σ : L2.St) (j : Nat), j ∉ own → (wipe σ own)[j]? = σ[j]?
  | [], _, _, _ => rfl
  | i :: r, σ, j, h => by
    rw [List.mem_cons, not_or] at h
    show ((wipe σ r).set i none)[j]? = _
    rw [List.getElem?_set_ne (Ne.symm h.1), wipe_get r σ j h.2]
theorem wipe_in : ∀ (own : List Nat) (σ : L2.St) (j : Nat), j ∈ own → j < σ.length → (wipe σ own)[j]? = some none
  | i :: r, σ, j, h, hl => by
    show ((wipe σ r).set i none)[j]? = _
    by_cases e : i = j
    · subst e
      rw [List.getElem?_set_self (by rw [wipe_length]; exact hl)]
    · rw [List.getElem?_set_ne e]
      rcases List.mem_cons.mp h with z | z
      · exact absurd z.symm e
      · exact wipe_in r σ j z hl
theorem wipe_eq {own : List Nat} {σ σ' : L2.St} (hl : σ'.length = σ.length) (h : ∀ i, i ∉ own → σ'[i]? = σ[i]?) : wipe σ' own = wipe σ own := by
  apply List.ext_getElem?
  intro j
  by_cases hj : j ∈ own
  · by_cases hlt : j < σ.length
    · rw [wipe_in own σ j hj hlt, wipe_in own σ' j hj (by omega)]
    · rw [List.getElem?_eq_none (by rw [wipe_length]; omega), List.getElem?_eq_none (by rw [wipe_length]; omega)]
  · rw [wipe_get own σ' j hj, wipe_get own σ j hj, h j hj]
def wipeO (own : List Nat) (os : Os) : Os := fun i => if i ∈ own then [] else os i
theorem inO_wipe {own : List Nat} {b : Addr} : inO (wipeO own os) b → inO os b := fun ⟨i, h⟩ => by
  unfold wipeO at h
  split at h
  · cases h
  · exact ⟨i, h⟩
theorem St.wipe (own : List Nat) (S : St K n H Ow σ ρ os) : St K n H Ow (wipe σ own) (wipeE own ρ) (wipeO own os) := by
  refine ⟨by rw [wipe_length]; exact S.len, by rw [wipeE_len]; exact S.lnr, fun i d e => ?_, fun i e => ?_, fun i => ?_, fun i j b h1 h2 => ?_, S.al⟩
  · rw [gE_wipe] at e
    split at e
    · cases e
    · rename_i hi
      obtain ⟨v, q1, q2⟩ := S.rep i d e
      refine ⟨v, by rw [wipe_get own σ i hi]; exact q1, ?_⟩
      unfold wipeO
      rw [if_neg hi]
      exact q2
  · unfold wipeO
    split
    · rfl
    · rename_i hi
      rw [gE_wipe, if_neg hi] at e
      exact S.emp i e
  · unfold wipeO
    split
    · exact List.nodup_nil
    · exact S.nd i
  · unfold wipeO at h1 h2
    split at h1
    · cases h1
    · split at h2
      · cases h2
      · exact S.dj i j b h1 h2
theorem Stp.wipe (own : List Nat) : Stp H Ow os H Ow (wipeO own os) [] :=
  ⟨fun _ _ h _ => h, fun _ x h => ⟨x, h⟩, fun _ h => .inl h, fun _ h _ => h, fun b h => h.elim (fun z => .inl (inO_wipe z)) fun z => nomatch z⟩
/-- a temporary thing of one's own is written to -/
theorem St.writeT {a : Addr} {u : HO} (S : St K n H Ow σ ρ os) (ha : Ow a) (hn : ¬ inO os a) : St K n (upd H a u) Ow σ ρ os := by
  have kp : ∀ b x, H b = some x → b ≠ a → upd H a u b = some x := fun b x e h => by rw [upd_ne h]; exact e
  refine ⟨S.len, S.lnr, fun i d e => ?_, S.emp, S.nd, S.dj, fun b h => ?_⟩
  · obtain ⟨v, q, r⟩ := S.rep i d e
    exact ⟨v, q, Rep.move (fun b x e no => ⟨kp b x e fun z => no (by rw [z]; exact ha), no⟩) d v _ (fun b hb => ⟨fun x e => kp b x e fun z => hn ⟨i, by rw [← z]; exact hb⟩, (Rep.own d v _ r b hb).1⟩) r⟩
  · obtain ⟨x, e⟩ := S.al b h
    by_cases z : b = a
    · exact ⟨u, by rw [z]; exact upd_same⟩
    · exact ⟨x, kp b x e z⟩
theorem Rep.writeT {a : Addr} {u : HO} {d : D} {v : V} {o : List Addr} (ha : Ow a) (r : Rep K H Ow d v o) (hn : a ∉ o) : Rep K (upd H a u) Ow d v o :=
  Rep.move (fun b x e no => ⟨by rw [upd_ne fun z => no (by rw [z]; exact ha)]; exact e, no⟩) d v o (fun b hb => ⟨fun x e => by rw [upd_ne fun z => hn (by rw [← z]; exact hb)]; exact e, (Rep.own d v o r b hb).1⟩) r
theorem RepL.writeT {a : Addr} {u : HO} {d : List D} {v : List V} {o : List Addr} (ha : Ow a) (r : RepL K H Ow d v o) (hn : a ∉ o) : RepL K (upd H a u) Ow d v o :=
  RepL.move (fun b x e no => ⟨by rw [upd_ne fun z => no (by rw [z]; exact ha)]; exact e, no⟩) d v o (fun b hb => ⟨fun x e => by rw [upd_ne fun z => hn (by rw [← z]; exact hb)]; exact e, (RepL.own d v o r b hb).1⟩) r
theorem backK_eq : ∀ (own : List Nat) (ρ0 ρ : Env) (k : Env → Prop), backK own ρ0 ρ k → k (own.foldl (fun r i => r.set i (gE ρ0 i)) ρ)
  | [], _, _, _, h => h
  | i :: r, ρ0, ρ, k, h => backK_eq r ρ0 _ k ((setK_eq _ _ _ _).mp h)
def backE (own : List Nat) (ρ0 ρ : Env) : Env := own.foldl (fun r i => r.set i (gE ρ0 i)) ρ
theorem backE_len : ∀ (own : List Nat) (ρ0 ρ : Env), (backE own ρ0 ρ).length = ρ.length
  | [], _, _ => rfl
  | i :: r, ρ0, ρ => by show (backE r ρ0 (ρ.set i _)).length = _; rw [backE_len r, List.length_set]
theorem gE_back : ∀ (own : List Nat) (ρ0 ρ : Env) (j : Nat), ρ0.length = ρ.length → gE (backE own ρ0 ρ) j = if j ∈ own then gE ρ0 j else gE ρ j
  | [], _, _, _, _ => by simp [backE]
  | i :: r, ρ0, ρ, j, hl => by
    show gE (backE r ρ0 (ρ.set i (gE ρ0 i))) j = _
    rw [gE_back r _ _ _ (by rw [List.length_set]; exact hl)]
    by_cases h : j ∈ r
    · simp [h]
    · rw [if_neg h, gE_set]
      by_cases e : i = j
      · subst e
        by_cases hlt : i < ρ.length
        · simp [hlt]
        · have g : ∀ r : Env, r.length ≤ i → gE r i = none := fun r hr => by
            cases q : gE r i with
            | none => rfl
            | some d => exact absurd (gE_lt q) (by omega)
          rw [g ρ0 (by omega), g ρ (by omega)]
          simp
      · simp [e, h, Ne.symm e]
/-- the names that a comprehension hid come back -/
theorem St.back {own : List Nat} {Hs : Hp} {Ows : Addr → Prop} {oss : Os} {ρs : Env} {o : List Addr} (S0 : St K n Hs Ows σ ρs oss) (s : Stp Hs Ows (wipeO own oss) H' Ow' os' o) (S' : St K n H' Ow' (L2.wipe σ own) ρ' os') : St K n H' Ow' σ (backE own ρs ρ') (fun i => if i ∈ own then oss i else os' i) := by
  have dj : ∀ i j b, i ∈ own → b ∈ oss i → b ∈ os' j → False := fun i j b hi h1 h2 => by
    rcases s.new b (.inl ⟨j, h2⟩) with ⟨l, z⟩ | z
    · unfold wipeO at z
      split at z
      · cases z
      · rename_i hl
        have := S0.dj i l b h1 z
        exact hl (this ▸ hi)
    · obtain ⟨x, e⟩ := S0.al b (S0.held ⟨i, h1⟩)
      rw [z] at e; cases e
  refine ⟨S0.len, by rw [backE_len]; exact S'.lnr, fun i d e => ?_, fun i e => ?_, fun i => ?_, fun i j b h1 h2 => ?_, S'.al⟩
  · rw [gE_back _ _ _ _ (by rw [S0.lnr, S'.lnr])] at e
    by_cases hi : i ∈ own
    · rw [if_pos hi] at e
      obtain ⟨v, q1, q2⟩ := S0.rep i d e
      refine ⟨v, q1, ?_⟩
      rw [if_pos hi]
      refine s.rep (S0.wipe own) q2 fun b hb ⟨l, z⟩ => ?_
      unfold wipeO at z
      split at z
      · cases z
      · rename_i hl
        exact hl ((S0.dj i l b hb z) ▸ hi)
    · rw [if_neg hi] at e
      obtain ⟨v, q1, q2⟩ := S'.rep i d e
      rw [wipe_get own σ i hi] at q1
      exact ⟨v, q1, by rw [if_neg hi]; exact q2⟩
  · rw [gE_back _ _ _ _ (by rw [S0.lnr, S'.lnr])] at e
    by_cases hi : i ∈ own
    · rw [if_pos hi] at e ⊢; exact S0.emp i e
    · rw [if_neg hi] at e ⊢; exact S'.emp i e
  · by_cases hi : i ∈ own
    · rw [if_pos hi]; exact S0.nd i
    · rw [if_neg hi]; exact S'.nd i
  · by_cases hi : i ∈ own
    · rw [if_pos hi] at h1
      by_cases hj : j ∈ own
      · rw [if_pos hj] at h2; exact S0.dj i j b h1 h2
      · rw [if_neg hj] at h2; exact (dj i j b hi h1 h2).elim
    · rw [if_neg hi] at h1
      by_cases hj : j ∈ own
      · rw [if_pos hj] at h2; exact (dj j i b hj h2 h1).elim
      · rw [if_neg hj] at h2; exact S'.dj i j b h1 h2
end
section
variable {G : Gt} {C : Sem} {N : List Str} {sc : Scope}
/-- a test of a comprehension -/
def SndC (G : Gt) (C : Sem) (N : List Str) (sc : Scope) (c : EO) (ifs : List Expr) : Prop := (c = .none ∧ ifs = []) ∨ ∃ e x, c = .some e ∧ ifs = [x] ∧ SndT G C N sc e x
def ttC (X : Cx) (scope : Scope) : List Expr → TT
  | [] => tYes
  | x :: _ => twBT X scope x
theorem comp_core {own : List Nat} {t : Tg} {s : Src} {c : EO} {e : E} {elt tg iter : Expr} {ifs : List Expr} {scope : Scope} (hs : SndSrc G C N sc s iter tg) (hg : SndG G C (fun x => scope.names.lookup x == some .cell) N (relS scope sc) t tg) (hc : SndC G C N (relS scope sc) c ifs) (he : SndV G C N (relS scope sc) e elt)
    (hsl : ∀ i ∈ slotsT t, i ∈ own) (X : Cx) (W : Wd G C X) (hN : X.N = N) (hsc : X.env.scope = sc) : ∃ wi, PI X tg iter wi ∧ ∀ σ H ρ Ow os k Q, St X.K N.length H Ow σ ρ os → evE C (.comp own t s c e) ρ k → Kn X.K N.length σ H Ow os ρ false false k Q →
      tLc wi (twBG X scope tg) (ttC X scope ifs) (twB X scope elt) own σ H Q := by
  obtain ⟨wi, hpi, q⟩ := hs X W hN hsc
  refine ⟨wi, hpi, fun σ H ρ Ow os k Q S hk hK => ?_⟩
  refine q σ H ρ Ow os _ _ S hk fun J H1 Ow1 os1 ρ1 items I sd s1 S1 hk1 D hD => ?_
  have hk2 := wipeK_eq own ρ1 _ hk1
  have Sw := S1.wipe own
  -- the invariant
  refine ⟨fun i m H => m = items.length - i ∧ i ≤ items.length ∧ ∃ ρi Ow os acc accV o, Stp H1 Ow1 (wipeO own os1) H Ow os (D :: o) ∧ St X.K N.length H Ow (wipe σ own) ρi os ∧ I.Sd H Ow ∧ H D = some (.lst accV) ∧ RepL X.K H Ow acc accV o ∧ Ow D ∧ (D :: o).Nodup ∧ (∀ b ∈ D :: o, ¬ inO os b) ∧
    compL own (bindK t) (fun ρ' kb => evCond C c ρ' kb) (toV e (evE C e)) (items.drop i) ρi acc (fun l ρ3 => backK own ρ1 ρ3 fun ρ4 => k (.mu l) ρ4), ⟨items.length, by simp, Nat.zero_le _, wipeE own ρ1, plus Ow1 D, wipeO own os1, [], [], [], ?_⟩, ?_⟩
  · have sD : Stp H1 Ow1 (wipeO own os1) (upd H1 D (.lst [])) (plus Ow1 D) (wipeO own os1) [D] := Stp.mu hD
    refine ⟨sD, Sw.mu hD, I.stay H1 Ow1 _ _ sd (fun b x e no => ⟨same_upd hD b x e, fun z => z.elim no fun z => by rw [z, hD] at e; cases e⟩), upd_same, ⟨rfl, rfl⟩, .inr rfl, by simp, fun b hb z => ?_, hk2⟩
    rw [List.mem_singleton.mp hb] at z
    obtain ⟨x, e⟩ := S1.al D (S1.held (inO_wipe z))
    rw [hD] at e; cases e
  · rintro i m H ⟨rfl, hi, ρi, Ow, os, acc, accV, o, st, Si, sdi, hDi, ra, owD, nd, dj, hkc⟩
    by_cases hlt : i < items.length
    · refine .inr ⟨I.go i H Ow sdi hlt, _, fun H' h' => ⟨items.length - (i + 1), by omega, h'⟩, fun x H' hy => ?_⟩
      obtain ⟨d, hd⟩ : ∃ d, items[i]? = some d := ⟨items[i], List.getElem?_eq_getElem hlt⟩
      obtain ⟨rx, hH'⟩ := I.yld i H Ow x H' d sdi Si.al hd hy
      rw [List.drop_eq_getElem_cons hlt] at hkc
      have ed : items[i] = d := by rw [List.getElem?_eq_getElem hlt] at hd; exact Option.some.inj hd
      rw [ed] at hkc
      -- behind the item
      have stY : Stp H Ow os H' Ow os [] := by
        rcases hH' with rfl | ⟨p, u, hp, rfl⟩
        · exact Stp.refl
        · exact Stp.frz hp
      have smY : Same H H' := by
        rcases hH' with rfl | ⟨p, u, hp, rfl⟩
        · exact Same.refl _
        · exact same_upd hp
      have SY : St X.K N.length H' Ow (wipe σ own) ρi os := Si.grow smY (fun _ h => h) (fun _ h => .inl h) fun b h => by
        obtain ⟨x, e⟩ := Si.al b h
        exact ⟨x, smY b x e⟩
      have hkc' : bindK t d ρi fun ρ1' => evCond C c ρ1' fun b ρ2 => br b
        (toV e (evE C e) ρ2 fun y ρ3 => acc.length < sizeLine ∧ wipeK own ρ3 fun ρ4 => compL own (bindK t) (fun ρ' kb => evCond C c ρ' kb) (toV e (evE C e)) (items.drop (i + 1)) ρ4 (acc ++ [y]) (fun l ρ3 => backK own ρ1 ρ3 fun ρ4 => k (.mu l) ρ4))
        (wipeK own ρ2 fun ρ4 => compL own (bindK t) (fun ρ' kb => evCond C c ρ' kb) (toV e (evE C e)) (items.drop (i + 1)) ρ4 acc (fun l ρ3 => backK own ρ1 ρ3 fun ρ4 => k (.mu l) ρ4)) := hkc
      intro s0 H0 c0 cl0 fp0
      have hfn : ∀ x, (scope.names.lookup x == some .cell) = true → (X.blk s0 H0 scope (compEnvC scope cl0 c0 X.env) fp0).fn x = true := fun x h => h
      refine hg (X.blk s0 H0 scope (compEnvC scope cl0 c0 X.env) fp0) (W.blk ..) hN (by rw [← hsc]; rfl) hfn x (wipe σ own) H' ρi Ow os d [] _ _ SY rx List.nodup_nil (fun _ z => nomatch z) hkc' fun σ2 ρ2 os2 S2 in2 sl2 hk3 => ?_
      have hw : wipe σ2 own = wipe σ own := by
        have l2 : σ2.length = (wipe σ own).length := by rw [S2.len, Si.len]
        have q := wipe_eq (own := own) l2 fun j hj => sl2 j fun z => hj (hsl j z)
        rw [q]
        refine wipe_eq (by rw [wipe_length]) fun j hj => wipe_get own σ j hj
      have in2' : ∀ b, inO os2 b → inO os b := fun b hb => (in2 b hb).elim id fun z => nomatch z
      have st2 : Stp H Ow os H' Ow os2 [] := ⟨stY.keep, stY.dom, stY.sub, stY.oth, fun b h => h.elim (fun z => .inl (in2' b z)) fun z => nomatch z⟩
      refine ⟨hw, ?_⟩
      -- the test, then the item or nothing
      have go : ∀ (b : Bool) (H3 : Hp) (Ow3 : Addr → Prop) (os3 : Os) (ρ3 : Env), Stp H' Ow os2 H3 Ow3 os3 [] → St X.K N.length H3 Ow3 σ2 ρ3 os3 → br b
        (toV e (evE C e) ρ3 fun y ρ3 => acc.length < sizeLine ∧ wipeK own ρ3 fun ρ4 => compL own (bindK t) (fun ρ' kb => evCond C c ρ' kb) (toV e (evE C e)) (items.drop (i + 1)) ρ4 (acc ++ [y]) (fun l ρ3 => backK own ρ1 ρ3 fun ρ4 => k (.mu l) ρ4))
        (wipeK own ρ3 fun ρ4 => compL own (bindK t) (fun ρ' kb => evCond C c ρ' kb) (toV e (evE C e)) (items.drop (i + 1)) ρ4 acc (fun l ρ3 => backK own ρ1 ρ3 fun ρ4 => k (.mu l) ρ4)) →
        if b = true then twB X scope elt σ2 H3 fun y H4 => ∃ acc, H4 D = some (.lst acc) ∧ acc.length < sizeLine ∧ (fun H' => items.length - (i + 1) = items.length - (i + 1) ∧ i + 1 ≤ items.length ∧ ∃ ρi Ow os acc accV o, Stp H1 Ow1 (wipeO own os1) H' Ow os (D :: o) ∧ St X.K N.length H' Ow (wipe σ own) ρi os ∧ I.Sd H' Ow ∧ H' D = some (.lst accV) ∧ RepL X.K H' Ow acc accV o ∧ Ow D ∧ (D :: o).Nodup ∧ (∀ b ∈ D :: o, ¬ inO os b) ∧
            compL own (bindK t) (fun ρ' kb => evCond C c ρ' kb) (toV e (evE C e)) (items.drop (i + 1)) ρi acc (fun l ρ3 => backK own ρ1 ρ3 fun ρ4 => k (.mu l) ρ4)) (upd H4 D (.lst (acc ++ [y])))
          else (fun H' => items.length - (i + 1) = items.length - (i + 1) ∧ i + 1 ≤ items.length ∧ ∃ ρi Ow os acc accV o, Stp H1 Ow1 (wipeO own os1) H' Ow os (D :: o) ∧ St X.K N.length H' Ow (wipe σ own) ρi os ∧ I.Sd H' Ow ∧ H' D = some (.lst accV) ∧ RepL X.K H' Ow acc accV o ∧ Ow D ∧ (D :: o).Nodup ∧ (∀ b ∈ D :: o, ¬ inO os b) ∧
            compL own (bindK t) (fun ρ' kb => evCond C c ρ' kb) (toV e (evE C e)) (items.drop (i + 1)) ρi acc (fun l ρ3 => backK own ρ1 ρ3 fun ρ4 => k (.mu l) ρ4)) H3 := by
        intro b H3 Ow3 os3 ρ3 st3 S3 hbr
        have st03 : Stp H Ow os H3 Ow3 os3 [] := (st2.trans Si.al st3).weak fun b hb => nomatch hb
        -- what stands apart stands behind any step
        have stand : ∀ {H4 : Hp} {Ow4 : Addr → Prop} {os4 : Os} {o4 : List Addr}, Stp H Ow os H4 Ow4 os4 o4 → I.Sd H4 Ow4 ∧ H4 D = some (.lst accV) ∧ RepL X.K H4 Ow4 acc accV o ∧ Ow4 D ∧ (∀ b ∈ D :: o, ¬ inO os4 b) ∧ (∀ b ∈ D :: o, b ∉ o4) := fun {H4 Ow4 os4 o4} s4 => by
          refine ⟨I.stay H Ow H4 Ow4 sdi fun b x e no => ⟨s4.keep b x e fun z => no (Si.held z), fun z => ?_⟩, s4.keep D _ hDi (dj D List.mem_cons_self), s4.repL Si ra fun b hb => dj b (List.mem_cons_of_mem _ hb), s4.oth D owD (dj D List.mem_cons_self), fun b hb z => ?_, fun b hb z => ?_⟩
          · rcases s4.sub b z with q | q
            · exact no q
            · rw [q] at e; cases e
          · rcases s4.new b (.inl z) with q | q
            · exact dj b hb q
            · rcases List.mem_cons.mp hb with rfl | hb'
              · rw [hDi] at q; cases q
              · obtain ⟨_, x, e⟩ := RepL.own acc accV o ra b hb'
                rw [q] at e; cases e
          · rcases s4.new b (.inr z) with q | q
            · exact dj b hb q
            · rcases List.mem_cons.mp hb with rfl | hb'
              · rw [hDi] at q; cases q
              · obtain ⟨_, x, e⟩ := RepL.own acc accV o ra b hb'
                rw [q] at e; cases e
        refine br_ite hbr (fun h => ?_) fun h => ?_
        · intro s0 H0 c0 cl0 fp0
          refine he (X.blk s0 H0 scope (compEnvC scope cl0 c0 X.env) fp0) (W.blk ..) hN (by rw [← hsc]; rfl) σ2 H3 ρ3 Ow3 os3 _ _ S3 h fun y H4 Ow4 os4 o4 d4 ρ4 r4 hk4 => ?_
          have st04 : Stp H Ow os H4 Ow4 os4 o4 := (st03.trans Si.al r4.stp).weak fun b hb => .inl (by simpa using hb)
          obtain ⟨a1, a2, a3, a4, a5, a6⟩ := stand st04
          obtain ⟨hlen, hk5⟩ := hk4
          have hk6 := wipeK_eq own ρ4 _ hk5
          have S4w := r4.st.wipe own
          rw [hw] at S4w
          have nDo : D ∉ o := (List.nodup_cons.mp nd).1
          have nDo4 : D ∉ o4 := a6 D List.mem_cons_self
          have dj4 : ∀ b ∈ D :: (o ++ o4), ¬ inO (wipeO own os4) b := fun b hb z => by
            rcases List.mem_cons.mp hb with rfl | hb
            · exact a5 b List.mem_cons_self (inO_wipe z)
            · rcases List.mem_append.mp hb with hb | hb
              · exact a5 b (List.mem_cons_of_mem _ hb) (inO_wipe z)
              · exact r4.own.2 b hb (inO_wipe z)
          refine ⟨accV, a2, by rw [RepL.length acc accV o ra]; exact hlen, rfl, hlt, wipeE own ρ4, Ow4, wipeO own os4, acc ++ [d4], accV ++ [y], o ++ o4, ?_, S4w.writeT a4 (dj4 D List.mem_cons_self), I.stay H4 Ow4 _ _ a1 (fun b x e no => ⟨by rw [upd_ne fun z => no (by rw [z]; exact a4)]; exact e, no⟩), upd_same, ?_, a4, ?_, dj4, hk6⟩
          · have sall : Stp H1 Ow1 (wipeO own os1) H4 Ow4 os4 ((D :: o) ++ o4) := st.trans Sw.al st04
            refine ⟨fun b x e no => ?_, fun b x e => ?_, sall.sub, sall.oth, fun b h => ?_⟩
            · rw [upd_ne fun z => by rw [z, hD] at e; cases e]; exact sall.keep b x e no
            · obtain ⟨y, hy⟩ := sall.dom b x e
              by_cases z : b = D
              · exact ⟨_, by rw [z]; exact upd_same⟩
              · exact ⟨y, by rw [upd_ne z]; exact hy⟩
            · rcases h with h | h
              · exact sall.new b (.inl (inO_wipe h))
              · exact sall.new b (.inr h)
          · exact RepL.append acc [d4] accV [y] o o4 (a3.writeT a4 nDo) ⟨y, [], o4, [], rfl, r4.rep.writeT a4 nDo4, ⟨rfl, rfl⟩, by simp⟩
          · rw [List.nodup_cons] at nd ⊢
            refine ⟨fun z => (List.mem_append.mp z).elim nDo nDo4, ?_⟩
            rw [List.nodup_append]
            exact ⟨nd.2, r4.own.1, fun b hb c hc z => a6 b (List.mem_cons_of_mem _ hb) (by rw [z]; exact hc)⟩
        · have hk6 := wipeK_eq own ρ3 _ h
          obtain ⟨a1, a2, a3, a4, a5, a6⟩ := stand st03
          have S3w := S3.wipe own
          rw [hw] at S3w
          have sall : Stp H1 Ow1 (wipeO own os1) H3 Ow3 os3 ((D :: o) ++ []) := st.trans Sw.al st03
          exact ⟨rfl, hlt, wipeE own ρ3, Ow3, wipeO own os3, acc, accV, o, ⟨sall.keep, sall.dom, sall.sub, sall.oth, fun b h => h.elim (fun z => sall.new b (.inl (inO_wipe z))) fun z => sall.new b (.inr (List.mem_append_left _ z))⟩, S3w, a1, a2, a3, a4, nd, fun b hb z => a5 b hb (inO_wipe z), hk6⟩
      rcases hc with ⟨rfl, rfl⟩ | ⟨ec, xc, rfl, rfl, hct⟩
      · exact go true H' Ow os2 ρ2 Stp.refl S2 hk3
      · intro s0 H0 c0 cl0 fp0
        exact hct (X.blk s0 H0 scope (compEnvC scope cl0 c0 X.env) fp0) (W.blk ..) hN (by rw [← hsc]; rfl) σ2 H' ρ2 Ow os2 _ _ S2 hk3 fun b H3 Ow3 os3 ρ3 st3 S3 h3 => go b H3 Ow3 os3 ρ3 st3 S3 h3
    · have e0 : i = items.length := by omega
      refine .inl ⟨I.stop i H Ow sdi (by omega), ?_⟩
      subst e0
      rw [List.drop_length] at hkc
      have hkc' : backK own ρ1 ρi fun ρ4 => k (.mu acc) ρ4 := hkc
      have hk4 := backK_eq own ρ1 ρi _ hkc'
      have Sb := St.back S1 st Si
      refine hK (.ref D) H Ow _ (D :: o) (.mu acc) _ ⟨?_, Sb, ⟨D, accV, o, rfl, hDi, owD, ra, rfl⟩, ⟨nd, fun b hb ⟨j, z⟩ => ?_⟩, fun z => nomatch z⟩ hk4
      · have s2 : Stp H1 Ow1 os1 H Ow (fun i => if i ∈ own then os1 i else os i) (D :: o) := by
          refine ⟨fun b x e no => st.keep b x e fun z => no (inO_wipe z), st.dom, st.sub, fun b h no => st.oth b h fun z => no (inO_wipe z), fun b h => ?_⟩
          have up : inO (wipeO own os1) b ∨ H1 b = none → inO os1 b ∨ H1 b = none := fun z => z.imp inO_wipe id
          rcases h with ⟨j, z⟩ | h
          · have z : b ∈ (if j ∈ own then os1 j else os j) := z
            by_cases hj : j ∈ own
            · rw [if_pos hj] at z; exact .inl ⟨j, z⟩
            · rw [if_neg hj] at z; exact up (st.new b (.inl ⟨j, z⟩))
          · exact up (st.new b (.inr h))
        exact (s1.trans S.al s2).weak fun b hb => .inl (by simpa using hb)
      · have z : b ∈ (if j ∈ own then os1 j else os j) := z
        by_cases hj : j ∈ own
        · rw [if_pos hj] at z
          rcases st.new b (.inr hb) with ⟨l, w⟩ | w
          · unfold wipeO at w
            split at w
            · cases w
            · rename_i hl
              exact hl ((S1.dj j l b z w) ▸ hj)
          · obtain ⟨x, e⟩ := S1.al b (S1.held ⟨j, z⟩)
            rw [w] at e; cases e
        · rw [if_neg hj] at z
          exact dj b hb ⟨j, z⟩

theorem tt_ok (X : Cx) (scope : Scope) (ifs : List Expr) (h : ifs = [] ∨ ∃ x, ifs = [x]) (s : Shared) (H0 : Hp) (c : Addr) (cl : List (Str × Addr)) (fp : List Addr) : PTs (X.blk s H0 scope (compEnvC scope cl c X.env) fp) ifs (ttC X scope ifs) := by
  rcases h with rfl | ⟨x, rfl⟩
  · exact pts_nil
  · exact pts_one ⟨fun pins s' σ H Q I h => h s H0 c cl fp pins s' I⟩
theorem ifs_of {c : EO} {ifs : List Expr} (h : SndC G C N sc c ifs) : ifs = [] ∨ ∃ x, ifs = [x] := by
  rcases h with ⟨_, h⟩ | ⟨e, x, _, h, _⟩
  · exact .inl h
  · exact .inr ⟨x, h⟩
/-- a comprehension's own names with their places -/
def ownP (N : List Str) (own : List Nat) : List (Str × Nat) := own.filterMap fun i => (N[i]?).map fun x => (x, i)
theorem ownP_snd (N : List Str) : ∀ own : List Nat, (own.all fun i => decide (i < N.length)) = true → (ownP N own).map (·.2) = own
  | [], _ => rfl
  | i :: r, h => by
    rw [List.all_cons, Bool.and_eq_true] at h
    have hi : i < N.length := of_decide_eq_true h.1
    unfold ownP
    rw [List.filterMap_cons, List.getElem?_eq_getElem hi]
    show i :: (ownP N r).map (·.2) = _
    rw [ownP_snd N r h.2]
theorem s_comp {own : List Nat} {t : Tg} {s : Src} {c : EO} {e : E} {elt tg iter : Expr} {ifs : List Expr} {scope : Scope} {pos} (hs : SndSrc G C N sc s iter tg) (hg : SndG G C (fun x => scope.names.lookup x == some .cell) N (relS scope sc) t tg) (hc : SndC G C N (relS scope sc) c ifs) (he : SndV G C N (relS scope sc) e elt)
    (hsl : ∀ i ∈ slotsT t, i ∈ own) (hset : noSet iter = true) (hol : (own.all fun i => decide (i < N.length)) = true) (hb : blkC N sc scope (ownP N own) = true) : SndE G C N sc (.comp own t s c e) (.ListComp elt [⟨tg, iter, ifs, 0⟩] scope pos) := by
  intro X W hN hsc σ H ρ Ow os k Q S hk hK
  obtain ⟨wi, hpi, q⟩ := comp_core hs hg hc he hsl X W hN hsc
  refine pe_tw (pe_lc (own := ownP N own) W.calm W.nd hpi (blkOk_by (by rw [hN, hsc]; exact hb)) (g := twBG X scope tg) (tt := ttC X scope ifs) (te := twB X scope elt) (fun s0 H0 c0 cl fp => ⟨fun pins s' σ H v u Q I r h => h s0 H0 c0 cl fp pins s' u I r⟩) (fun s0 H0 c0 cl fp => tt_ok X scope ifs (ifs_of hc) s0 H0 c0 cl fp) (fun s0 H0 c0 cl fp => ⟨fun pins s' σ H Q I h => h s0 H0 c0 cl fp pins s' I⟩) (set_of hset)) ?_
  rw [ownP_snd N own hol]
  exact q σ H ρ Ow os k Q S hk hK
end
end Tr

set_option maxRecDepth 100000
set_option maxHeartbeats 4000000
/-! Statements. -/
namespace Tr
open PySem PySem.Spec PyProof.Rows L2
def twS (X : Cx) (st : Stmt) : TS := fun D σ H => ∀ pins s, Inv X pins σ H s → wpAny (model X.prog X.w) X.A (exec st X.env) (SP X pins D) X.xe s
def twSs (X : Cx) (st : List Stmt) : TS := fun D σ H => ∀ pins s, Inv X pins σ H s → wpAny (model X.prog X.w) X.A (execs st X.env) (SP X pins D) X.xe s
theorem twS_ps (X : Cx) (st : Stmt) : PS X st (twS X st) := ⟨fun pins s σ H D I h => h pins s I⟩
theorem twSs_ps (X : Cx) (st : List Stmt) : PSs X st (twSs X st) := ⟨fun pins s σ H D I h => h pins s I⟩
theorem ps_tw {X : Cx} {st : Stmt} {t : TS} (h : PS X st t) {D : Ends} {σ : L2.St} {H : Hp} (q : t D σ H) : twS X st D σ H := fun pins s I => h.run pins s σ H D I q
theorem pss_tw {X : Cx} {st : List Stmt} {t : TS} (h : PSs X st t) {D : Ends} {σ : L2.St} {H : Hp} (q : t D σ H) : twSs X st D σ H := fun pins s I => h.run pins s σ H D I q

section
variable (K : PySem.W.Frag) (n : Nat) (pin : List Nat) (σ : L2.St) (H : Hp) (Ow : Addr → Prop) (os : Os)
def EndN (k : Env → Prop) (Q : L2.St → Hp → Prop) : Prop := ∀ σ' H' Ow' os' ρ', Stp H Ow os H' Ow' os' [] → St K n H' Ow' σ' ρ' os' → (∀ i ∈ pin, σ'[i]? = σ[i]?) → k ρ' → Q σ' H'
def EndR (k : D → Env → Prop) (Q : VK) : Prop := ∀ v σ' H' Ow' os' o d ρ', Stp H Ow os H' Ow' os' o → St K n H' Ow' σ' ρ' os' → (∀ i ∈ pin, σ'[i]? = σ[i]?) → Rep K H' Ow' d v o → o.Nodup → (∀ b ∈ o, ¬ inO os' b) → k d ρ' → Q v H'
structure SEnd (k : Tr.K) (D : Ends) : Prop where
  nx : EndN K n pin σ H Ow os k.nx D.nx
  rt : EndR K n pin σ H Ow os k.rt D.rt
  bk : EndN K n pin σ H Ow os k.bk D.bk
  ct : EndN K n pin σ H Ow os k.ct D.ct
end
section
variable {K : PySem.W.Frag} {n : Nat} {pin : List Nat} {σ σ1 : L2.St} {H H1 : Hp} {Ow Ow1 : Addr → Prop} {os os1 : Os} {ρ ρ1 : Env}
theorem EndN.at {k : Env → Prop} {Q : L2.St → Hp → Prop} (e : EndN K n pin σ H Ow os k Q) (al : ∀ b, Ow b → ∃ x, H b = some x) (s : Stp H Ow os H1 Ow1 os1 []) (hp : ∀ i ∈ pin, σ1[i]? = σ[i]?) : EndN K n pin σ1 H1 Ow1 os1 k Q :=
  fun σ' H' Ow' os' ρ' s' S' hp' hk => e σ' H' Ow' os' ρ' ((s.trans al s').weak fun b hb => nomatch hb) S' (fun i hi => (hp' i hi).trans (hp i hi)) hk
theorem EndR.at {k : D → Env → Prop} {Q : VK} (e : EndR K n pin σ H Ow os k Q) (al : ∀ b, Ow b → ∃ x, H b = some x) (s : Stp H Ow os H1 Ow1 os1 []) (hp : ∀ i ∈ pin, σ1[i]? = σ[i]?) : EndR K n pin σ1 H1 Ow1 os1 k Q :=
  fun v σ' H' Ow' os' o d ρ' s' S' hp' r nd dj hk => e v σ' H' Ow' os' o d ρ' ((s.trans al s').weak fun b hb => .inl (by simpa using hb)) S' (fun i hi => (hp' i hi).trans (hp i hi)) r nd dj hk
theorem SEnd.at {k : Tr.K} {D : Ends} (e : SEnd K n pin σ H Ow os k D) (al : ∀ b, Ow b → ∃ x, H b = some x) (s : Stp H Ow os H1 Ow1 os1 []) (hp : ∀ i ∈ pin, σ1[i]? = σ[i]?) : SEnd K n pin σ1 H1 Ow1 os1 k D :=
  ⟨e.nx.at al s hp, e.rt.at al s hp, e.bk.at al s hp, e.ct.at al s hp⟩
/-- the slot's list is written to -/
theorem St.write {i : Nat} {a : Addr} {l l' : List D} {xs xs' : List V} {o o' : List Addr} (S : St K n H Ow σ ρ os) (hg : gE ρ i = some (.mu l)) (hv : σ[i]? = some (some (.ref a))) (ha : H a = some (.lst xs)) (ho : os i = a :: o) (r : RepL K H Ow l' xs' o') (nd : (a :: o').Nodup) (dj : ∀ b ∈ o', ∀ j, j ≠ i → b ∉ os j) :
    St K n (upd H a (.lst xs')) Ow σ (ρ.set i (some (.mu l'))) (updO os i (a :: o')) := by
  have hi : i < n := by rw [← S.lnr]; exact gE_lt hg
  have own : Ow a := S.held ⟨i, by rw [ho]; exact List.mem_cons_self⟩
  have na : a ∉ o' := (List.nodup_cons.mp nd).1
  have apart : ∀ j, j ≠ i → a ∉ os j := fun j hj z => hj (S.dj j i a z (by rw [ho]; exact List.mem_cons_self))
  refine ⟨S.len, by rw [List.length_set]; exact S.lnr, fun j d e => ?_, fun j e => ?_, fun j => ?_, fun j m b h1 h2 => ?_, fun b h => ?_⟩
  · rw [gE_set] at e
    by_cases hj : i = j
    · subst hj
      rw [if_pos ⟨rfl, by rw [S.lnr]; exact hi⟩] at e
      cases e
      refine ⟨.ref a, hv, ?_⟩
      rw [updO_same]
      exact ⟨a, xs', o', rfl, upd_same, own, r.writeT own na, rfl⟩
    · rw [if_neg fun z => hj z.1] at e
      obtain ⟨v, q1, q2⟩ := S.rep j d e
      rw [updO_ne (Ne.symm hj)]
      exact ⟨v, q1, q2.writeT own (apart j (Ne.symm hj))⟩
  · rw [gE_set] at e
    by_cases hj : i = j
    · subst hj
      rw [if_pos ⟨rfl, by rw [S.lnr]; exact hi⟩] at e
      cases e
    · rw [if_neg fun z => hj z.1] at e
      rw [updO_ne (Ne.symm hj)]
      exact S.emp j e
  · by_cases hj : j = i
    · rw [hj, updO_same]; exact nd
    · rw [updO_ne hj]; exact S.nd j
  · have dj' : ∀ b ∈ a :: o', ∀ j, j ≠ i → b ∉ os j := fun b hb j hj => by
      rcases List.mem_cons.mp hb with rfl | hb
      · exact apart j hj
      · exact dj b hb j hj
    by_cases hj : j = i
    · by_cases hm : m = i
      · rw [hj, hm]
      · rw [hj, updO_same] at h1
        rw [updO_ne hm] at h2
        exact absurd h2 (dj' b h1 m hm)
    · by_cases hm : m = i
      · rw [updO_ne hj] at h1
        rw [hm, updO_same] at h2
        exact absurd h1 (dj' b h2 j hj)
      · rw [updO_ne hj] at h1
        rw [updO_ne hm] at h2
        exact S.dj j m b h1 h2
  · obtain ⟨x, e⟩ := S.al b h
    by_cases z : b = a
    · exact ⟨_, by rw [z]; exact upd_same⟩
    · exact ⟨x, by rw [upd_ne z]; exact e⟩
/-- .. as a step; p: a temporary thing that goes in -/
theorem Stp.write {i : Nat} {a : Addr} {u : HO} {o o' p : List Addr} (ho : os i = a :: o) (hs : ∀ b ∈ o', b ∈ o ∨ b ∈ p) {H0 : Hp} {Ow0 : Addr → Prop} {os0 : Os} (s : Stp H0 Ow0 os0 H Ow os p) : Stp H0 Ow0 os0 (upd H a u) Ow (updO os i (a :: o')) [] := by
  refine ⟨fun b x e no => ?_, fun b x e => ?_, s.sub, s.oth, fun b h => ?_⟩
  · have q := s.keep b x e no
    rw [upd_ne]
    · exact q
    · intro z
      rcases s.new a (.inl ⟨i, by rw [ho]; exact List.mem_cons_self⟩) with w | w
      · exact no (by rw [z]; exact w)
      · rw [z, w] at e; cases e
  · obtain ⟨y, hy⟩ := s.dom b x e
    by_cases z : b = a
    · exact ⟨_, by rw [z]; exact upd_same⟩
    · exact ⟨y, by rw [upd_ne z]; exact hy⟩
  · rcases h with ⟨j, h⟩ | h
    · by_cases hj : j = i
      · rw [hj, updO_same] at h
        rcases List.mem_cons.mp h with rfl | h
        · exact s.new b (.inl ⟨i, by rw [ho]; exact List.mem_cons_self⟩)
        · rcases hs b h with w | w
          · exact s.new b (.inl ⟨i, by rw [ho]; exact List.mem_cons_of_mem _ w⟩)
          · exact s.new b (.inr w)
      · rw [updO_ne hj] at h
        exact s.new b (.inl ⟨j, h⟩)
    · cases h
theorem mutK_some {o : Option D} {k : List D → Prop} (h : mutK o k) : ∃ l, o = some (.mu l) ∧ k l := by
  cases o with
  | none => exact h.elim
  | some d => cases d <;> first | exact h.elim | exact ⟨_, rfl, h⟩
end
/-- a text's block is nothing but itself -/
def SndS (G : Gt) (C : Sem) (F : Str → Bool) (N : List Str) (sc : Scope) (pin : List Nat) (s : S) (st : Stmt) : Prop :=
  ∀ X : Cx, Wd G C X → X.N = N → X.env.scope = sc → (∀ x, F x = true → X.fn x = true) → ∀ σ H ρ Ow os (k : K) (D : Ends), St X.K N.length H Ow σ ρ os → evS C s ρ k → SEnd X.K N.length pin σ H Ow os k D → twS X st D σ H
def SndSs (G : Gt) (C : Sem) (F : Str → Bool) (N : List Str) (sc : Scope) (pin : List Nat) (s : Ss) (st : List Stmt) : Prop :=
  ∀ X : Cx, Wd G C X → X.N = N → X.env.scope = sc → (∀ x, F x = true → X.fn x = true) → ∀ σ H ρ Ow os (k : K) (D : Ends), St X.K N.length H Ow σ ρ os → evSs C s ρ k → SEnd X.K N.length pin σ H Ow os k D → twSs X st D σ H
section
variable {G : Gt} {C : Sem} {F : Str → Bool} {N : List Str} {sc : Scope} {pin : List Nat}
theorem ss_nil : SndSs G C F N sc pin .nil [] := fun X W hN hsc hF σ H ρ Ow os k D S hk hK => pss_tw pss_nil (hK.nx σ H Ow os ρ Stp.refl S (fun _ _ => rfl) hk)
theorem ss_cons {s : S} {ss : Ss} {st : Stmt} {sts : List Stmt} (h : SndS G C F N sc pin s st) (hr : SndSs G C F N sc pin ss sts) : SndSs G C F N sc pin (.cons s ss) (st :: sts) := by
  intro X W hN hsc hF σ H ρ Ow os k D S hk hK
  refine pss_tw (pss_cons (twS_ps X st) (twSs_ps X sts)) ?_
  refine h X W hN hsc hF σ H ρ Ow os _ _ S hk ⟨fun σ' H' Ow' os' ρ' s1 S1 hp hk1 => ?_, hK.rt, hK.bk, hK.ct⟩
  exact hr X W hN hsc hF σ' H' ρ' Ow' os' k D S1 hk1 (hK.at S.al s1 hp)
theorem s_brk {pos} : SndS G C F N sc pin .brk (.Break pos) := fun X W hN hsc hF σ H ρ Ow os k D S hk hK => ps_tw ps_break (hK.bk σ H Ow os ρ Stp.refl S (fun _ _ => rfl) hk)
theorem s_cont {pos} : SndS G C F N sc pin .cont (.Continue pos) := fun X W hN hsc hF σ H ρ Ow os k D S hk hK => ps_tw ps_continue (hK.ct σ H Ow os ρ Stp.refl S (fun _ _ => rfl) hk)
theorem s_pass {pos} : SndS G C F N sc pin .pass (.Pass pos) := fun X W hN hsc hF σ H ρ Ow os k D S hk hK => ps_tw ps_pass (hK.nx σ H Ow os ρ Stp.refl S (fun _ _ => rfl) hk)
theorem s_never {st : Stmt} : SndS G C F N sc pin .never st := fun X W hN hsc hF σ H ρ Ow os k D S hk hK => hk.elim
theorem s_ret {e : E} {x : Expr} {pos} (h : SndV G C N sc e x) : SndS G C F N sc pin (.ret e) (.Return (some x) pos) := by
  intro X W hN hsc hF σ H ρ Ow os k D S hk hK
  refine ps_tw (ps_ret (tw_pe X x)) ?_
  exact h X W hN hsc σ H ρ Ow os _ _ S hk fun v H1 Ow1 os1 o1 d1 ρ1 r1 hk1 => hK.rt v σ H1 Ow1 os1 o1 d1 ρ1 r1.stp r1.st (fun _ _ => rfl) r1.rep r1.own.1 r1.own.2 hk1
theorem s_iff {c : E} {a b : Ss} {x : Expr} {p q : List Stmt} {pos} (hc : SndT G C N sc c x) (ha : SndSs G C F N sc pin a p) (hb : SndSs G C F N sc pin b q) : SndS G C F N sc pin (.iff c a b) (.If x p q pos) := by
  intro X W hN hsc hF σ H ρ Ow os k D S hk hK
  refine ps_tw (ps_if (twT_pt X x) (twSs_ps X p) (twSs_ps X q)) ?_
  refine hc X W hN hsc σ H ρ Ow os (fun t ρ1 => br t (evSs C a ρ1 k) (evSs C b ρ1 k)) _ S hk fun t H1 Ow1 os1 ρ1 s1 S1 hk1 => ?_
  exact br_ite hk1 (fun h => ha X W hN hsc hF σ H1 ρ1 Ow1 os1 k D S1 h (hK.at S.al s1 fun _ _ => rfl)) fun h => hb X W hN hsc hF σ H1 ρ1 Ow1 os1 k D S1 h (hK.at S.al s1 fun _ _ => rfl)
theorem s_whl {c : E} {b : Ss} {x : Expr} {p : List Stmt} {pos} (hc : SndT G C N sc c x) (hb : SndSs G C F N sc pin b p) : SndS G C F N sc pin (.whl c b) (.While x p [] pos) := by
  intro X W hN hsc hF σ H ρ Ow os k D S hk hK
  refine ps_tw (ps_while (by rw [W.xe]; exact PassesOwn.never) (twT_pt X x) (twSs_ps X p)) ?_
  obtain ⟨m, hm⟩ := hk
  refine ⟨fun m σ' H' => ∃ Ow' os' ρ', Stp H Ow os H' Ow' os' [] ∧ St X.K N.length H' Ow' σ' ρ' os' ∧ (∀ i ∈ pin, σ'[i]? = σ[i]?) ∧ whlN (evE C c) (evSs C b) m ρ' k, ⟨m, Ow, os, ρ, Stp.refl, S, fun _ _ => rfl, hm⟩, ?_⟩
  rintro m σ1 H1 ⟨Ow1, os1, ρ1, s1, S1, hp1, hw⟩
  cases m with
  | zero => exact hw.elim
  | succ m =>
    refine hc X W hN hsc σ1 H1 ρ1 Ow1 os1 (fun b' ρ1 => br b' (evSs C b ρ1 { nx := fun ρ2 => whlN (evE C c) (evSs C b) m ρ2 k, ct := fun ρ2 => whlN (evE C c) (evSs C b) m ρ2 k, bk := k.nx, rt := k.rt }) (k.nx ρ1)) _ S1 hw fun t H2 Ow2 os2 ρ2 s2 S2 hk2 => ?_
    have s12 : Stp H Ow os H2 Ow2 os2 [] := (s1.trans S.al s2).weak fun b hb => nomatch hb
    refine br_ite hk2 (fun h => ?_) fun h => hK.nx σ1 H2 Ow2 os2 ρ2 s12 S2 hp1 h
    refine ⟨fun σ' H' => ∃ Ow' os' ρ', Stp H Ow os H' Ow' os' [] ∧ St X.K N.length H' Ow' σ' ρ' os' ∧ (∀ i ∈ pin, σ'[i]? = σ[i]?) ∧ whlN (evE C c) (evSs C b) m ρ' k, fun σ' H' q => ⟨m, Nat.lt_succ_self m, q⟩, ?_⟩
    have hK2 := hK.at (H1 := H2) (Ow1 := Ow2) (os1 := os2) (σ1 := σ1) S.al s12 hp1
    have again : EndN X.K N.length pin σ1 H2 Ow2 os2 (fun ρ2 => whlN (evE C c) (evSs C b) m ρ2 k) fun σ' H' => ∃ Ow' os' ρ', Stp H Ow os H' Ow' os' [] ∧ St X.K N.length H' Ow' σ' ρ' os' ∧ (∀ i ∈ pin, σ'[i]? = σ[i]?) ∧ whlN (evE C c) (evSs C b) m ρ' k :=
      fun σ' H' Ow' os' ρ' s' S' hp' hk' => ⟨Ow', os', ρ', (s12.trans S.al s').weak fun b hb => (nomatch hb), S', fun i hi => (hp' i hi).trans (hp1 i hi), hk'⟩
    exact hb X W hN hsc hF σ1 H2 ρ2 Ow2 os2 _ _ S2 h ⟨again, hK2.rt, hK2.nx, again⟩
theorem s_for {t : Tg} {s : Src} {b : Ss} {tg iter : Expr} {p : List Stmt} {pos} (hs : SndSrc G C N sc s iter tg) (hg : SndG G C F N sc t tg) (hb : SndSs G C F N sc pin b p) (hset : noSet iter = true) (hpin : ∀ i ∈ pin, i ∉ slotsT t) : SndS G C F N sc pin (.for_ t s b) (.For tg iter p [] pos) := by
  intro X W hN hsc hF σ H ρ Ow os k D S hk hK
  obtain ⟨wi, hpi, q⟩ := hs X W hN hsc
  refine ps_tw (ps_for (by rw [W.xe]; exact PassesOwn.never) W.calm hpi (twG_pg X tg) (twSs_ps X p) (set_of hset)) ?_
  refine q σ H ρ Ow os _ _ S hk fun J H1 Ow1 os1 ρ1 items I sd s1 S1 hk1 => ?_
  refine ⟨fun i m σ' H' => m = items.length - i ∧ i ≤ items.length ∧ ∃ Ow' os' ρ', Stp H Ow os H' Ow' os' [] ∧ St X.K N.length H' Ow' σ' ρ' os' ∧ I.Sd H' Ow' ∧ (∀ i ∈ pin, σ'[i]? = σ[i]?) ∧ forL (bindK t) (evSs C b) (items.drop i) ρ' k, ⟨items.length, by simp, Nat.zero_le _, Ow1, os1, ρ1, s1, S1, sd, fun _ _ => rfl, hk1⟩, ?_⟩
  rintro i m σ2 H2 ⟨rfl, hi, Ow2, os2, ρ2, s2, S2, sd2, hp2, hw⟩
  by_cases hlt : i < items.length
  · refine .inr ⟨I.go i H2 Ow2 sd2 hlt, _, fun σ' H' h' => ⟨items.length - (i + 1), by omega, h'⟩, fun x H' hy => ?_⟩
    obtain ⟨d, hd⟩ : ∃ d, items[i]? = some d := ⟨items[i], List.getElem?_eq_getElem hlt⟩
    obtain ⟨rx, hH'⟩ := I.yld i H2 Ow2 x H' d sd2 S2.al hd hy
    rw [List.drop_eq_getElem_cons hlt] at hw
    have ed : items[i] = d := by rw [List.getElem?_eq_getElem hlt] at hd; exact Option.some.inj hd
    rw [ed] at hw
    have stY : Stp H2 Ow2 os2 H' Ow2 os2 [] := by
      rcases hH' with rfl | ⟨p, u, hp, rfl⟩
      · exact Stp.refl
      · exact Stp.frz hp
    have smY : Same H2 H' := by
      rcases hH' with rfl | ⟨p, u, hp, rfl⟩
      · exact Same.refl _
      · exact same_upd hp
    have SY : St X.K N.length H' Ow2 σ2 ρ2 os2 := S2.grow smY (fun _ h => h) (fun _ h => .inl h) fun b h => by
      obtain ⟨x, e⟩ := S2.al b h
      exact ⟨x, smY b x e⟩
    have sdY : I.Sd H' Ow2 := I.stay H2 Ow2 H' Ow2 sd2 fun b x e no => ⟨smY b x e, no⟩
    refine hg X W hN hsc hF x σ2 H' ρ2 Ow2 os2 d [] _ _ SY rx List.nodup_nil (fun _ z => nomatch z) hw fun σ3 ρ3 os3 S3 in3 sl3 hk3 => ?_
    have in3' : ∀ b, inO os3 b → inO os2 b := fun b hb => (in3 b hb).elim id fun z => nomatch z
    have s3 : Stp H Ow os H' Ow2 os3 [] := by
      have z : Stp H Ow os H' Ow2 os2 [] := (s2.trans S.al stY).weak fun b hb => nomatch hb
      exact ⟨z.keep, z.dom, z.sub, z.oth, fun b h => h.elim (fun w => z.new b (.inl (in3' b w))) fun w => nomatch w⟩
    have hp3 : ∀ i ∈ pin, σ3[i]? = σ[i]? := fun i hi => (sl3 i (hpin i hi)).trans (hp2 i hi)
    have hK3 := hK.at (H1 := H') (Ow1 := Ow2) (os1 := os3) (σ1 := σ3) S.al s3 hp3
    have again : EndN X.K N.length pin σ3 H' Ow2 os3 (fun ρ2 => forL (bindK t) (evSs C b) (items.drop (i + 1)) ρ2 k) fun σ' H' => items.length - (i + 1) = items.length - (i + 1) ∧ i + 1 ≤ items.length ∧ ∃ Ow' os' ρ', Stp H Ow os H' Ow' os' [] ∧ St X.K N.length H' Ow' σ' ρ' os' ∧ I.Sd H' Ow' ∧ (∀ i ∈ pin, σ'[i]? = σ[i]?) ∧ forL (bindK t) (evSs C b) (items.drop (i + 1)) ρ' k :=
      fun σ' H'' Ow' os' ρ' s' S' hp' hk' => ⟨rfl, hlt, Ow', os', ρ', (s3.trans S.al s').weak fun b hb => (nomatch hb), S', I.stay H' Ow2 H'' Ow' sdY (fun b x e no => ⟨s'.keep b x e fun z => no (S3.held z), fun z => by
        rcases s'.sub b z with w | w
        · exact no w
        · rw [w] at e; cases e⟩), fun i hi => (hp' i hi).trans (hp3 i hi), hk'⟩
    exact hb X W hN hsc hF σ3 H' ρ3 Ow2 os3 _ _ S3 hk3 ⟨again, hK3.rt, hK3.nx, again⟩
  · have e0 : i = items.length := by omega
    refine .inl ⟨I.stop i H2 Ow2 sd2 (by omega), ?_⟩
    subst e0
    rw [List.drop_length] at hw
    exact hK.nx σ2 H2 Ow2 os2 ρ2 s2 S2 hp2 hw
end
end Tr

set_option maxRecDepth 100000
set_option maxHeartbeats 4000000
/-! Statements that store. -/
namespace Tr
open PySem PySem.Spec PyProof.Rows L2
def noComp : Expr → Bool
  | .ListComp _ _ _ _ => false | .SetComp _ _ _ _ => false | .DictComp _ _ _ _ _ => false
  | _ => true
theorem swap_no {e : Expr} {t : Option Expr} {l : Nat} {env : PySem.Env} (h : noComp e = true) : swapsWith e t l env = pure false := by
  cases e <;> first | rfl | cases h
def swB (a : Expr) (x : Str) (p : Pos) (sc : Scope) : Bool := match a with
  | .ListComp _ _ _ pos => !(locB (fun _ => false) sc x && p.line == pos.line)
  | .SetComp _ _ _ _ => false | .DictComp _ _ _ _ _ => false
  | _ => true
theorem sw_false {a : Expr} {x : Str} {p : Pos} {l : Nat} {env : PySem.Env} (h : swB a x p env.scope = true) : swapsWith a (some (.Name x p)) l env = pure false := by
  cases a <;> first | rfl | exact absurd h Bool.false_ne_true | skip
  rename_i elt gs scope pos
  unfold swB locB at h
  unfold swapsWith Env.kindOf
  simp only [Expr.pos]
  cases e : env.scope.names.lookup x with
  | none => simp <;> rfl
  | some k =>
    rw [e] at h
    cases k with
    | «local» =>
      have h' : (p.line == pos.line) = false := by simpa using h
      simp only [h', Bool.and_false, Bool.false_and]
    | _ => simp only [show ∀ a b : NameKind, (some a == some b) = (a == b) from fun _ _ => rfl, show (NameKind.cell == NameKind.local) = false from rfl, show (NameKind.free == NameKind.local) = false from rfl, show (NameKind.globalExplicit == NameKind.local) = false from rfl, show (NameKind.globalImplicit == NameKind.local) = false from rfl, Bool.and_false, Bool.false_and] <;> rfl
section
variable {K : PySem.W.Frag} {n : Nat} {pin : List Nat} {σ : L2.St} {H H1 : Hp} {Ow Ow1 : Addr → Prop} {os os1 os2 : Os} {ρ ρ1 : Env}
theorem Stp.bind {o : List Addr} (s : Stp H Ow os H1 Ow1 os1 o) (h : ∀ b, inO os2 b → inO os1 b ∨ b ∈ o) : Stp H Ow os H1 Ow1 os2 [] :=
  ⟨s.keep, s.dom, s.sub, s.oth, fun b z => z.elim (fun z => s.new b (h b z)) fun z => nomatch z⟩
theorem set_end {i : Nat} {k : Env → Prop} {Q : L2.St → Hp → Prop} {v : V} {o : List Addr} {d : D} (hK : EndN K n pin σ H Ow os k Q) (r : Res K n σ H Ow os ρ false false v H1 Ow1 os1 o d ρ1) (hi : i < n) (hp : i ∉ pin) (hk : setK ρ1 i (some d) k) : Q (σ.set i (some v)) H1 :=
  hK _ _ _ _ _ (r.stp.bind fun b hb => (inO_upd hb).symm) (r.st.set hi r.rep r.own.1 r.own.2) (fun j hj => List.getElem?_set_ne fun e => hp (by rw [e]; exact hj)) ((setK_eq _ _ _ _).mp hk)
theorem write_end {i : Nat} {k : Env → Prop} {Q : L2.St → Hp → Prop} {a : Addr} {l l' : List D} {xs xs' : List V} {o o' p : List Addr} (hK : EndN K n pin σ H Ow os k Q) (s : Stp H Ow os H1 Ow1 os1 p) (S1 : St K n H1 Ow1 σ ρ1 os1) (hg : gE ρ1 i = some (.mu l)) (hv : σ[i]? = some (some (.ref a))) (ha : H1 a = some (.lst xs)) (ho : os1 i = a :: o) (r : RepL K H1 Ow1 l' xs' o') (hs : ∀ b ∈ o', b ∈ o ∨ b ∈ p) (nd : o'.Nodup) (pd : ∀ b ∈ p, ¬ inO os1 b) (hk : setK ρ1 i (some (.mu l')) k) : Q σ (upd H1 a (.lst xs')) := by
  have ndi := S1.nd i
  rw [ho, List.nodup_cons] at ndi
  have ai : inO os1 a := ⟨i, by rw [ho]; exact List.mem_cons_self⟩
  refine hK _ _ _ _ _ (Stp.write ho hs s) (S1.write hg hv ha ho r (List.nodup_cons.mpr ⟨fun z => ?_, nd⟩) fun b hb j hj z => ?_) (fun _ _ => rfl) ((setK_eq _ _ _ _).mp hk)
  · rcases hs a z with w | w
    · exact ndi.1 w
    · exact pd a w ai
  · rcases hs b hb with w | w
    · exact hj (S1.dj j i b z (by rw [ho]; exact List.mem_cons_of_mem _ w))
    · exact pd b w ⟨j, z⟩
/-- a slot's own list -/
theorem mu_at {i : Nat} {l : List D} (S : St K n H Ow σ ρ os) (hg : gE ρ i = some (.mu l)) : ∃ a xs o, σ[i]? = some (some (.ref a)) ∧ H a = some (.lst xs) ∧ RepL K H Ow l xs o ∧ os i = a :: o := by
  obtain ⟨v, hv, a, xs, o, rfl, ha, _, r, ho⟩ := S.rep i _ hg
  exact ⟨a, xs, o, hv, ha, r, ho⟩
theorem ixN_nat {n j : Nat} (hj : j < n) : ixN n (j : Int) = some j := by
  unfold ixN
  rw [if_pos (by omega), if_pos (by omega)]
  simp
theorem lsetK_eq : ∀ (l : List D) (n : Nat) (d : D) (k : List D → Prop), lsetK l n d k → n < l.length ∧ k (l.set n d)
  | [], _, _, _, h => h.elim
  | _ :: r, 0, d, k, h => ⟨Nat.zero_lt_succ _, h⟩
  | x :: r, n + 1, d, k, h => by
    obtain ⟨h1, h2⟩ := lsetK_eq r n d _ h
    exact ⟨Nat.succ_lt_succ h1, h2⟩
end
section
variable {G : Gt} {C : Sem} {F : Str → Bool} {N : List Str} {sc : Scope} {pin : List Nat}
theorem s_asg {i : Nat} {e : E} {x : Str} {p pos : Pos} {a : Expr} (h1 : N[i]? = some x) (h2 : locB F sc x = true) (hn : swB a x p sc = true) (hp : i ∉ pin) (h : SndV G C N sc e a) : SndS G C F N sc pin (.asg i e) (.Assign [.Name x p] a pos) := by
  intro X W hN hsc hF σ H ρ Ow os k D S hk hK
  obtain ⟨l1, l2⟩ := loc_of hsc hF h2
  refine ps_tw (ps_set W.nd (by rw [hN]; exact h1) l1 (tw_pe X a) (sw_false (by rw [hsc]; exact hn)) l2) ?_
  exact h X W hN hsc σ H ρ Ow os _ _ S hk fun v H1 Ow1 os1 o1 d1 ρ1 r1 hk1 => set_end hK.nx r1 (get_lt h1) hp hk1
def isFn (sc : Scope) : Bool := match sc.kind with
  | .function => true
  | _ => false
theorem isFn_ok {sc : Scope} (h : isFn sc = true) : sc.kind = .function := by
  unfold isFn at h
  split at h
  · assumption
  · cases h
theorem locF_ok {sc : Scope} {x : Str} (h : locB (fun _ => false) sc x = true) : sc.names.lookup x = some .local := by
  unfold locB at h
  split at h
  · assumption
  · cases h
  · cases h
theorem s_asgc {i : Nat} {y : Str} {py : Pos} {own : List Nat} {t : Tg} {s : Src} {c : EO} {e : E} {elt tg iter : Expr} {ifs : List Expr} {scope : Scope} {pos spos : Pos} (hs : SndSrc G C N sc s iter tg) (hg : SndG G C (fun x => scope.names.lookup x == some .cell) N (relS scope sc) t tg) (hc : SndC G C N (relS scope sc) c ifs) (he : SndV G C N (relS scope sc) e elt)
    (hsl : ∀ i ∈ slotsT t, i ∈ own) (hset : noSet iter = true) (hol : (own.all fun i => decide (i < N.length)) = true) (hb : blkC N sc scope (ownP N own) = true) (h1 : N[i]? = some y) (hyl : locB (fun _ => false) sc y = true) (hkf : isFn sc = true) (hl : (py.line == pos.line) = true) (ha : (scope.names.any fun (n, k) => n == y && (k == .local || k == .cell)) = false) (hp : i ∉ pin) :
    SndS G C F N sc pin (.asg i (.comp own t s c e)) (.Assign [.Name y py] (.ListComp elt [⟨tg, iter, ifs, 0⟩] scope pos) spos) := by
  intro X W hN hsc hF σ H ρ Ow os k D S hk hK
  obtain ⟨wi, hpi, q⟩ := comp_core hs hg hc he hsl X W hN hsc
  refine ps_tw (ps_setLc (own := ownP N own) W.calm W.nd (by rw [hN]; exact h1) (by rw [hsc]; exact locF_ok hyl) (sw_true (by rw [hsc]; exact isFn_ok hkf) (by rw [hsc]; exact locF_ok hyl) hl ha) hpi (blkOk_by (by rw [hN, hsc]; exact hb)) (g := twBG X scope tg) (tt := ttC X scope ifs) (te := twB X scope elt) (fun s0 H0 c0 cl fp => ⟨fun pins s' σ H v u Q I r h => h s0 H0 c0 cl fp pins s' u I r⟩) (fun s0 H0 c0 cl fp => tt_ok X scope ifs (ifs_of hc) s0 H0 c0 cl fp) (fun s0 H0 c0 cl fp => ⟨fun pins s' σ H Q I h => h s0 H0 c0 cl fp pins s' I⟩) (set_of hset)) ?_
  rw [ownP_snd N own hol]
  exact q σ H ρ Ow os _ _ S hk fun v H1 Ow1 os1 o1 d1 ρ1 r1 hk1 => set_end hK.nx r1 (get_lt h1) hp hk1
def isTupE : Expr → Bool
  | .Tuple _ _ _ => true
  | _ => false
/-- no exchange of the stores -/
def nonLoc (sc : Scope) : Expr → Bool
  | .Name x _ => !(sc.names.lookup x == some .local)
  | _ => true
def noSwap (sc : Scope) (es : List Expr) (v : Expr) : Bool := match v with
  | .Tuple vs _ _ => (vs.all (foldedForSure 8) || !(es.length == 2 || es.length == 3)) || es.any (nonLoc sc)
  | _ => true
theorem fm_le {f : Expr → Option Str} : ∀ ts : List Expr, (ts.filterMap f).length ≤ ts.length
  | [] => Nat.le_refl _
  | t :: ts => by
    have h1 := fm_le (f := f) ts
    rw [List.filterMap_cons]
    cases f t with
    | none => simp only [List.length_cons]; omega
    | some x => simp only [List.length_cons]; omega
theorem fm_lt {f : Expr → Option Str} {g : Expr → Bool} (h : ∀ e, g e = true → f e = none) : ∀ ts : List Expr, ts.any g = true → (ts.filterMap f).length < ts.length
  | [], h2 => by cases h2
  | t :: ts, h2 => by
    rw [List.any_cons, Bool.or_eq_true] at h2
    have h1 := fm_le (f := f) ts
    rw [List.filterMap_cons]
    rcases h2 with h2 | h2
    · rw [h t h2]
      simp only [List.length_cons]
      omega
    · have h3 := fm_lt h ts h2
      cases f t with
      | none => simp only [List.length_cons]; omega
      | some x => simp only [List.length_cons]; omega
theorem stores_none {ts : List Expr} {k : Nat} {p : Pos} {v : Expr} {env : PySem.Env} (h : noSwap env.scope ts v = true) : swappedStores [.Tuple ts k p] v env = pure none := by
  cases v with
  | Tuple vs k2 p2 =>
    have h : ((vs.all (foldedForSure 8) || !(ts.length == 2 || ts.length == 3)) || ts.any (nonLoc env.scope)) = true := h
    unfold swappedStores
    rcases Bool.or_eq_true_iff.mp h with h | h
    · rcases Bool.or_eq_true_iff.mp h with h | h
      · simp only [h]
        split
        · rfl
        · split
          · rfl
          · split
            · rfl
            · rfl
      · simp only [h, Bool.true_or]
        rfl
    · simp only []
      split
      · rfl
      · split
        · rfl
        · split
          · rfl
          · rename_i hno
            exfalso
            apply hno
            rw [Bool.or_eq_true]
            left
            rw [bne_iff_ne]
            refine Nat.ne_of_lt (fm_lt (g := nonLoc env.scope) (fun e he => ?_) ts h)
            cases e with
            | Name x q =>
              have he : (!(env.scope.names.lookup x == some .local)) = true := he
              have hk : (env.kindOf x == some .local) = false := by show (env.scope.names.lookup x == some .local) = false; simpa using he
              simp only [hk, Bool.false_and, Bool.false_eq_true, if_false]
            | _ => rfl
  | _ => rfl
theorem s_asgT {ts : List Tg} {e : E} {es : List Expr} {k0 : Nat} {p pos : Pos} {a : Expr} (hn : noStars es = true) (hl : ts.length = es.length) (hg : SndGs G C F N sc ts es) (hw : noSwap sc es a = true) (hp : ∀ i ∈ pin, i ∉ slotsTs ts) (h : SndV G C N sc e a) : SndS G C F N sc pin (.asgT ts e) (.Assign [.Tuple es k0 p] a pos) := by
  intro X W hN hsc hF σ H ρ Ow os k D S hk hK
  refine ps_tw (ps_asg (tw_pe X a) (twG_pg X _) (by cases a <;> rfl) (stores_none (by rw [hsc]; exact hw)) rfl) ?_
  refine h X W hN hsc σ H ρ Ow os _ _ S hk fun v H1 Ow1 os1 o1 d1 ρ1 r1 hk1 => ?_
  refine g_tup hn hg hl X W hN hsc hF v σ H1 ρ1 Ow1 os1 d1 o1 k.nx _ r1.st r1.rep r1.own.1 r1.own.2 hk1 fun σ2 ρ2 os2 S2 in2 sl2 hk2 => ?_
  exact hK.nx σ2 H1 Ow1 os2 ρ2 (r1.stp.bind in2) S2 (fun j hj => sl2 j (hp j hj)) hk2
theorem s_unl {ts : List Tg} {e : E} {es : List Expr} {k0 : Nat} {p pos : Pos} {a : Expr} (hn : noStars es = true) (hl : ts.length = es.length) (hg : SndGs G C F N sc ts es) (hw : noSwap sc es a = true) (hp : ∀ i ∈ pin, i ∉ slotsTs ts) (h : SndV G C N sc e a) : SndS G C F N sc pin (.unl ts e) (.Assign [.Tuple es k0 p] a pos) := by
  intro X W hN hsc hF σ H ρ Ow os k D S hk hK
  refine ps_tw (ps_asg (tw_pe X a) (pg_unl W.calm (twGs_pg X es) (assign_len es X.env) (assign_star es X.env hn)) (by cases a <;> rfl) (stores_none (by rw [hsc]; exact hw)) rfl) ?_
  refine h X W hN hsc σ H ρ Ow os _ _ S hk fun v H1 Ow1 os1 o1 d1 ρ1 r1 hk1 => ?_
  have go : ∀ (l : List Tr.D) (xs : List V) (o : List Addr), RepL X.K H1 Ow1 l xs o → (∀ b ∈ o, b ∈ o1) → o.Nodup → gK (sameLen ts l) (bindKs ts l ρ1 k.nx) → xs.length = es.length ∧ twGs X es xs σ H1 D.nx := fun l xs o rl sub nd hk => by
    obtain ⟨hsl, hk⟩ := gK_of hk
    refine ⟨by rw [RepL.length l xs _ rl, ← sameLen_eq ts l hsl, hl], ?_⟩
    refine hg X W hN hsc hF xs σ H1 ρ1 Ow1 os1 l o k.nx _ r1.st rl nd (fun b hb => r1.own.2 b (sub b hb)) hk fun σ2 ρ2 os2 S2 in2 sl2 hk2 => ?_
    exact hK.nx σ2 H1 Ow1 os2 ρ2 (r1.stp.bind fun b hb => (in2 b hb).imp id (sub b)) S2 (fun j hj => sl2 j (hp j hj)) hk2
  have rr := r1.rep
  have nd := r1.own.1
  cases d1 with
  | mu l =>
    obtain ⟨a', xs, o', rfl, ht, _, rl, eo⟩ := rr
    rw [eo, List.nodup_cons] at nd
    obtain ⟨q1, q2⟩ := go l xs o' rl (fun b hb => by rw [eo]; exact List.mem_cons_of_mem _ hb) nd.2 hk1
    exact ⟨a', xs, rfl, SqL.of ht, q1, q2⟩
  | lst l =>
    obtain ⟨a', xs, rfl, ht, rl, eo⟩ := rr
    obtain ⟨q1, q2⟩ := go l xs [] rl (fun _ z => nomatch z) List.nodup_nil hk1
    exact ⟨a', xs, rfl, ht.sq, q1, q2⟩
  | _ => exact hk1.elim
theorem dedup2 {x y : Str} (h : (y == x) = false) : [x, y].eraseDups.length = 2 := by
  simp [List.eraseDups_cons, h]
theorem dedup3 {x y z : Str} (h : (y == x) = false) (h2 : (z == x) = false) (h3 : (z == y) = false) : [x, y, z].eraseDups.length = 3 := by
  simp [List.eraseDups_cons, h, h2, h3]
theorem star_none {es : List Expr} (h : noStars es = true) {f : Expr → Bool} (hf : ∀ e, noStar e = true → f e = false := by intro e h; cases e <;> first | rfl | exact absurd h Bool.false_ne_true) : es.any f = false := by
  rw [List.any_eq_false]
  intro e he
  rw [hf e (List.all_eq_true.mp h e he)]
  exact Bool.false_ne_true
theorem sw2 {x y : Str} {px py pt pt2 : Pos} {a b : Expr} {kt k2 : Nat} {env : PySem.Env} (hk : env.scope.kind = .function) (hx : env.scope.names.lookup x = some .local) (hy : env.scope.names.lookup y = some .local) (hl : (py.line == px.line) = true) (hne : (y == x) = false) (hst : noStars [a, b] = true) (hf : [a, b].all (foldedForSure 8) = false) (hc : [a, b].all (constantsAlone 8) = false) :
    swappedStores [.Tuple [.Name x px, .Name y py] kt pt] (.Tuple [a, b] k2 pt2) env = pure (some [x, y]) := by
  have hb : env.blockKind = .function := by unfold Env.blockKind; rw [hk]; rfl
  have kx : env.kindOf x = some .local := hx
  have ky : env.kindOf y = some .local := hy
  unfold swappedStores
  simp only [hf, hc, hb, kx, ky, hl, Expr.pos, List.head?_cons, Option.map_some, Option.getD_some, List.filterMap_cons, List.filterMap_nil, beq_self_eq_true, Bool.and_self, if_true, dedup2 hne, List.length_cons, List.length_nil]
  rw [star_none hst]
  rfl
theorem s_par2 {i j : Nat} {a b : E} {x y : Str} {p q : Expr} {px py pt pt2 pos : Pos} {kt k2 : Nat} (h1 : N[i]? = some x) (h2 : N[j]? = some y) (hx : locB (fun _ => false) sc x = true) (hy : locB (fun _ => false) sc y = true) (hkf : isFn sc = true) (hl : (py.line == px.line) = true) (hne : (y == x) = false) (hst : noStars [p, q] = true) (hf : [p, q].all (foldedForSure 8) = false) (hc : [p, q].all (constantsAlone 8) = false) (hpi : i ∉ pin) (hpj : j ∉ pin) (hes : SndEs G C N sc (.cons a (.cons b .nil)) [p, q]) :
    SndS G C F N sc pin (.par2 i j a b) (.Assign [.Tuple [.Name x px, .Name y py] kt pt] (.Tuple [p, q] k2 pt2) pos) := by
  intro X W hN hsc hF σ H ρ Ow os k D S hk hK
  have hij : i ≠ j := fun e => by
    subst e
    rw [h1] at h2
    cases h2
    simp at hne
  refine ps_tw (ps_par W.calm W.nd (by rw [hN]; exact h1) (by rw [hN]; exact h2) hij (by rw [hsc]; exact locF_ok hx) (by rw [hsc]; exact locF_ok hy) (twA_pa X [p, q]) (sw2 (by rw [hsc]; exact isFn_ok hkf) (by rw [hsc]; exact locF_ok hx) (by rw [hsc]; exact locF_ok hy) hl hne hst hf hc) rfl) ?_
  refine hes X W hN hsc σ H ρ Ow os (fun ds ρ2 => match ds with | [x, y] => setK ρ2 i (some x) fun ρ3 => setK ρ3 j (some y) k.nx | _ => False) _ S hk fun vs H1 Ow1 os1 o ds ρ1 s1 S1 rl nd dj ln hk1 => ?_
  match ds, hk1 with
  | [d1, d2], hk1 =>
    obtain ⟨v1, vr, o1, o2, rfl, r1, rr, rfl⟩ := rl
    obtain ⟨v2, vr, o2, o3, rfl, r2, ⟨rfl, rfl⟩, rfl⟩ := rr
    rw [List.append_nil] at nd dj s1
    rw [List.nodup_append] at nd
    refine ⟨v1, v2, rfl, ?_⟩
    have S2 := S1.set (get_lt h1) r1 nd.1 fun b hb => dj b (List.mem_append_left _ hb)
    have S3 := S2.set (get_lt h2) r2 nd.2.1 fun b hb z => by
      rcases inO_upd z with w | w
      · exact nd.2.2 b w b hb rfl
      · exact dj b (List.mem_append_right _ hb) w
    refine hK.nx _ _ _ _ _ (s1.bind fun b hb => ?_) S3 (fun l hl => ?_) ?_
    · rcases inO_upd hb with w | w
      · exact .inr (List.mem_append_right _ w)
      · rcases inO_upd w with w | w
        · exact .inr (List.mem_append_left _ w)
        · exact .inl w
    · rw [List.getElem?_set_ne fun e => hpj (by rw [e]; exact hl), List.getElem?_set_ne fun e => hpi (by rw [e]; exact hl)]
    · have hk1 : setK ρ1 i (some d1) fun ρ3 => setK ρ3 j (some d2) k.nx := hk1
      exact (setK_eq _ _ _ _).mp ((setK_eq _ _ _ _).mp hk1)
  | [], hk1 => exact hk1.elim
  | [_], hk1 => exact hk1.elim
  | _ :: _ :: _ :: _, hk1 => exact hk1.elim
theorem s_expr {e : E} {a : Expr} {pos : Pos} (hn : noComp a = true) (h : SndE G C N sc e a) : SndS G C F N sc pin (.expr e) (.Expr a pos) := by
  intro X W hN hsc hF σ H ρ Ow os k D S hk hK
  refine ps_tw (ps_expr (tw_pe X a) (swap_no hn)) ?_
  exact h X W hN hsc σ H ρ Ow os _ _ S hk fun v H1 Ow1 os1 o1 d1 ρ1 r1 hk1 => hK.nx σ H1 Ow1 os1 ρ1 r1.stp.drop0 r1.st (fun _ _ => rfl) hk1
theorem s_doc {x : Str} {j : Nat} {pos pos' : Pos} : SndS G C F N sc pin .pass (.Expr (.Constant (.str x) j pos) pos') :=
  fun X W hN hsc hF σ H ρ Ow os k D S hk hK => ps_tw ps_doc (hK.nx σ H Ow os ρ Stp.refl S (fun _ _ => rfl) hk)
theorem s_setF {i n : Nat} {e : E} {x : Str} {a : Expr} {j p p2 pos pos2} (h1 : N[i]? = some x) (h2 : visB sc x = true) (h3 : dbgB x = true) (h : SndV G C N sc e a) : SndS G C F N sc pin (.setF i n e) (.Assign [.Subscript (.Name x p) (.Constant (.int (n : Int)) j p2) pos2] a pos) := by
  intro X W hN hsc hF σ H ρ Ow os k D S hk hK
  refine ps_tw (ps_asg (tw_pe X a) (pg_sub (pe_var (i := i) (by rw [hN]; exact h1) (visB_ok (by rw [hsc]; exact h2)) (dbgB_ok h3).1 (dbgB_ok h3).2) pe_int set_list) (by cases a <;> rfl) rfl rfl) ?_
  refine h X W hN hsc σ H ρ Ow os _ _ S hk fun v H1 Ow1 os1 o1 d1 ρ1 r1 hk1 => ?_
  obtain ⟨l, hg, hk1⟩ := mutK_some hk1
  obtain ⟨c, xs, o, hv, hc, rl, ho⟩ := mu_at r1.st hg
  obtain ⟨hlt, hk2⟩ := lsetK_eq l n d1 _ hk1
  have hlen := RepL.length l xs _ rl
  have ndi := r1.st.nd i
  rw [ho, List.nodup_cons] at ndi
  obtain ⟨o', q1, q2, q3⟩ := RepL.set l xs o n d1 v o1 rl r1.rep
  refine ⟨.ref c, hv, c, xs, (n : Int), n, rfl, rfl, hc, ixN_nat (by rw [hlen]; exact hlt), ?_⟩
  exact write_end hK.nx r1.stp r1.st hg hv hc ho q1 q2 (q3 ndi.2 r1.own.1 fun b hb z => r1.own.2 b hb ⟨i, by rw [ho]; exact List.mem_cons_of_mem _ z⟩) r1.own.2 hk2
def notSlice : Expr → Bool
  | .Slice _ _ _ _ => false
  | _ => true
theorem s_setI {i : Nat} {ix e : E} {x : Str} {a b : Expr} {p pos pos2} (h1 : N[i]? = some x) (h2 : visB sc x = true) (h3 : dbgB x = true) (h : SndV G C N sc e a) (hi : SndE G C N sc ix b) (hb : notSlice b = true) : SndS G C F N sc pin (.setI i ix e) (.Assign [.Subscript (.Name x p) b pos2] a pos) := by
  intro X W hN hsc hF σ H ρ Ow os k D S hk hK
  refine ps_tw (ps_asg (tw_pe X a) (pg_sub (pe_var (i := i) (by rw [hN]; exact h1) (visB_ok (by rw [hsc]; exact h2)) (dbgB_ok h3).1 (dbgB_ok h3).2) (tw_pe X b) set_list (by intro v; cases b <;> first | rfl | exact absurd hb Bool.false_ne_true)) (by cases a <;> rfl) rfl rfl) ?_
  refine h X W hN hsc σ H ρ Ow os _ _ S hk fun v H1 Ow1 os1 o1 d1 ρ1 r1 hk1 => ?_
  obtain ⟨l0, hg0, hk1⟩ := mutK_some hk1
  obtain ⟨c0, xs0, o0, hv, hc0, rl0, ho0⟩ := mu_at r1.st hg0
  refine ⟨.ref c0, hv, ?_⟩
  refine hi X W hN hsc σ H1 ρ1 Ow1 os1 _ _ r1.st hk1 fun w H2 Ow2 os2 o2 d2 ρ2 r2 hk2 => ?_
  obtain ⟨z, rfl, hk2⟩ := intK_some hk2
  obtain ⟨l, hg, hk2⟩ := mutK_some hk2
  obtain ⟨rfl, _⟩ := r2.rep
  obtain ⟨c, xs, o, hv', hc, rl, ho⟩ := mu_at r2.st hg
  rw [hv] at hv'
  cases hv'
  have hlen := RepL.length l xs _ rl
  have ndi := r2.st.nd i
  rw [ho, List.nodup_cons] at ndi
  cases hj : ixN l.length z with
  | none => rw [hj] at hk2; exact hk2.elim
  | some j =>
    rw [hj] at hk2
    have rd : Rep X.K H2 Ow2 d1 v o1 := r2.stp.rep r1.st r1.rep r1.own.2
    have dj2 : ∀ b ∈ o1, ¬ inO os2 b := fun b hb z => by
      rcases r2.stp.new b (.inl z) with w | w
      · exact r1.own.2 b hb w
      · obtain ⟨_, x, e⟩ := Rep.own d1 v o1 r1.rep b hb
        rw [w] at e; cases e
    obtain ⟨o', q1, q2, q3⟩ := RepL.set l xs o j d1 v o1 rl rd
    have s12 : Stp H Ow os H2 Ow2 os2 o1 := (r1.stp.trans S.al r2.stp.drop0).weak fun b hb => .inl (by simpa using hb)
    refine ⟨c0, xs, z, j, rfl, rfl, hc, by rw [hlen]; exact hj, ?_⟩
    exact write_end hK.nx s12 r2.st hg hv hc ho q1 q2 (q3 ndi.2 r1.own.1 fun b hb z => dj2 b hb ⟨i, by rw [ho]; exact List.mem_cons_of_mem _ z⟩) dj2 hk2
def rGetL : V → V → Hp → VK → Prop := fun o i H Q => ∃ p xs k x, o = .ref p ∧ i = .int k ∧ H p = some (.lst xs) ∧ 0 ≤ k ∧ k < 2 ^ 63 ∧ xs[k.toNat]? = some x ∧ Q x H
theorem get_list {X : Cx} : PGet X rGetL := by
  intro pins s σ H o i ov iv Q I ro ri h
  obtain ⟨p, xs, k, x, rfl, rfl, hp, h0, h1, hx, q⟩ := h
  cases ro
  obtain ⟨t, rfl⟩ := ri
  obtain ⟨its, n, r, ho, hz⟩ := I.lst hp
  obtain ⟨u, hu, ru⟩ := r.get hx
  exact wpAny_getItem_list ⟨_, ho, rfl, n, rfl⟩ h0 h1 (by simpa using hu) ⟨x, H, I, ru, q⟩
theorem s_augF {i n : Nat} {e : E} {x : Str} {a : Expr} {j p p2 pos pos2} (h1 : N[i]? = some x) (h2 : visB sc x = true) (h3 : dbgB x = true) (hn : decide (n < 1000) = true) (h : SndE G C N sc e a) : SndS G C F N sc pin (.augF i n e) (.AugAssign (.Subscript (.Name x p) (.Constant (.int (n : Int)) j p2) pos2) .Add a pos) := by
  intro X W hN hsc hF σ H ρ Ow os k D S hk hK
  refine ps_tw (ps_augS (pe_var (i := i) (by rw [hN]; exact h1) (visB_ok (by rw [hsc]; exact h2)) (dbgB_ok h3).1 (dbgB_ok h3).2) pe_int get_list (tw_pe X a) ip_add set_list) ?_
  obtain ⟨l0, hg0, hk⟩ := mutK_some hk
  obtain ⟨d0, hd0, hk⟩ := getK_some hk
  obtain ⟨m, rfl, hk⟩ := intK_some hk
  obtain ⟨c0, xs0, o0, hv, hc0, rl0, ho0⟩ := mu_at S hg0
  rw [nth_get] at hd0
  obtain ⟨u, ou, hu, ru, _⟩ := RepL.get l0 xs0 o0 n _ rl0 hd0
  obtain ⟨rfl, _⟩ := ru
  have hn' : n < 1000 := of_decide_eq_true hn
  refine ⟨.ref c0, hv, c0, xs0, (n : Int), .int m, rfl, rfl, hc0, by omega, by omega, by simpa using hu, ?_⟩
  refine h X W hN hsc σ H ρ Ow os _ _ S hk fun v H1 Ow1 os1 o1 d1 ρ1 r1 hk1 => ?_
  obtain ⟨z, rfl, hk1⟩ := intK_some hk1
  obtain ⟨rfl, _⟩ := r1.rep
  obtain ⟨l, hg, hk1⟩ := mutK_some hk1
  obtain ⟨c, xs, o, hv', hc, rl, ho⟩ := mu_at r1.st hg
  rw [hv] at hv'
  cases hv'
  obtain ⟨hlt, hk2⟩ := lsetK_eq l n _ _ hk1
  have hlen := RepL.length l xs _ rl
  have ndi := r1.st.nd i
  rw [ho, List.nodup_cons] at ndi
  obtain ⟨o', q1, q2, q3⟩ := RepL.set l xs o n (.int (m + z)) (.int (m + z)) [] rl rep_int
  refine ⟨m, z, rfl, rfl, c0, xs, (n : Int), n, rfl, rfl, hc, ixN_nat (by rw [hlen]; exact hlt), ?_⟩
  exact write_end hK.nx r1.stp.drop0 r1.st hg hv hc ho q1 q2 (q3 ndi.2 List.nodup_nil fun _ z => nomatch z) (fun _ z => nomatch z) hk2
theorem s_aug {i : Nat} {e : E} {x : Str} {a : Expr} {p pos : Pos} (h1 : N[i]? = some x) (h2 : locB F sc x = true) (hp : i ∉ pin) (h : SndE G C N sc e a) : SndS G C F N sc pin (.aug i e) (.AugAssign (.Name x p) .Add a pos) := by
  intro X W hN hsc hF σ H ρ Ow os k D S hk hK
  obtain ⟨l1, l2⟩ := loc_of hsc hF h2
  refine ps_tw (ps_aug W.nd (by rw [hN]; exact h1) l1 (tw_pe X a) ip_add l2) ?_
  obtain ⟨d0, hd0, hk⟩ := getK_some hk
  obtain ⟨m, rfl, hk⟩ := intK_some hk
  obtain ⟨v0, hv, rfl, _⟩ := S.rep i _ hd0
  refine ⟨.int m, hv, ?_⟩
  refine h X W hN hsc σ H ρ Ow os _ _ S hk fun v H1 Ow1 os1 o1 d1 ρ1 r1 hk1 => ?_
  obtain ⟨z, rfl, hk1⟩ := intK_some hk1
  obtain ⟨rfl, _⟩ := r1.rep
  exact ⟨m, z, rfl, rfl, set_end hK.nx (r1.plain (q := false) (qu := false) rep_int fun z => nomatch z) (get_lt h1) hp hk1⟩
theorem s_app {i : Nat} {e : E} {x : Str} {a : Expr} {p apos cpos pos : Pos} (h1 : N[i]? = some x) (h2 : visB sc x = true) (h3 : dbgB x = true) (hb : noBase (.Name x p) = true) (hl : (apos.endLine == cpos.line) = true) (hn : noStar a = true) (h : SndV G C N sc e a) : SndS G C F N sc pin (.app i e) (.Expr (.Call (.Attribute (.Name x p) "append" apos) [a] [] cpos) pos) := by
  intro X W hN hsc hF σ H ρ Ow os k D S hk hK
  refine ps_tw (ps_expr (pe_bm PySem.F.plainAttrs_list PySem.F.slot_list_append PySem.F.type_list_append mt_append (pe_var (i := i) (by rw [hN]; exact h1) (visB_ok (by rw [hsc]; exact h2)) (dbgB_ok h3).1 (dbgB_ok h3).2) (pa_cons (tw_pe X a) pa_nil (star_cons hn)) (base_of hb) (by rw [star_cons hn]; rfl) hl (star_cons hn) (star_any rfl)) rfl) ?_
  obtain ⟨l0, hg0, hk⟩ := mutK_some hk
  obtain ⟨c0, xs0, o0, hv, hc0, rl0, ho0⟩ := mu_at S hg0
  refine ⟨.ref c0, hv, .inl ⟨rfl, _, SqL.of hc0⟩, ?_⟩
  refine h X W hN hsc σ H ρ Ow os _ _ S hk fun v H1 Ow1 os1 o1 d1 ρ1 r1 hk1 => ?_
  obtain ⟨l, hg, hlt, hk2⟩ := mutK_some hk1
  obtain ⟨c, xs, o, hv', hc, rl, ho⟩ := mu_at r1.st hg
  rw [hv] at hv'
  cases hv'
  have hlen := RepL.length l xs _ rl
  have ndi := r1.st.nd i
  rw [ho, List.nodup_cons] at ndi
  refine ⟨c0, xs, v, rfl, rfl, hc, by rw [hlen]; exact hlt, ?_⟩
  refine write_end (o' := o ++ o1) hK.nx r1.stp r1.st hg hv hc ho (RepL.append l [d1] xs [v] o o1 rl ⟨v, [], o1, [], rfl, r1.rep, ⟨rfl, rfl⟩, by simp⟩) (fun b hb => List.mem_append.mp hb) ?_ r1.own.2 hk2
  rw [List.nodup_append]
  exact ⟨ndi.2, r1.own.1, fun b hb c hc z => r1.own.2 c hc ⟨i, by rw [ho]; exact List.mem_cons_of_mem _ (z ▸ hb)⟩⟩
theorem s_ext {i : Nat} {e : E} {x : Str} {a : Expr} {p apos cpos pos : Pos} (h1 : N[i]? = some x) (h2 : visB sc x = true) (h3 : dbgB x = true) (hb : noBase (.Name x p) = true) (hl : (apos.endLine == cpos.line) = true) (hn : noStar a = true) (h : SndE G C N sc e a) : SndS G C F N sc pin (.ext i e) (.Expr (.Call (.Attribute (.Name x p) "extend" apos) [a] [] cpos) pos) := by
  intro X W hN hsc hF σ H ρ Ow os k D S hk hK
  refine ps_tw (ps_expr (pe_bm PySem.F.plainAttrs_list PySem.F.slot_list_extend PySem.F.type_list_extend mt_extend (pe_var (i := i) (by rw [hN]; exact h1) (visB_ok (by rw [hsc]; exact h2)) (dbgB_ok h3).1 (dbgB_ok h3).2) (pa_cons (tw_pe X a) pa_nil (star_cons hn)) (base_of hb) (by rw [star_cons hn]; rfl) hl (star_cons hn) (star_any rfl)) rfl) ?_
  obtain ⟨l0, hg0, hk⟩ := mutK_some hk
  obtain ⟨c0, xs0, o0, hv, hc0, rl0, ho0⟩ := mu_at S hg0
  refine ⟨.ref c0, hv, .inl ⟨rfl, _, SqL.of hc0⟩, ?_⟩
  refine h X W hN hsc σ H ρ Ow os _ _ S hk fun v H1 Ow1 os1 o1 d1 ρ1 r1 hk1 => ?_
  obtain ⟨hpath, hk1⟩ := gK_of hk1
  obtain ⟨m, em, hk3⟩ := mutK_some hk1
  clear hk1
  cases em
  obtain ⟨l, hg, hlt, hk2⟩ := mutK_some hk3
  obtain ⟨c, xs, o, hv', hc, rl, ho⟩ := mu_at r1.st hg
  rw [hv] at hv'
  cases hv'
  obtain ⟨b, ys, om, rfl, hB, _, rm, eo⟩ := r1.rep
  have hlen := RepL.length l xs _ rl
  have hlen2 := RepL.length m ys _ rm
  have own := r1.own
  unfold OwnR at own
  rw [show isPath e = false by cases q : isPath e with | false => rfl | true => rw [q] at hpath; cases hpath] at own
  simp only [Bool.false_eq_true, if_false] at own
  have ndi := r1.st.nd i
  rw [ho, List.nodup_cons] at ndi
  have ndm := own.1
  rw [eo, List.nodup_cons] at ndm
  have sub : ∀ b ∈ om, b ∈ o1 := fun b hb => by rw [eo]; exact List.mem_cons_of_mem _ hb
  refine ⟨c0, b, xs, ys, rfl, rfl, hc, hB, by rw [hlen, hlen2]; exact hlt, ?_⟩
  refine write_end (o' := o ++ om) hK.nx r1.stp r1.st hg hv hc ho (RepL.append l m xs ys o om rl rm) (fun b hb => (List.mem_append.mp hb).imp id (sub b)) ?_ own.2 hk2
  rw [List.nodup_append]
  exact ⟨ndi.2, ndm.2, fun b hb c hc z => own.2 c (sub c hc) ⟨i, by rw [ho]; exact List.mem_cons_of_mem _ (z ▸ hb)⟩⟩
end
end Tr

set_option maxRecDepth 100000
set_option maxHeartbeats 4000000
/-! list(zip(a, b)). -/
namespace Tr
open PySem PySem.Spec PyProof.Rows L2
inductive Kd | L | T
def Kd.it : Kd → Heap → Addr → Addr → Nat → Prop
  | .L => Heap.IsListIter | .T => Heap.IsTupleIter
def Kd.sq : Kd → Heap → Addr → Array Value → Prop
  | .L => Heap.IsList | .T => Heap.IsTuple
def Kd.sv : Kd → PySem.W.Frag → Hp → Addr → List V → Prop
  | .L => SqL | .T => SqT
section
variable {prog : Program} {w : World} {A : Around} {E : Value → Shared → Prop} {s : Shared} {c : Kd}
theorem Kd.nx {it l : Addr} {i : Nat} {items : Array Value} {x : Value} {Q : Value → Shared → Prop} (hit : c.it s.heap it l i) (hl : c.sq s.heap l items) (hx : items[i]? = some x)
    (hQ : ∀ h', c.it h' it l (i + 1) → Heap.SameBut it s.heap h' → Q x { s with heap := h' }) : wpAny (model prog w) A (Builtin.SmallTypes.nextOf (.ref it)) Q E s := by
  cases c with
  | L => exact wpAny_nextOf_list_item hit hl hx hQ
  | T => exact RZ.nextOf_tuple_item hit hl hx hQ
theorem Kd.nxE {it l : Addr} {i : Nat} {items : Array Value} {Q : Value → Shared → Prop} (hh : A.handled = none) (hit : c.it s.heap it l i) (hl : c.sq s.heap l items) (hx : items[i]? = none)
    (hE : ∀ h' e, Heap.ExtBut it s.heap h' → (∃ o, h'.get? e = some o ∧ o.cls = .type "StopIteration") → E (.ref e) { s with heap := h' }) : wpAny (model prog w) A (Builtin.SmallTypes.nextOf (.ref it)) Q E s := by
  cases c with
  | L => exact wpAny_nextOf_list_end hh hit hl hx hE
  | T => exact RZ.nextOf_tuple_end hh hit hl hx hE
theorem Kd.itK {h h' : Heap} {a l : Addr} {i : Nat} (x : c.it h a l i) (e : ∀ o, h.get? a = some o → h'.get? a = some o) : c.it h' a l i := by
  cases c with
  | L => exact Heap.IsListIter.at x e
  | T => exact Heap.IsTupleIter.at x e
theorem Kd.sqK {h h' : Heap} {a : Addr} {xs : Array Value} (x : c.sq h a xs) (e : ∀ o, h.get? a = some o → h'.get? a = some o) : c.sq h' a xs := by
  cases c with
  | L => obtain ⟨o, h1, h2⟩ := x; exact ⟨o, e o h1, h2⟩
  | T => obtain ⟨o, h1, h2⟩ := x; exact ⟨o, e o h1, h2⟩
theorem Kd.itLt {h : Heap} {a l : Addr} {i : Nat} (x : c.it h a l i) : a < h.objs.size := by
  cases c with
  | L => obtain ⟨o, e, _⟩ := x; exact Heap.lt_size e
  | T => obtain ⟨o, e, _⟩ := x; exact Heap.lt_size e
theorem Kd.itOb {h : Heap} {a l : Addr} {i : Nat} (x : c.it h a l i) : ∃ o, h.get? a = some o ∧ ∀ v, o.data ≠ .cell v := by
  cases c with
  | L => obtain ⟨o, e, _, d⟩ := x; exact ⟨o, e, fun v q => by rw [d] at q; cases q⟩
  | T => obtain ⟨o, e, _, d⟩ := x; exact ⟨o, e, fun v q => by rw [d] at q; cases q⟩
theorem Kd.at {X : Cx} {pins : List (Addr × Obj)} {σ : L2.St} {H : Hp} {a : Addr} {xs : List V} (I : Inv X pins σ H s) (h : c.sv X.K H a xs) : ∃ its, Vals xs its ∧ c.sq s.heap a its.toArray ∧ xs.length ≤ sizeLine := by
  cases c with
  | L => obtain ⟨its, r, p, z⟩ := I.list h; exact ⟨its, r, p.isList, z⟩
  | T => obtain ⟨its, r, p, z⟩ := I.tuple h; exact ⟨its, r, (show s.heap.IsTuple a its.toArray from p), z⟩
theorem Kd.svK {K : PySem.W.Frag} {H H' : Hp} {a : Addr} {xs : List V} (h : c.sv K H a xs) (sm : Same H H') : c.sv K H' a xs := by
  cases c with
  | L => exact Or.imp (fun r => rd_keep r fun x e => sm a x e) id h
  | T => exact Or.imp (fun r => rd_keep r fun x e => sm a x e) id h

/-- a zip at turn i -/
structure ZSt (c : Kd) (h : Heap) (i : Nat) (z TI TO i1 i2 a b : Addr) : Prop where
  ti : IsPair h TI (.ref i1) (.ref i2)
  to : ∃ x y, IsPair h TO x y
  h1 : c.it h i1 a i
  h2 : c.it h i2 b i
  zz : IsZip h z TI TO .none ∨ ∃ T f oT, IsZipHeld h z TI TO T f ∧ h.get? T = some oT ∧ T ≠ z ∧ T ≠ TO ∧ T ≠ i1 ∧ T ≠ i2
theorem ZSt.keep {h h' : Heap} {i : Nat} {z TI TO i1 i2 a b : Addr} (S : ZSt c h i z TI TO i1 i2 a b) {p : Addr} (hp : p ∉ [z, TI, TO, i1, i2]) (k : ∀ q o, q ≠ p → h.get? q = some o → h'.get? q = some o) (kp : ∀ o, h.get? p = some o → ∃ o', h'.get? p = some o') : ZSt c h' i z TI TO i1 i2 a b := by
  simp only [List.mem_cons, List.not_mem_nil, or_false, not_or] at hp
  obtain ⟨p1, p2, p3, p4, p5⟩ := hp
  obtain ⟨x, y, to⟩ := S.to
  refine ⟨k _ _ (Ne.symm p2) S.ti, ⟨x, y, k _ _ (Ne.symm p3) to⟩, Kd.itK S.h1 fun o e => k _ _ (Ne.symm p4) e, Kd.itK S.h2 fun o e => k _ _ (Ne.symm p5) e, ?_⟩
  rcases S.zz with z0 | ⟨T, f, oT, z0, hT, n⟩
  · exact .inl (k _ _ (Ne.symm p1) z0)
  · by_cases e : T = p
    · subst e
      obtain ⟨o', h'⟩ := kp oT hT
      exact .inr ⟨T, f, o', k _ _ (Ne.symm p1) z0, h', n⟩
    · exact .inr ⟨T, f, oT, k _ _ (Ne.symm p1) z0, k _ _ e hT, n⟩

theorem zh_item {z TI TO T i1 i2 l1 l2 : Addr} {f : Bool} {oT : Obj} {k1 k2 : Nat} {xs ys : Array Value} {x y : Value} {Q : Option Value → Shared → Prop} (D : ZipApart z TI TO i1 i2 l1 l2)
    (hz : IsZipHeld s.heap z TI TO T f) (hT : s.heap.get? T = some oT) (hTI : IsPair s.heap TI (.ref i1) (.ref i2))
    (h1 : c.it s.heap i1 l1 k1) (h2 : c.it s.heap i2 l2 k2) (hl1 : c.sq s.heap l1 xs) (hl2 : c.sq s.heap l2 ys) (hx : xs[k1]? = some x) (hy : ys[k2]? = some y)
    (hQ : ∀ h', IsZipHeld h' z TI TO T true → c.it h' i1 l1 (k1 + 1) → c.it h' i2 l2 (k2 + 1) → IsPair h' s.heap.objs.size x y → h'.objs.size = s.heap.objs.size + 1 →
      (∀ c o, c ≠ z → c ≠ i1 → c ≠ i2 → s.heap.get? c = some o → h'.get? c = some o) → Q (some (.ref s.heap.objs.size)) { s with heap := h' }) :
    wpAny (model prog w) A (pyNext (.ref z)) Q E s := by
  have hTy : s.TypeIs (.ref z) "zip" := ⟨_, hz, rfl⟩
  unfold pyNext
  refine wpAny_bind (wpAny_attempt (wpAny_callSpecial?_slot (name := Str.ofString "__next__") hTy PySem.F.slot_zip_next
    (wpAny_call_entry PySem.F.slot_zip_next hTy PySem.F.entry_zip_next ?_ (PySem.F.args_zip_next_1 _))))
  show wpAny _ _ (field (.ref z) 2 >>= _) _ _ _
  refine wpAny_bind (wpAny_field hz rfl (x := .bool false) rfl ?_)
  show wpAny _ _ (field (.ref z) 3 >>= _) _ _ _
  refine wpAny_bind (wpAny_field hz rfl (x := .ref TI) rfl ?_)
  refine wpAny_bind (wpAny_seqItems hTI rfl ?_)
  show wpAny _ _ (Builtin.SmallTypes.ownedTupleIsFree (.ref z) >>= _) _ _ _
  refine wpAny_bind (wpAny_tupleHeld_zip hz hT fun h₁ hz₁ hs₁ => ?_)
  simp only [Bool.false_eq_true, if_false]
  refine wpAny_bind ?_
  rw [← Array.forIn_toList]
  simp only [List.forIn_cons, List.forIn_nil]
  refine wpAny_bind (wpAny_bind (wpAny_holding ?_))
  show wpAny _ _ (Builtin.SmallTypes.nextOf (.ref i1) >>= _) _ _ _
  refine wpAny_bind (Kd.nx (s := { s with heap := h₁ }) (Kd.itK h1 fun o e => hs₁.extBut _ _ D.i1z e) (Kd.sqK hl1 fun o e => hs₁.extBut _ _ D.l1z e) hx fun h₂ h1₂ hs₂ => wpAny_pure ?_)
  refine wpAny_pure ?_
  refine wpAny_bind (wpAny_bind (wpAny_holding ?_))
  show wpAny _ _ (Builtin.SmallTypes.nextOf (.ref i2) >>= _) _ _ _
  refine wpAny_bind (Kd.nx (s := { s with heap := h₂ }) (Kd.itK h2 fun o e => hs₂.extBut _ _ D.i12.symm (hs₁.extBut _ _ D.i2z e)) (Kd.sqK hl2 fun o e => hs₂.extBut _ _ D.l2i1 (hs₁.extBut _ _ D.l2z e)) hy fun h₃ h2₃ hs₃ => wpAny_pure ?_)
  refine wpAny_pure (wpAny_pure ?_)
  show wpAny _ _ (newTuple [x, y] >>= _) _ _ _
  refine wpAny_bind (wpAny_newTuple ?_)
  have hsz : h₃.objs.size = s.heap.objs.size := by rw [hs₃.1, hs₂.1, hs₁.1]
  have hz₃ : IsZipHeld h₃ z TI TO T true := hs₃.extBut _ _ D.i2z.symm (hs₂.extBut _ _ D.i1z.symm hz₁)
  have hk : ∀ c o, c ≠ z → c ≠ i1 → c ≠ i2 → s.heap.get? c = some o → h₃.get? c = some o := fun c o c1 c2 c3 e => hs₃.extBut _ _ c3 (hs₂.extBut _ _ c2 (hs₁.extBut _ _ c1 e))
  have h1₃ : c.it h₃ i1 l1 (k1 + 1) := Kd.itK h1₂ fun o e => hs₃.extBut _ _ D.i12 e
  have hp : IsPair (h₃.push { cls := .type "tuple", data := .seq #[x, y] }) h₃.objs.size x y := Heap.get?_push_size _ rfl
  have hz4 : (h₃.push { cls := .type "tuple", data := .seq #[x, y] }).objs.size = h₃.objs.size + 1 := Heap.size_push ..
  refine wpAny_pure ⟨_, rfl, ?_⟩
  refine wpAny_pure ?_
  show Q (some (.ref h₃.objs.size)) _
  rw [hsz] at hp hz4 ⊢
  exact hQ _ (Heap.get?_push_of_some _ hz₃) (Kd.itK h1₃ fun o e => Heap.get?_push_of_some _ e) (Kd.itK h2₃ fun o e => Heap.get?_push_of_some _ e) hp hz4 fun c o c1 c2 c3 e => Heap.get?_push_of_some _ (hk c o c1 c2 c3 e)
theorem zh_end {z TI TO T i1 i2 l1 l2 : Addr} {f : Bool} {oT : Obj} {k1 k2 : Nat} {xs ys : Array Value} {Q : Option Value → Shared → Prop} (hh : A.handled = none) (D : ZipApart z TI TO i1 i2 l1 l2)
    (hz : IsZipHeld s.heap z TI TO T f) (hT : s.heap.get? T = some oT) (hTI : IsPair s.heap TI (.ref i1) (.ref i2))
    (h1 : c.it s.heap i1 l1 k1) (h2 : c.it s.heap i2 l2 k2) (hl1 : c.sq s.heap l1 xs) (hl2 : c.sq s.heap l2 ys) (hend : xs[k1]? = none ∨ ys[k2]? = none)
    (hQ : ∀ h', (∀ c o, c ≠ z → c ≠ i1 → c ≠ i2 → s.heap.get? c = some o → h'.get? c = some o) → Q none { s with heap := h' }) :
    wpAny (model prog w) A (pyNext (.ref z)) Q E s := by
  have hTy : s.TypeIs (.ref z) "zip" := ⟨_, hz, rfl⟩
  have fin : ∀ h' e, (∀ c o, c ≠ z → c ≠ i1 → c ≠ i2 → s.heap.get? c = some o → h'.get? c = some o) → (∃ o, h'.get? e = some o ∧ o.cls = .type "StopIteration") →
      wpAny (model prog w) A (isInstance (.ref e) (.type "StopIteration") >>= fun b => if b = true then pure none else throw (.ref e)) Q E { s with heap := h' } := fun h' e hk ⟨o, ho, hc⟩ =>
    wpAny_bind (wpAny_isInstance (T := "StopIteration") (b := true) ⟨o, ho, hc⟩ isSubtype_stop (wpAny_pure (hQ _ hk)))
  unfold pyNext
  refine wpAny_bind (wpAny_attempt (wpAny_callSpecial?_slot (name := Str.ofString "__next__") hTy PySem.F.slot_zip_next
    (wpAny_call_entry PySem.F.slot_zip_next hTy PySem.F.entry_zip_next ?_ (PySem.F.args_zip_next_1 _))))
  show wpAny _ _ (field (.ref z) 2 >>= _) _ _ _
  refine wpAny_bind (wpAny_field hz rfl (x := .bool false) rfl ?_)
  show wpAny _ _ (field (.ref z) 3 >>= _) _ _ _
  refine wpAny_bind (wpAny_field hz rfl (x := .ref TI) rfl ?_)
  refine wpAny_bind (wpAny_seqItems hTI rfl ?_)
  show wpAny _ _ (Builtin.SmallTypes.ownedTupleIsFree (.ref z) >>= _) _ _ _
  refine wpAny_bind (wpAny_tupleHeld_zip hz hT fun h₁ hz₁ hs₁ => ?_)
  simp only [Bool.false_eq_true, if_false]
  refine wpAny_bind ?_
  rw [← Array.forIn_toList]
  simp only [List.forIn_cons, List.forIn_nil]
  refine wpAny_bind (wpAny_bind (wpAny_holding ?_))
  show wpAny _ _ (Builtin.SmallTypes.nextOf (.ref i1) >>= _) _ _ _
  cases hx : xs[k1]? with
  | none =>
    refine wpAny_bind (Kd.nxE (s := { s with heap := h₁ }) hh (Kd.itK h1 fun o e => hs₁.extBut _ _ D.i1z e) (Kd.sqK hl1 fun o e => hs₁.extBut _ _ D.l1z e) hx fun h₂ e hs₂ he => ?_)
    exact fin h₂ e (fun c o c1 c2 _ x => hs₂ _ _ c2 (hs₁.extBut _ _ c1 x)) he
  | some x =>
    have hy : ys[k2]? = none := by rcases hend with h | h; rw [hx] at h; cases h; exact h
    refine wpAny_bind (Kd.nx (s := { s with heap := h₁ }) (Kd.itK h1 fun o e => hs₁.extBut _ _ D.i1z e) (Kd.sqK hl1 fun o e => hs₁.extBut _ _ D.l1z e) hx fun h₂ h1₂ hs₂ => wpAny_pure ?_)
    refine wpAny_pure ?_
    refine wpAny_bind (wpAny_bind (wpAny_holding ?_))
    show wpAny _ _ (Builtin.SmallTypes.nextOf (.ref i2) >>= _) _ _ _
    refine wpAny_bind (Kd.nxE (s := { s with heap := h₂ }) hh (Kd.itK h2 fun o e => hs₂.extBut _ _ D.i12.symm (hs₁.extBut _ _ D.i2z e)) (Kd.sqK hl2 fun o e => hs₂.extBut _ _ D.l2i1 (hs₁.extBut _ _ D.l2z e)) hy fun h₃ e hs₃ he => ?_)
    exact fin h₃ e (fun c o c1 c2 c3 x => hs₃ _ _ c3 (hs₂.extBut _ _ c2 (hs₁.extBut _ _ c1 x))) he
theorem zs_item {z TI TO i1 i2 a b : Addr} {i : Nat} {xs ys : Array Value} {x y : Value} {Q : Option Value → Shared → Prop} (D : ZipApart z TI TO i1 i2 a b) (S : ZSt c s.heap i z TI TO i1 i2 a b)
    (hl1 : c.sq s.heap a xs) (hl2 : c.sq s.heap b ys) (hx : xs[i]? = some x) (hy : ys[i]? = some y)
    (hQ : ∀ h', ZSt c h' (i + 1) z TI TO i1 i2 a b → IsPair h' s.heap.objs.size x y → h'.objs.size = s.heap.objs.size + 1 → (∀ q o, q ∉ [z, TI, TO, i1, i2] → s.heap.get? q = some o → h'.get? q = some o) → Q (some (.ref s.heap.objs.size)) { s with heap := h' }) :
    wpAny (model prog w) A (pyNext (.ref z)) Q E s := by
  obtain ⟨u, v, to⟩ := S.to
  have no : ∀ {q : Addr}, q ∉ [z, TI, TO, i1, i2] → q ≠ z ∧ q ≠ TI ∧ q ≠ TO ∧ q ≠ i1 ∧ q ≠ i2 := fun h => by simpa only [List.mem_cons, List.not_mem_nil, or_false, not_or] using h
  rcases S.zz with z0 | ⟨T, f, oT, z0, hT, n1, n2, n3, n4⟩
  · have zl : z < s.heap.objs.size := Heap.lt_size z0
    have tl : TO < s.heap.objs.size := Heap.lt_size to
    have fin : ∀ h', IsZip h' z TI TO (rawInt s.heap.objs.size) → IsPair h' TO x y → c.it h' i1 a (i + 1) → c.it h' i2 b (i + 1) → IsPair h' s.heap.objs.size x y → h'.objs.size = s.heap.objs.size + 1 →
        (∀ c o, c ≠ z → c ≠ TO → c ≠ i1 → c ≠ i2 → s.heap.get? c = some o → h'.get? c = some o) → Q (some (.ref s.heap.objs.size)) { s with heap := h' } := fun h' z1 to1 h1 h2 hp hs hk =>
      hQ h' ⟨hk _ _ D.TIz D.TITO D.TIi1 D.TIi2 S.ti, ⟨x, y, to1⟩, h1, h2, .inr ⟨s.heap.objs.size, false, _, z1, hp, Nat.ne_of_gt zl, Nat.ne_of_gt tl, Nat.ne_of_gt (Kd.itLt S.h1), Nat.ne_of_gt (Kd.itLt S.h2)⟩⟩ hp hs fun q o hq e => by
        obtain ⟨q1, _, q2, q3, q4⟩ := no hq
        exact hk q o q1 q2 q3 q4 e
    cases c with
    | L => exact wpAny_pyNext_zip_item D z0 S.ti to S.h1 S.h2 hl1 hl2 hx hy fin
    | T => exact RZ.pyNext_zipT_item D z0 S.ti to S.h1 S.h2 hl1 hl2 hx hy fin
  · refine zh_item D z0 hT S.ti S.h1 S.h2 hl1 hl2 hx hy fun h' z1 h1 h2 hp hs hk => ?_
    refine hQ h' ⟨hk _ _ D.TIz D.TIi1 D.TIi2 S.ti, ⟨u, v, hk _ _ D.TOz D.TOi1 D.TOi2 to⟩, h1, h2, .inr ⟨T, true, oT, z1, hk _ _ n1 n3 n4 hT, n1, n2, n3, n4⟩⟩ hp hs fun q o hq e => ?_
    obtain ⟨q1, _, q2, q3, q4⟩ := no hq
    exact hk q o q1 q3 q4 e
theorem zs_end {z TI TO i1 i2 a b : Addr} {i : Nat} {xs ys : Array Value} {Q : Option Value → Shared → Prop} (hh : A.handled = none) (D : ZipApart z TI TO i1 i2 a b) (S : ZSt c s.heap i z TI TO i1 i2 a b)
    (hl1 : c.sq s.heap a xs) (hl2 : c.sq s.heap b ys) (hend : xs[i]? = none ∨ ys[i]? = none)
    (hQ : ∀ h', (∀ q o, q ∉ [z, TI, TO, i1, i2] → s.heap.get? q = some o → h'.get? q = some o) → Q none { s with heap := h' }) :
    wpAny (model prog w) A (pyNext (.ref z)) Q E s := by
  obtain ⟨u, v, to⟩ := S.to
  have no : ∀ {q : Addr}, q ∉ [z, TI, TO, i1, i2] → q ≠ z ∧ q ≠ TI ∧ q ≠ TO ∧ q ≠ i1 ∧ q ≠ i2 := fun h => by simpa only [List.mem_cons, List.not_mem_nil, or_false, not_or] using h
  rcases S.zz with z0 | ⟨T, f, oT, z0, hT, n1, n2, n3, n4⟩
  · have fin : ∀ h', (∀ c o, c ≠ z → c ≠ TO → c ≠ i1 → c ≠ i2 → s.heap.get? c = some o → h'.get? c = some o) → Q none { s with heap := h' } := fun h' hk => hQ h' fun q o hq e => by
      obtain ⟨q1, _, q2, q3, q4⟩ := no hq
      exact hk q o q1 q2 q3 q4 e
    cases c with
    | L => exact wpAny_pyNext_zip_end hh D z0 S.ti to S.h1 S.h2 hl1 hl2 hend fin
    | T => exact RZ.pyNext_zipT_end hh D z0 S.ti to S.h1 S.h2 hl1 hl2 hend fin
  · refine zh_end hh D z0 hT S.ti S.h1 S.h2 hl1 hl2 hend fun h' hk => hQ h' fun q o hq e => ?_
    obtain ⟨q1, _, q2, q3, q4⟩ := no hq
    exact hk q o q1 q3 q4 e
end
/-- the heap behind i turns: new pairs, and their list at S -/
inductive ZH (xs ys : List V) (H0 : Hp) (S : Addr) : Nat → Hp → List V → Prop where
  | z : H0 S = none → ZH xs ys H0 S 0 (upd H0 S (.lst [])) []
  | s {i : Nat} {H : Hp} {acc : List V} {x y : V} {T : Addr} : ZH xs ys H0 S i H acc → xs[i]? = some x → ys[i]? = some y → H T = none → ZH xs ys H0 S (i + 1) (upd (upd H T (.tup [x, y])) S (.lst (acc ++ [.ref T]))) (acc ++ [.ref T])
theorem ZH.facts {xs ys : List V} {H0 : Hp} {S : Addr} : ∀ {i : Nat} {H : Hp} {acc : List V}, ZH xs ys H0 S i H acc → H0 S = none ∧ Same H0 H ∧ H S = some (.lst acc) ∧ acc.length = i
  | _, _, _, .z h => ⟨h, same_upd h, upd_same, rfl⟩
  | _, _, _, .s h hx hy hT => by
    obtain ⟨q0, q1, q2, q3⟩ := h.facts
    refine ⟨q0, fun b u e => ?_, upd_same, by rw [List.length_append, q3]; rfl⟩
    rw [upd_ne (ne_of_none e q0)]
    exact same_upd hT b u (q1 b u e)
theorem upd_upd_same {H : Hp} {a : Addr} {u : HO} (h : H a = some u) : upd H a u = H := by
  funext b
  by_cases e : b = a
  · rw [e, upd_same, h]
  · rw [upd_ne e]
section
variable {X : Cx} {pins : List (Addr × Obj)} {σ : L2.St} {A : Around} {R : Result → Shared → Prop} {c : Kd}
theorem zl_loop (hh : A.handled = none) {z TI TO i1 i2 a b S : Addr} (D : ZipApart z TI TO i1 i2 a b) (hS : S ∉ [z, TI, TO, i1, i2]) {xs ys : List V} {H0 : Hp} (ha : c.sv X.K H0 a xs) (hb : c.sv X.K H0 b ys) (hn : xs.length ≤ sizeLine) {res : Value} :
    ∀ (k i : Nat) (s : Shared) (H : Hp) (acc : List V), min xs.length ys.length - i = k → i ≤ min xs.length ys.length → Inv X pins σ H s → (∀ q ∈ [z, TI, TO, i1, i2], FpOk X pins H q) → ZSt c s.heap i z TI TO i1 i2 a b → ZH xs ys H0 S i H acc →
    (∀ s' H' acc', Inv X pins σ H' s' → ZH xs ys H0 S (min xs.length ys.length) H' acc' → R (.ok (.ret res)) s') →
    codeAny (model X.prog X.w) A (.builtin "list.extend.loop" ⟨[.ref S, .ref z, res], []⟩) R s := by
  intro k
  induction k with
  | zero =>
    intro i s H acc hk hi I hf st zh hR
    have e : i = min xs.length ys.length := by omega
    obtain ⟨f0, f1, f2, f3⟩ := zh.facts
    obtain ⟨its, rv, l1, _⟩ := Kd.at (c := c) I (Kd.svK ha f1)
    obtain ⟨its2, rv2, l2, _⟩ := Kd.at (c := c) I (Kd.svK hb f1)
    have e1 := rv.length
    have e2 := rv2.length
    refine codeAny_builtin PySem.F.entry_extend_loop ?_
    rw [Around.under_plainId PySem.F.plain_extend_loop _]
    show wpAny _ A.in1 (pyNext (.ref z) >>= _) _ _ s
    refine wpAny_bind (zs_end (A := A.in1) hh D st l1 l2 (by simp; omega) fun h' hk => ?_)
    exact wpAny_pure (hR _ H acc (I.turnedL (t' := s.toks) (ch := [z, TI, TO, i1, i2]) (fun q o hq e => hk q o hq e) hf) (by rw [← e]; exact zh))
  | succ k ih =>
    intro i s H acc hk hi I hf st zh hR
    have hlt : i < min xs.length ys.length := by omega
    obtain ⟨f0, f1, f2, f3⟩ := zh.facts
    obtain ⟨its, rv, l1, _⟩ := Kd.at (c := c) I (Kd.svK ha f1)
    obtain ⟨its2, rv2, l2, _⟩ := Kd.at (c := c) I (Kd.svK hb f1)
    have hx : xs[i]? = some (xs[i]'(by omega)) := List.getElem?_eq_getElem _
    have hy : ys[i]? = some (ys[i]'(by omega)) := List.getElem?_eq_getElem _
    obtain ⟨u, hu, ru⟩ := rv.get hx
    obtain ⟨u2, hu2, ru2⟩ := rv2.get hy
    have hSl : S < s.heap.objs.size := by
      obtain ⟨_, its, n, _, _, e⟩ := I.lstM f2
      exact Heap.lt_size e
    refine codeAny_builtin PySem.F.entry_extend_loop ?_
    rw [Around.under_plainId PySem.F.plain_extend_loop _]
    show wpAny _ A.in1 (pyNext (.ref z) >>= _) _ _ s
    refine wpAny_bind (zs_item (A := A.in1) D st l1 l2 (x := u) (y := u2) (by simpa using hu) (by simpa using hu2) fun h' st' hp hsz hk' => ?_)
    have new : ObjOk X.prog X.w (upd H s.heap.objs.size (.tup [xs[i]'(by omega), ys[i]'(by omega)])) h' s.heap.objs.size (.tup [xs[i]'(by omega), ys[i]'(by omega)]) :=
      ⟨by show 2 ≤ sizeLine; decide, [u, u2], .cons ru (.cons ru2 .nil), ⟨_, hp, rfl, _, rfl⟩⟩
    have hT : H s.heap.objs.size = none := I.hok.fresh (Nat.le_refl _)
    have I1 := I.turnedNew (t' := s.toks) (ch := [z, TI, TO, i1, i2]) (fun q o hq e => hk' q o hq e) hf (Nat.le_refl _) new
    have hS1 : upd H s.heap.objs.size (.tup [xs[i]'(by omega), ys[i]'(by omega)]) S = some (.lst acc) := by rw [upd_ne (Nat.ne_of_lt hSl)]; exact f2
    obtain ⟨_, itsS, n, rS, lS, eS⟩ := I1.lstM hS1
    have hlen : acc.length < sizeLine := by omega
    show wpAny _ A.in1 (updateSeq S (·.push (.ref s.heap.objs.size)) >>= _) _ _ _
    refine wpAny_bind (wpAny_updateSeq eS rfl (wpAny_pure ⟨plainId_quiet PySem.F.plain_extend_loop _, ?_⟩) (by rw [List.size_toArray]; omega) (by rw [Array.size_push, List.size_toArray]; omega))
    have I2 := I1.lset (its' := itsS ++ [.ref s.heap.objs.size]) (ys := acc ++ [.ref s.heap.objs.size]) (t' := s.toks) (f := (·.push (.ref s.heap.objs.size))) hS1 eS (by simp) (rS.append (show Vals [V.ref s.heap.objs.size] [Value.ref s.heap.objs.size] from .cons rfl .nil)) (by rw [List.length_append, List.length_singleton]; omega)
    refine ih (i + 1) _ _ (acc ++ [.ref s.heap.objs.size]) (by omega) (by omega) I2 (fun q hq => ?_) ?_ (.s zh hx hy hT) hR
    · have hql : q < s.heap.objs.size := by
        obtain ⟨u0, v0, to⟩ := st.to
        simp only [List.mem_cons, List.not_mem_nil, or_false] at hq
        rcases hq with rfl | rfl | rfl | rfl | rfl
        · rcases st.zz with z0 | ⟨_, _, _, z0, _⟩ <;> exact Heap.lt_size z0
        · exact Heap.lt_size st.ti
        · exact Heap.lt_size to
        · exact Kd.itLt st.h1
        · exact Kd.itLt st.h2
      obtain ⟨g1, g2⟩ := hf q hq
      refine ⟨?_, g2⟩
      rw [upd_ne fun e => hS (by rw [← e]; exact hq), upd_ne (Nat.ne_of_lt hql)]
      exact g1
    · exact st'.keep hS (fun q o hq e => (Heap.get?_update_other _ _ (Ne.symm hq)).trans e) fun o e => ⟨_, Heap.get?_update_self _ eS rfl⟩
theorem zip_no_len : typeLookup (.type "zip") "__len__" = pure none := by rw [typeLookup_type, builtinLookup_eq_fast]; kernel_rfl
theorem zip_no_hint : typeLookup (.type "zip") "__length_hint__" = pure none := by rw [typeLookup_type, builtinLookup_eq_fast]; kernel_rfl
theorem zl_list {E : Value → Shared → Prop} {s : Shared} {H : Hp} {Q : VK} (hh : A.handled = none) {z TI TO i1 i2 a b : Addr} (D : ZipApart z TI TO i1 i2 a b) {xs ys : List V} (ha : c.sv X.K H a xs) (hb : c.sv X.K H b ys) (hn : xs.length ≤ sizeLine)
    (I : Inv X pins σ H s) (hf : ∀ q ∈ [z, TI, TO, i1, i2], FpOk X pins H q) (st : ZSt c s.heap 0 z TI TO i1 i2 a b) (hz : IsZip s.heap z TI TO .none)
    (hQ : ∀ S H' acc, ZH xs ys H S (min xs.length ys.length) H' acc → Q (.ref S) H') : wpAny (model X.prog X.w) A (call (.type "list") [.ref z]) (EP X pins σ Q) E s := by
  have fr : H s.heap.objs.size = none := I.hok.fresh (Nat.le_refl _)
  have zl : z < s.heap.objs.size := Heap.lt_size hz
  have hS5 : s.heap.objs.size ∉ [z, TI, TO, i1, i2] := fun m => by
    obtain ⟨u0, v0, to⟩ := st.to
    simp only [List.mem_cons, List.not_mem_nil, or_false] at m
    rcases m with m | m | m | m | m
    · exact Nat.lt_irrefl _ (m ▸ zl)
    · exact Nat.lt_irrefl _ (m ▸ Heap.lt_size st.ti)
    · exact Nat.lt_irrefl _ (m ▸ Heap.lt_size to)
    · exact Nat.lt_irrefl _ (m ▸ Kd.itLt st.h1)
    · exact Nat.lt_irrefl _ (m ▸ Kd.itLt st.h2)
  refine callType_codes (Q₁ := fun obj s₁ => obj = .ref s.heap.objs.size ∧ s₁ = { s with heap := s.heap.push { cls := .type "list", data := .seq #[] } }) PySem.F.called_list (PySem.F.typeCall_list_1 _) PySem.F.entry_list_init
    (code_list_new _ ⟨rfl, rfl⟩) fun obj s₁ h₁ => ?_
  obtain ⟨rfl, rfl⟩ := h₁
  have hS : (s.heap.push { cls := .type "list", data := .seq #[] }).get? s.heap.objs.size = some { cls := .type "list", data := .seq (#[] : Array Value) } := Heap.get?_push_size _ rfl
  have I1 : Inv X pins σ (upd H s.heap.objs.size (.lst [])) { s with heap := s.heap.push { cls := .type "list", data := .seq #[] } } := I.lnew (ys := []) (its := []) (t' := s.toks) .nil (Nat.zero_le _)
  have st1 : ZSt c (s.heap.push { cls := .type "list", data := .seq #[] }) 0 z TI TO i1 i2 a b := st.keep hS5 (fun q o _ e => Heap.get?_push_of_some _ e) fun o e => absurd (Heap.lt_size e) (Nat.lt_irrefl _)
  refine ⟨⟨_, hS, rfl⟩, PySem.F.args_list_init_2 _ _, ?_⟩
  show wpAny _ A.in1.in1 (do let old ← Builtin.List.listItems (.ref s.heap.objs.size); Builtin.List.listUpdate (.ref s.heap.objs.size) (fun _ => #[]); letGo old.toList.reverse; Builtin.List.listExtendWith (.ref s.heap.objs.size) (.ref z) .none) _ _ _
  refine wpAny_bind ?_
  unfold Builtin.List.listItems
  refine wpAny_bind (wpAny_seqItems hS rfl (wpAny_pure ?_))
  show wpAny _ A.in1.in1 (updateSeq s.heap.objs.size (fun _ => #[]) >>= fun _ => letGo (#[] : Array Value).toList.reverse >>= fun _ => Builtin.List.listExtendWith (.ref s.heap.objs.size) (.ref z) .none) _ _ _
  refine wpAny_bind (wpAny_updateSeq hS rfl ?_)
  have hS2 := Heap.get?_update_self (Obj.mapSeq (fun _ => (#[] : Array Value))) hS rfl
  have I2 := I1.lset (its := []) (its' := []) (n := 0) (ys := []) (t' := s.toks) (f := fun _ => (#[] : Array Value)) upd_same hS rfl .nil (Nat.zero_le _)
  have k2 : ∀ (h : Heap) (f : Obj → Obj) (q : Addr) (o : Obj), q ≠ s.heap.objs.size → h.get? q = some o → (h.update s.heap.objs.size f).get? q = some o := fun h f q o n e => (Heap.get?_update_other _ _ (Ne.symm n)).trans e
  have st2 := st1.keep hS5 (k2 _ (Obj.mapSeq fun _ => (#[] : Array Value))) fun o _ => ⟨_, hS2⟩
  refine wpAny_bind (wpAny_letGo ?_)
  unfold Builtin.List.listExtendWith
  have zne : z ≠ s.heap.objs.size := Nat.ne_of_lt zl
  have hz2 := k2 _ (Obj.mapSeq fun _ => (#[] : Array Value)) z _ zne (Heap.get?_push_of_some { cls := .type "list", data := .seq #[] } hz)
  refine wpAny_bind (wpAny_typeOf (T := "zip") ⟨_, hz2, rfl⟩ ?_)
  have h1 : Builtin.List.listSameRef (.ref s.heap.objs.size) (.ref z) = false := by simp [Builtin.List.listSameRef, Ne.symm zne]
  have h2 : (Value.type "zip" == Value.type "list") = false := by decide
  have h3 : (Value.type "zip" == Value.type "tuple") = false := by decide
  simp only [h1, h2, h3, Bool.or_false, Bool.false_eq_true, if_false]
  refine wpAny_bind (wpAny_pyIter_zip hz2 ?_)
  refine wpAny_bind (wpAny_holding ?_)
  unfold Builtin.List.listLengthHint
  refine wpAny_bind (wpAny_specialOf (T := "zip") ⟨_, hz2, rfl⟩ zip_no_len ?_)
  show wpAny _ A.in1.in1 (specialOf (Value.ref z) (Str.ofString "__length_hint__") >>= _) _ _ _
  refine wpAny_bind (wpAny_specialOf (T := "zip") ⟨_, hz2, rfl⟩ zip_no_hint ?_)
  refine wpAny_pure ?_
  show wpAny _ A.in1.in1 (rule "list.extend.makes-room" >>= fun _ => Builtin.List.listTouch (.ref s.heap.objs.size) >>= fun _ =>
    again (.builtin "list.extend.loop" ⟨[.ref s.heap.objs.size, .ref z, .none], []⟩)) _ _ _
  refine wpAny_bind (wpAny_rule ?_)
  refine wpAny_bind ?_
  show wpAny _ A.in1.in1 (updateSeq s.heap.objs.size (·.push .none) >>= fun _ => updateSeq s.heap.objs.size (·.pop)) _ _ _
  refine wpAny_bind (wpAny_updateSeq hS2 rfl ?_)
  have hS3 := Heap.get?_update_self (Obj.mapSeq (·.push Value.none)) hS2 rfl
  have I3 := I2.lset (its := []) (its' := [Value.none]) (ys := [.non]) (t' := s.toks) (f := (·.push Value.none)) upd_same hS2 rfl (show Vals [V.non] [Value.none] from .cons rfl .nil) (by decide)
  have st3 := st2.keep hS5 (k2 _ (Obj.mapSeq (·.push Value.none))) fun o _ => ⟨_, hS3⟩
  refine wpAny_updateSeq (hz := by seq_fits) hS3 rfl ?_
  have hS4 := Heap.get?_update_self (Obj.mapSeq (·.pop)) hS3 rfl
  have I4 := I3.lset (its := [Value.none]) (its' := []) (ys := []) (t' := s.toks) (f := (·.pop)) upd_same hS3 rfl .nil (Nat.zero_le _)
  have st4 := st3.keep hS5 (k2 _ (Obj.mapSeq (·.pop))) fun o _ => ⟨_, hS4⟩
  have eH : upd (upd (upd (upd H s.heap.objs.size (.lst [])) s.heap.objs.size (.lst [])) s.heap.objs.size (.lst [.non])) s.heap.objs.size (.lst []) = upd H s.heap.objs.size (.lst []) := by
    funext q
    by_cases e : q = s.heap.objs.size
    · rw [e, upd_same, upd_same]
    · rw [upd_ne e, upd_ne e, upd_ne e]
  rw [eH] at I4
  refine wpAny_pure ⟨plainId_quiet PySem.F.plain_extend_loop _, ?_⟩
  refine zl_loop (A := A.in1) hh D hS5 ha hb hn _ 0 _ _ [] rfl (Nat.zero_le _) I4 (fun q hq => ?_) st4 (.z fr) fun s' H' acc' I' zh => ⟨rfl, .ref s.heap.objs.size, H', I', rfl, hQ _ H' acc' zh⟩
  obtain ⟨g1, g2⟩ := hf q hq
  exact ⟨by rw [upd_ne fun e => hS5 (by rw [← e]; exact hq)]; exact g1, g2⟩
end
/-- list(zip(x, y)) -/
def tZipl (K : PySem.W.Frag) (ta : TA) : TE := fun σ H Q => ta σ H fun vs H1 => ∃ a b xs ys, vs = [.ref a, .ref b] ∧ ((SqL K H1 a xs ∧ SqL K H1 b ys) ∨ (SqT K H1 a xs ∧ SqT K H1 b ys)) ∧ ∀ S H' acc, ZH xs ys H1 S (min xs.length ys.length) H' acc → Q (.ref S) H'
theorem pe_zipl {X : Cx} {e e2 : Expr} {ta : TA} {p p2 pos2 pos : Pos} (hc : X.calm = true) (hg0 : Gl X "list") (hm0 : X.mg "list" = none) (hg : Gl X "zip") (hm : X.mg "zip" = none) (ha : PA X [e, e2] ta)
    (hs : starEach [e, e2] X.env = (false, eval e X.env) :: starEach [e2] X.env) (hpl : (backTo pos2 (starEach [e2] X.env)).any (·.1) = false) :
    PE X (.Call (.Name "list" p) [.Call (.Name "zip" p2) [e, e2] [] pos2] [] pos) (tZipl X.K ta) := by
  refine ⟨fun pins s σ H Q I h => ?_⟩
  refine Call_ (ld_blt I hg0 hm0 (show bootBuiltins "list" = some (.type "list") by decide +kernel) (PyProof.Rows.callWith_type1 (Calls.spliced_cons ?_) rfl rfl) (by decide) (by decide))
  refine Call_ (ld_blt I hg hm PyProof.Rows.boot_zip (PyProof.Rows.callWith_type1 (thn (ha.run pos2 pins s σ H _ I h) fun us s1 ⟨vs, H1, I1, r1, q1⟩ => ?_) hs hpl))
  obtain ⟨a, b, xs, ys, ex, hq, q⟩ := q1
  subst ex
  cases r1 with
  | cons r rr =>
    cases rr with
    | cons r' rr =>
      cases rr
      cases r
      cases r'
      have fresh5 : ∀ c, c ∈ [s1.heap.objs.size + 4, s1.heap.objs.size + 2, s1.heap.objs.size + 3, s1.heap.objs.size, s1.heap.objs.size + 1] → FpOk X pins H1 c := fun c hcm => by
        have hle : s1.heap.objs.size ≤ c := by
          simp only [List.mem_cons, List.not_mem_nil, or_false] at hcm
          omega
        exact I1.fpOk hle (I1.hok.fresh hle)
      rcases hq with ⟨hqx, hqy⟩ | ⟨hqx, hqy⟩
      · obtain ⟨its, rv, p1, hz1⟩ := I1.list hqx
        obtain ⟨its2, rv2, p2, _⟩ := I1.list hqy
        refine call_zip_2 p1.isList p2.isList fun h' hz hTI hTO h1 h2 hsz hk => ?_
        have I2 : Inv X pins σ H1 { s1 with heap := h' } := I1.kept (t' := s1.toks) hk
        exact Calls.spliced_nil (zl_list (c := .L) (I1.ok.hd hc) (PySem.W.ktu_apart s1.heap.objs.size a b p1.lt p2.lt) hqx hqy hz1 I2 fresh5 ⟨hTI, ⟨_, _, hTO⟩, h1, h2, .inl hz⟩ hz q)
      · obtain ⟨its, rv, p1, hz1⟩ := I1.tuple hqx
        obtain ⟨its2, rv2, p2, _⟩ := I1.tuple hqy
        obtain ⟨o1, ho1, _⟩ := id p1
        obtain ⟨o2, ho2, _⟩ := id p2
        refine RZ.call_zipT (show s1.heap.IsTuple a its.toArray from p1) (show s1.heap.IsTuple b its2.toArray from p2) fun h' hz hTI hTO h1 h2 hsz hk => ?_
        have I2 : Inv X pins σ H1 { s1 with heap := h' } := I1.kept (t' := s1.toks) hk
        exact Calls.spliced_nil (zl_list (c := .T) (I1.ok.hd hc) (PySem.W.ktu_apart s1.heap.objs.size a b (Heap.lt_size ho1) (Heap.lt_size ho2)) hqx hqy hz1 I2 fresh5 ⟨hTI, ⟨_, _, hTO⟩, h1, h2, .inl hz⟩ hz q)
theorem zh_rep {K : PySem.W.Frag} {H1 : Hp} {Ow : Addr → Prop} {l m : List D} {xs ys : List V} {S : Addr} (al : ∀ b, Ow b → ∃ x, H1 b = some x) (rl : RepL K H1 Ow l xs []) (rm : RepL K H1 Ow m ys []) :
    ∀ {i : Nat} {H : Hp} {acc : List V}, ZH xs ys H1 S i H acc → RepL K H (plus Ow S) ((zipL l m).take i) acc []
  | _, _, _, .z h => ⟨rfl, rfl⟩
  | _, _, _, .s (i := i) (H := H) (acc := acc) (x := x) (y := y) (T := T) zh hx hy hT => by
    obtain ⟨f0, f1, f2, f3⟩ := zh.facts
    have ih := zh_rep al rl rm zh
    have nTS : T ≠ S := fun e => by rw [e, f2] at hT; cases hT
    have nOT : ¬ plus Ow S T := fun z => z.elim (fun z => by
      obtain ⟨u, e⟩ := al T z
      rw [f1 T u e] at hT; cases hT) nTS
    have lx := RepL.length l xs [] rl
    have ly := RepL.length m ys [] rm
    have hxl := (List.getElem?_eq_some_iff.mp hx).1
    have hyl := (List.getElem?_eq_some_iff.mp hy).1
    have hz : i < (zipL l m).length := by rw [zipL_len]; omega
    obtain ⟨d, e, hd, he, hde⟩ := zipL_get l m i _ (List.getElem?_eq_getElem hz)
    rw [List.take_succ, List.getElem?_eq_getElem hz, hde]
    obtain ⟨v1, hv1, r1⟩ := RepL.all0 l xs rl d i hd
    obtain ⟨v2, hv2, r2⟩ := RepL.all0 m ys rm e i he
    rw [hx] at hv1
    rw [hy] at hv2
    cases hv1
    cases hv2
    have up : ∀ b u, H1 b = some u → ¬ Ow b → (upd (upd H T (.tup [x, y])) S (.lst (acc ++ [.ref T]))) b = some u ∧ ¬ plus Ow S b := fun b u e no => by
      have nS := ne_of_none e f0
      refine ⟨by rw [upd_ne nS]; exact same_upd hT b u (f1 b u e), fun z => z.elim no nS⟩
    have up2 : ∀ b u, H b = some u → ¬ plus Ow S b → (upd (upd H T (.tup [x, y])) S (.lst (acc ++ [.ref T]))) b = some u ∧ ¬ plus Ow S b := fun b u e no =>
      ⟨by rw [upd_ne fun z => no (.inr z)]; exact same_upd hT b u e, no⟩
    refine RepL.append _ [.tup [d, e]] acc [.ref T] [] [] (RepL.move up2 _ acc [] (fun _ z => nomatch z) ih) ⟨.ref T, [], [], [], rfl, ?_, ⟨rfl, rfl⟩, rfl⟩
    refine ⟨T, [x, y], rfl, .inl ⟨.inl (by rw [upd_ne nTS]; exact upd_same), nOT⟩, x, [y], [], [], rfl, Rep.move up d x [] (fun _ z => nomatch z) r1, ⟨y, [], [], [], rfl, Rep.move up e y [] (fun _ z => nomatch z) r2, ⟨rfl, rfl⟩, rfl⟩, rfl⟩
section
variable {G : Gt} {C : Sem} {N : List Str} {sc : Scope}
theorem RepL.two {K : PySem.W.Frag} {H : Hp} {Ow : Addr → Prop} {d e : D} {vs : List V} {o : List Addr} (h : RepL K H Ow [d, e] vs o) : ∃ v w o1 o2, vs = [v, w] ∧ Rep K H Ow d v o1 ∧ Rep K H Ow e w o2 ∧ o = o1 ++ o2 := by
  obtain ⟨v1, vr, o1, o2, rfl, r1, rr, rfl⟩ := h
  obtain ⟨v2, vr, o2, o3, rfl, r2, ⟨rfl, rfl⟩, rfl⟩ := rr
  exact ⟨v1, v2, o1, o2, rfl, r1, r2, by simp⟩
theorem s_zipl {a b : E} {x y : Expr} {p p2 pos2 pos : Pos} (hg0 : glB sc "list" = true) (hg : glB sc "zip" = true) (hn : noStar x = true) (hn2 : noStar y = true) (ha : SndV G C N sc a x) (hb : SndV G C N sc b y) : SndE G C N sc (.zipl a b) (.Call (.Name "list" p) [.Call (.Name "zip" p2) [x, y] [] pos2] [] pos) := by
  intro X W hN hsc σ H ρ Ow os k Q S hk hK
  refine pe_tw (pe_zipl W.calm (glB_ok (by rw [hsc]; exact hg0)) (W.mt _ (by simp [bnames])) (glB_ok (by rw [hsc]; exact hg)) (W.mt _ (by simp [bnames])) (twA_pa X [x, y]) (star_cons hn) (star_any (by unfold noStars; simp [hn2]))) ?_
  refine es_cons hn ha (es_cons hn2 hb es_nil) X W hN hsc σ H ρ Ow os (fun ds ρ2 => match ds with | [x, y] => fzK x fun x' => fzK y fun y' => gK (sameKd x' y') (seqK x' fun l => seqK y' fun m => k (.mu (zipL l m)) ρ2) | _ => False) _ S hk fun vs H1 Ow1 os1 o ds ρ1 s1 S1 rl nd dj ln hk1 => ?_
  match ds, hk1 with
  | [], hk1 => exact hk1.elim
  | [_], hk1 => exact hk1.elim
  | _ :: _ :: _ :: _, hk1 => exact hk1.elim
  | [d1, d2], hk1 =>
    obtain ⟨v, w, o1, o2, rfl, r1, r2, rfl⟩ := RepL.two rl
    have hk2 := fzK_eq (fzK_eq hk1)
    obtain ⟨hkd, hk3⟩ := gK_of hk2
    -- the two are given up
    have S2 : St X.K N.length H1 (Tr.minus Ow1 (o1 ++ o2)) σ ρ1 os1 := S1.minus dj
    have s2 : Stp H Ow os H1 (Tr.minus Ow1 (o1 ++ o2)) os1 [] := s1.minus S.al
    have f1 : Rep X.K H1 (Tr.minus Ow1 (o1 ++ o2)) (freeze d1) v [] := Rep.freeze (fun b x e no z => no z.1) d1 v o1 (fun b hb z => z.2 (List.mem_append_left _ hb)) r1
    have f2 : Rep X.K H1 (Tr.minus Ow1 (o1 ++ o2)) (freeze d2) w [] := Rep.freeze (fun b x e no z => no z.1) d2 w o2 (fun b hb z => z.2 (List.mem_append_right _ hb)) r2
    have fin : ∀ (l m : List D) (c1 c2 : Addr) (xs ys : List V), RepL X.K H1 (Tr.minus Ow1 (o1 ++ o2)) l xs [] → RepL X.K H1 (Tr.minus Ow1 (o1 ++ o2)) m ys [] → k (.mu (zipL l m)) ρ1 → ∀ S0 H' acc, ZH xs ys H1 S0 (min xs.length ys.length) H' acc → Q (.ref S0) H' := fun l m c1 c2 xs ys hl hm hk4 S0 H' acc zh => by
      obtain ⟨g0, g1, g2, g3⟩ := zh.facts
      have rr := zh_rep S2.al hl hm zh
      have eL : (zipL l m).take (min xs.length ys.length) = zipL l m := by
        rw [RepL.length l xs [] hl, RepL.length m ys [] hm]
        exact List.take_of_length_le (by rw [zipL_len]; exact Nat.le_refl _)
      rw [eL] at rr
      have s3 : Stp H1 (Tr.minus Ow1 (o1 ++ o2)) os1 H' (plus (Tr.minus Ow1 (o1 ++ o2)) S0) os1 [S0] :=
        ⟨fun b x e _ => g1 b x e, fun b x e => ⟨x, g1 b x e⟩, fun b h => h.imp id fun z => by rw [z]; exact g0, fun _ h _ => .inl h, fun b h => h.imp id fun z => by rw [List.mem_singleton.mp z]; exact g0⟩
      refine hK (.ref S0) H' _ os1 [S0] (.mu (zipL l m)) ρ1 ⟨(s2.trans S.al s3).weak fun b hb => .inl (by simpa using hb), S2.grow g1 (fun _ h => .inl h) (fun b h => h.imp id fun z => by rw [z]; exact g0) fun b h => ?_, ⟨S0, acc, [], rfl, g2, .inr rfl, rr, rfl⟩, ⟨by simp, fun b hb z => ?_⟩, fun z => nomatch z⟩ hk4
      · rcases h with h | h
        · obtain ⟨x, e⟩ := S2.al b h
          exact ⟨x, g1 b x e⟩
        · exact ⟨_, by rw [h]; exact g2⟩
      · rw [List.mem_singleton.mp hb] at z
        obtain ⟨x, e⟩ := S2.al S0 (S2.held z)
        rw [g0] at e; cases e
    cases e1 : freeze d1 with
    | lst l =>
      cases e2 : freeze d2 with
      | lst m =>
        rw [e1] at f1 hk3
        rw [e2] at f2 hk3
        obtain ⟨c1, xs, rfl, h1, hl, _⟩ := f1
        obtain ⟨c2, ys, rfl, h2, hm, _⟩ := f2
        exact ⟨c1, c2, xs, ys, rfl, .inl ⟨h1.sq, h2.sq⟩, fin l m c1 c2 xs ys hl hm hk3⟩
      | _ => rw [e1, e2] at hkd; exact absurd hkd Bool.false_ne_true
    | tup l =>
      cases e2 : freeze d2 with
      | tup m =>
        rw [e1] at f1 hk3
        rw [e2] at f2 hk3
        obtain ⟨c1, xs, rfl, h1, hl⟩ := f1
        obtain ⟨c2, ys, rfl, h2, hm⟩ := f2
        have hk3 : (match frzL l with | true => seqK (.tup m) fun m => k (.mu (zipL l m)) ρ1 | false => False) := hk3
        cases q1 : frzL l with
        | false => rw [q1] at hk3; exact hk3.elim
        | true =>
          rw [q1] at hk3
          have hk3 : (match frzL m with | true => k (.mu (zipL l m)) ρ1 | false => False) := hk3
          cases q2 : frzL m with
          | false => rw [q2] at hk3; exact hk3.elim
          | true =>
            rw [q2] at hk3
            exact ⟨c1, c2, xs, ys, rfl, .inr ⟨h1.sq, h2.sq⟩, fin l m c1 c2 xs ys hl hm hk3⟩
      | _ => rw [e1, e2] at hkd; exact absurd hkd Bool.false_ne_true
    | _ => rw [e1] at hkd; exact absurd hkd Bool.false_ne_true
end
end Tr

set_option maxRecDepth 100000
set_option maxHeartbeats 8000000
/-! Whether code and text agree: a Bool; if so, the code is sound for the text. -/
namespace Tr
open PySem PySem.Spec PyProof.Rows L2
def cellB (s : Scope) (x : Str) : Bool := s.names.lookup x == some .cell
def cnB (o : Option Cst) (c : Cst) : Bool := match o with
  | some c' => decide (c'.k = c.k)
  | none => false
theorem cst_k : ∀ {c c' : Cst}, c.k = c'.k → c = c'
  | .non, .non, _ => rfl
  | .bl a, .bl b, h => by cases h; rfl
  | .int a, .int b, h => by cases h; rfl
  | .str a, .str b, h => by cases h; rfl
  | .non, .bl _, h => nomatch h | .non, .int _, h => nomatch h | .non, .str _, h => nomatch h
  | .bl _, .non, h => nomatch h | .bl _, .int _, h => nomatch h | .bl _, .str _, h => nomatch h
  | .int _, .non, h => nomatch h | .int _, .bl _, h => nomatch h | .int _, .str _, h => nomatch h
  | .str _, .non, h => nomatch h | .str _, .bl _, h => nomatch h | .str _, .int _, h => nomatch h
theorem cnB_ok {o : Option Cst} {c : Cst} (h : cnB o c = true) : o = some c := by
  cases o with
  | none => cases h
  | some c' => rw [cst_k (of_decide_eq_true h)]
def plainT : Expr → Bool
  | .Name _ _ => true | .Call _ _ _ _ => true | .Subscript _ _ _ => true
  | _ => false
def plainIx : Expr → Bool
  | .Name _ _ => true | .Call _ _ _ _ => true | .Subscript _ _ _ => true | .BinOp _ _ _ _ => true | .Constant _ _ _ => true
  | _ => false
theorem plainIx_ok {y : Expr} (h : plainIx y = true) : PlainIx y := by
  cases y <;> first | exact fun _ _ => rfl | exact absurd h Bool.false_ne_true
inductive Qy where
  | e (sc : Scope) (e : E) (x : Expr)
  | v (sc : Scope) (e : E) (x : Expr)
  | t (sc : Scope) (e : E) (x : Expr)
  | an (sc : Scope) (e : E) (xs : List Expr)
  | or (sc : Scope) (e : E) (xs : List Expr)
  | tan (sc : Scope) (e : E) (xs : List Expr)
  | tor (sc : Scope) (e : E) (xs : List Expr)
  | o (sc : Scope) (e : EO) (x : Option Expr)
  | es (sc : Scope) (es : Es) (xs : List Expr)
  | ls (sc : Scope) (es : Es) (xs : List Expr)
  | as (sc : Scope) (as : As) (xs : List Expr)
  | src (sc : Scope) (s : Src) (it tg : Expr)
  | c (sc : Scope) (e : EO) (xs : List Expr)
  | g (fs sc : Scope) (t : Tg) (x : Expr)
  | gs (fs sc : Scope) (ts : List Tg) (xs : List Expr)
def nmB (N : List Str) (sc : Scope) (i : Nat) (x : Str) : Bool := decide (N[i]? = some x) && (visB sc x && dbgB x)
def ag (G : Gt) (N : List Str) : Nat → Qy → Bool
  | 0, _ => false
  | n + 1, q => match q with
    | .v sc e x => match e with
      | .var i => match x with
        | .Name y _ => nmB N sc i y
        | _ => false
      | e => ag G N n (.e sc e x)
    | .an sc e xs => match xs with
      | [y] => ag G N n (.e sc e y)
      | y :: z :: r => match e with
        | .and a b => ag G N n (.e sc a y) && ag G N n (.an sc b (z :: r))
        | _ => false
      | [] => false
    | .or sc e xs => match xs with
      | [y] => ag G N n (.e sc e y)
      | y :: z :: r => match e with
        | .or a b => ag G N n (.e sc a y) && ag G N n (.or sc b (z :: r))
        | _ => false
      | [] => false
    | .tan sc e xs => match xs with
      | [y] => ag G N n (.t sc e y)
      | y :: z :: r => match e with
        | .and a b => ag G N n (.t sc a y) && ag G N n (.tan sc b (z :: r))
        | _ => false
      | [] => false
    | .tor sc e xs => match xs with
      | [y] => ag G N n (.t sc e y)
      | y :: z :: r => match e with
        | .or a b => ag G N n (.t sc a y) && ag G N n (.tor sc b (z :: r))
        | _ => false
      | [] => false
    | .o sc e x => match e, x with
      | .none, none => true
      | .some e, some x => ag G N n (.e sc e x)
      | _, _ => false
    | .es sc es xs => match es, xs with
      | .nil, [] => true
      | .cons e es, x :: xs => noStar x && (ag G N n (.v sc e x) && ag G N n (.es sc es xs))
      | _, _ => false
    | .ls sc es xs => match es, xs with
      | .cons e .nil, [x] => noStar x && ag G N n (.e sc e x)
      | .cons e (.cons e' es), x :: y :: xs => noStar x && (ag G N n (.e sc e x) && ag G N n (.ls sc (.cons e' es) (y :: xs)))
      | _, _ => false
    | .as sc as xs => match as, xs with
      | .nil, [] => true
      | .val e r, x :: xs => noStar x && (ag G N n (.v sc e x) && ag G N n (.as sc r xs))
      | .ref i r, .Name y _ :: xs => nmB N sc i y && ag G N n (.as sc r xs)
      | _, _ => false
    | .src sc s it tg => match s with
      | .list e => ag G N n (.v sc e it)
      | .range1 e => match it with
        | .Call (.Name y _) [x] [] _ => decide (y = ("range" : Str)) && (glB sc "range" && (noStar x && ag G N n (.e sc e x)))
        | _ => false
      | .range2 a b => match it with
        | .Call (.Name y _) [x, x2] [] _ => decide (y = ("range" : Str)) && (glB sc "range" && (noStar x && (noStar x2 && (ag G N n (.e sc a x) && ag G N n (.e sc b x2)))))
        | _ => false
      | .rangeDown a b => match it with
        | .Call (.Name y _) [x, x2, z] [] _ => match z with
          | .UnaryOp .USub (.Constant (.int m) _ _) _ => decide (m = 1) && (decide (y = ("range" : Str)) && (glB sc "range" && (noStar x && (noStar x2 && (ag G N n (.e sc a x) && ag G N n (.e sc b x2))))))
          | _ => false
        | _ => false
      | .enum e => match it with
        | .Call (.Name y _) [x] [] _ => match tg with
          | .Tuple _ _ _ => decide (y = ("enumerate" : Str)) && (glB sc "enumerate" && (noStar x && ag G N n (.v sc e x)))
          | _ => false
        | _ => false
      | .zip a b => match it with
        | .Call (.Name y _) [x, x2] [] _ => match tg with
          | .Tuple _ _ _ => decide (y = ("zip" : Str)) && (glB sc "zip" && (noStar x && (noStar x2 && (ag G N n (.v sc a x) && ag G N n (.v sc b x2)))))
          | _ => false
        | _ => false
    | .c sc e xs => match e, xs with
      | .none, [] => true
      | .some e, [x] => ag G N n (.t sc e x)
      | _, _ => false
    | .g fs sc t x => match t, x with
      | .nm i, .Name y _ => decide (N[i]? = some y) && locB (cellB fs) sc y
      | .tup ts, .Tuple xs _ _ => noStars xs && (decide (ts.length = xs.length) && ag G N n (.gs fs sc ts xs))
      | _, _ => false
    | .gs fs sc ts xs => match ts, xs with
      | [], [] => true
      | t :: ts, x :: xs => noStar x && (ag G N n (.g fs sc t x) && ag G N n (.gs fs sc ts xs))
      | _, _ => false
    | .t sc e x => match e with
      | .cmp o a b => match x with
        | .Compare y [op] [z] _ => decide (op = o.py) && ((behindInMarks op z == false) && (ag G N n (.e sc a y) && ag G N n (.e sc b z)))
        | _ => false
      | .chain o o' a b c => match x with
        | .Compare x [op, op'] [y, z] _ => decide (op = o.py) && (decide (op' = o'.py) && ((lastMarks [op, op'] [y, z] == false) && (ag G N n (.e sc a x) && (ag G N n (.e sc b y) && ag G N n (.e sc c z)))))
        | _ => false
      | .not a => match x with
        | .UnaryOp .Not y _ => ag G N n (.t sc a y)
        | _ => false
      | .and a b => match x with
        | .BoolOp .And xs _ => ag G N n (.tan sc (.and a b) xs)
        | _ => false
      | .or a b => match x with
        | .BoolOp .Or xs _ => ag G N n (.tor sc (.or a b) xs)
        | _ => false
      | e => plainT x && ag G N n (.e sc e x)
    | .e sc e x => match e with
      | .cst c => match x with
        | .Constant k _ _ => decide (k = c.k)
        | _ => false
      | .glob y c => match x with
        | .Name z _ => decide (y = z) && (cnB (G.cn z) c && (glB sc z && dbgB z))
        | _ => false
      | .var i => match x with
        | .Name y _ => nmB N sc i y
        | _ => false
      | .bin o a b => match x with
        | .BinOp y op z _ => decide (op = o.py) && (ag G N n (.e sc a y) && ag G N n (.e sc b z))
        | _ => false
      | .neg a => match x with
        | .UnaryOp .USub y _ => ag G N n (.e sc a y)
        | _ => false
      | .not a => match x with
        | .UnaryOp .Not y _ => ag G N n (.e sc a y)
        | _ => false
      | .and a b => match x with
        | .BoolOp .And (y :: z :: r) _ => ag G N n (.e sc a y) && ag G N n (.an sc b (z :: r))
        | _ => false
      | .or a b => match x with
        | .BoolOp .Or (y :: z :: r) _ => ag G N n (.e sc a y) && ag G N n (.or sc b (z :: r))
        | _ => false
      | .ite c a b => match x with
        | .IfExp x y z _ => ag G N n (.t sc c x) && (ag G N n (.v sc a y) && ag G N n (.v sc b z))
        | _ => false
      | .cmp o a b => match x with
        | .Compare y [op] [z] _ => decide (op = o.py) && ((behindInMarks op z == false) && (ag G N n (.e sc a y) && ag G N n (.e sc b z)))
        | _ => false
      | .chain o o' a b c => match x with
        | .Compare x [op, op'] [y, z] _ => decide (op = o.py) && (decide (op' = o'.py) && ((lastMarks [op, op'] [y, z] == false) && (ag G N n (.e sc a x) && (ag G N n (.e sc b y) && ag G N n (.e sc c z)))))
        | _ => false
      | .fld a m => match x with
        | .Subscript y (.Constant (.int k) _ _) _ => decide (k = (m : Int)) && ag G N n (.e sc a y)
        | _ => false
      | .last a => match x with
        | .Subscript y (.UnaryOp .USub (.Constant (.int k) _ _) _) _ => decide (k = 1) && ag G N n (.e sc a y)
        | _ => false
      | .idx a i => match x with
        | .Subscript y z _ => plainIx z && (ag G N n (.e sc a y) && ag G N n (.e sc i z))
        | _ => false
      | .slice a lo hi => match x with
        | .Subscript y (.Slice l h none _) _ => ag G N n (.e sc a y) && (ag G N n (.o sc lo l) && ag G N n (.o sc hi h))
        | _ => false
      | .rev a => match x with
        | .Subscript y (.Slice none none (some (.UnaryOp .USub (.Constant (.int k) _ _) _)) _) _ => decide (k = 1) && ag G N n (.e sc a y)
        | _ => false
      | .tup es => match x with
        | .Tuple xs _ _ => decide (xs.length ≤ 1000) && ag G N n (.es sc es xs)
        | _ => false
      | .lst es => match x with
        | .List xs _ => decide (xs.length ≤ 1000) && ag G N n (.es sc es xs)
        | _ => false
      | .call f as => match x with
        | .Call (.Name y _) (z :: xs) [] _ => decide (G.fn f = some y) && (glB sc y && (dbgB y && (noStar z && (noStars xs && (decide (posOf 0 (asShape as) = G.io f) && (decide ((asShape as).length = G.np f) && ag G N n (.as sc as (z :: xs))))))))
        | _ => false
      | .bi b es => match x with
        | .Call (.Name y _) (z :: xs) [] _ => decide (y = b.name) && (noStar z && (noStars xs && (glB sc b.name && ag G N n (.ls sc es (z :: xs)))))
        | _ => false
      | .isi a t => match x with
        | .Call (.Name y _) [z, w] [] _ => match w with
          | .Name w _ => decide (y = ("isinstance" : Str)) && (decide (w = (t.name : Str)) && (noStar z && (glB sc "isinstance" && (glB sc (t.name : Str) && ag G N n (.e sc a z)))))
          | _ => false
        | _ => false
      | .isi2 a t u => match x with
        | .Call (.Name y _) [z, w] [] _ => match w with
          | .Tuple [w1, w2] _ _ => match w1 with
            | .Name w _ => match w2 with
              | .Name w2 _ => decide (y = ("isinstance" : Str)) && (decide (w = (t.name : Str)) && (decide (w2 = (u.name : Str)) && (noStar z && (glB sc "isinstance" && (glB sc (t.name : Str) && (glB sc (u.name : Str) && ag G N n (.e sc a z)))))))
              | _ => false
            | _ => false
          | _ => false
        | _ => false
      | .index a b => match x with
        | .Call (.Attribute y nm ap) [z] [] p => decide (nm = ("index" : Str)) && (noBase y && ((ap.endLine == p.line) && (noStar z && (ag G N n (.e sc a y) && ag G N n (.e sc b z)))))
        | _ => false
      | .comp own t s c e => match x with
        | .ListComp elt [g] scope _ => decide (g.is_async = 0) && (ag G N n (.src sc s g.iter g.target) && (ag G N n (.g scope (relS scope sc) t g.target) && (ag G N n (.c (relS scope sc) c g.ifs) && (ag G N n (.v (relS scope sc) e elt) &&
            (decide (∀ i ∈ slotsT t, i ∈ own) && (noSet g.iter && ((own.all fun i => decide (i < N.length)) && blkC N sc scope (ownP N own))))))))
        | _ => false
      | .frz a => ag G N n (.v sc a x)
      | .zipl a b => match x with
        | .Call (.Name y _) [w] [] _ => match w with
          | .Call (.Name w _) [x1, x2] [] _ => decide (y = ("list" : Str)) && (decide (w = ("zip" : Str)) && (glB sc "list" && (glB sc "zip" && (noStar x1 && (noStar x2 && (ag G N n (.v sc a x1) && ag G N n (.v sc b x2)))))))
          | _ => false
        | _ => false
def QSnd (G : Gt) (C : Sem) (N : List Str) : Qy → Prop
  | .e sc e x => SndE G C N sc e x
  | .v sc e x => SndV G C N sc e x
  | .t sc e x => SndT G C N sc e x
  | .an sc e xs => ∀ pos, SndE G C N sc e (.BoolOp .And xs pos)
  | .or sc e xs => ∀ pos, SndE G C N sc e (.BoolOp .Or xs pos)
  | .tan sc e xs => ∀ pos, SndW G C N sc e (.BoolOp .And xs pos)
  | .tor sc e xs => ∀ pos, SndW G C N sc e (.BoolOp .Or xs pos)
  | .o sc e x => SndO G C N sc e x
  | .es sc es xs => SndEs G C N sc es xs
  | .ls sc es xs => SndLs G C N sc es xs
  | .as sc as xs => SndAs G C N sc as xs
  | .src sc s it tg => SndSrc G C N sc s it tg
  | .c sc e xs => SndC G C N sc e xs
  | .g fs sc t x => SndG G C (cellB fs) N sc t x
  | .gs fs sc ts xs => SndGs G C (cellB fs) N sc ts xs
theorem a2 {a b : Bool} (h : (a && b) = true) : a = true ∧ b = true := by
  cases a <;> cases b <;> simp_all
theorem dd {p : Prop} [Decidable p] (h : decide p = true) : p := of_decide_eq_true h
theorem bf {b : Bool} (h : (b == false) = true) : b = false := by cases b <;> first | rfl | cases h
section
variable {G : Gt} {C : Sem} {N : List Str}
theorem ag_e {n : Nat} (ih : ∀ q, ag G N n q = true → QSnd G C N q) (sc : Scope) (e : E) (x : Expr) (h : ag G N (n + 1) (.e sc e x) = true) : SndE G C N sc e x := by
  cases e with
  | cst c => cases x with
    | Constant k _ _ =>
      obtain rfl : k = c.k := dd h
      exact s_cst
    | _ => exact absurd h Bool.false_ne_true
  | glob y c => cases x with
    | Name z _ =>
      replace h := a2 h; obtain ⟨h1, h⟩ := h
      replace h := a2 h; obtain ⟨h2, h⟩ := h
      replace h := a2 h; obtain ⟨h3, h⟩ := h
      obtain rfl := dd h1
      exact s_glob (cnB_ok h2) h3 h
    | _ => exact absurd h Bool.false_ne_true
  | var i => cases x with
    | Name z _ =>
      replace h := a2 h; obtain ⟨h1, h⟩ := h
      replace h := a2 h; obtain ⟨h2, h⟩ := h
      exact s_var (dd h1) h2 h
    | _ => exact absurd h Bool.false_ne_true
  | bin o a b => cases x with
    | BinOp y op z _ =>
      replace h := a2 h; obtain ⟨h1, h⟩ := h
      replace h := a2 h; obtain ⟨h2, h⟩ := h
      obtain rfl := dd h1
      exact s_bin (ih _ h2) (ih _ h)
    | _ => exact absurd h Bool.false_ne_true
  | neg a => cases x with
    | UnaryOp op y _ => cases op with
      | USub => exact s_neg (ih (.e sc a y) h)
      | _ => exact absurd h Bool.false_ne_true
    | _ => exact absurd h Bool.false_ne_true
  | not a => cases x with
    | UnaryOp op y _ => cases op with
      | Not => exact s_not (ih (.e sc a y) h)
      | _ => exact absurd h Bool.false_ne_true
    | _ => exact absurd h Bool.false_ne_true
  | and a b => cases x with
    | BoolOp op xs _ => cases op with
      | And => match xs, h with
        | y :: z :: r, h =>
          replace h := a2 h; obtain ⟨h1, h⟩ := h
          exact s_and (ih _ h1) (ih (.an sc b (z :: r)) h _)
        | [], h => exact absurd h Bool.false_ne_true
        | [_], h => exact absurd h Bool.false_ne_true
      | _ => exact absurd h Bool.false_ne_true
    | _ => exact absurd h Bool.false_ne_true
  | or a b => cases x with
    | BoolOp op xs _ => cases op with
      | Or => match xs, h with
        | y :: z :: r, h =>
          replace h := a2 h; obtain ⟨h1, h⟩ := h
          exact s_or (ih _ h1) (ih (.or sc b (z :: r)) h _)
        | [], h => exact absurd h Bool.false_ne_true
        | [_], h => exact absurd h Bool.false_ne_true
      | _ => exact absurd h Bool.false_ne_true
    | _ => exact absurd h Bool.false_ne_true
  | ite c a b => cases x with
    | IfExp x y z _ =>
      replace h := a2 h; obtain ⟨h1, h⟩ := h
      replace h := a2 h; obtain ⟨h2, h⟩ := h
      exact s_ite (ih _ h1) (ih _ h2) (ih _ h)
    | _ => exact absurd h Bool.false_ne_true
  | cmp o a b => cases x with
    | Compare y ops zs _ => match ops, zs, h with
      | [op], [z], h =>
        replace h := a2 h; obtain ⟨h1, h⟩ := h
        replace h := a2 h; obtain ⟨h2, h⟩ := h
        replace h := a2 h; obtain ⟨h3, h⟩ := h
        obtain rfl := dd h1
        exact s_cmp (ih _ h3) (ih _ h) (bf h2)
      | [], _, h => exact absurd h Bool.false_ne_true
      | [_], [], h => exact absurd h Bool.false_ne_true
      | [_], _ :: _ :: _, h => exact absurd h Bool.false_ne_true
      | _ :: _ :: _, _, h => exact absurd h Bool.false_ne_true
    | _ => exact absurd h Bool.false_ne_true
  | chain o o' a b c => cases x with
    | Compare y ops zs _ => match ops, zs, h with
      | [op, op'], [z, w], h =>
        replace h := a2 h; obtain ⟨h1, h⟩ := h
        replace h := a2 h; obtain ⟨h2, h⟩ := h
        replace h := a2 h; obtain ⟨h3, h⟩ := h
        replace h := a2 h; obtain ⟨h4, h⟩ := h
        replace h := a2 h; obtain ⟨h5, h⟩ := h
        obtain rfl := dd h1
        obtain rfl := dd h2
        exact s_chain (ih _ h4) (ih _ h5) (ih _ h) (bf h3)
      | [], _, h => exact absurd h Bool.false_ne_true
      | [_], _, h => exact absurd h Bool.false_ne_true
      | [_, _], [], h => exact absurd h Bool.false_ne_true
      | [_, _], [_], h => exact absurd h Bool.false_ne_true
      | [_, _], _ :: _ :: _ :: _, h => exact absurd h Bool.false_ne_true
      | _ :: _ :: _ :: _, _, h => exact absurd h Bool.false_ne_true
    | _ => exact absurd h Bool.false_ne_true
  | fld a m => cases x with
    | Subscript y z _ => cases z with
      | Constant k _ _ => cases k with
        | int k =>
          replace h := a2 h; obtain ⟨h1, h⟩ := h
          obtain rfl := dd h1
          exact s_fld (ih _ h)
        | _ => exact absurd h Bool.false_ne_true
      | _ => exact absurd h Bool.false_ne_true
    | _ => exact absurd h Bool.false_ne_true
  | last a => cases x with
    | Subscript y z _ => cases z with
      | UnaryOp op w _ => cases op with
        | USub => cases w with
          | Constant k _ _ => cases k with
            | int k =>
              replace h := a2 h; obtain ⟨h1, h⟩ := h
              obtain rfl := dd h1
              exact s_last (ih _ h)
            | _ => exact absurd h Bool.false_ne_true
          | _ => exact absurd h Bool.false_ne_true
        | _ => exact absurd h Bool.false_ne_true
      | _ => exact absurd h Bool.false_ne_true
    | _ => exact absurd h Bool.false_ne_true
  | idx a i => cases x with
    | Subscript y z _ =>
      replace h := a2 h; obtain ⟨h1, h⟩ := h
      replace h := a2 h; obtain ⟨h2, h⟩ := h
      exact s_idx (ih _ h2) (ih _ h) (plainIx_ok h1)
    | _ => exact absurd h Bool.false_ne_true
  | slice a lo hi => cases x with
    | Subscript y z _ => cases z with
      | Slice l r st _ => cases st with
        | none =>
          replace h := a2 h; obtain ⟨h1, h⟩ := h
          replace h := a2 h; obtain ⟨h2, h⟩ := h
          exact s_slice (ih _ h1) (ih (.o sc lo l) h2) (ih (.o sc hi r) h)
        | some _ => exact absurd h Bool.false_ne_true
      | _ => exact absurd h Bool.false_ne_true
    | _ => exact absurd h Bool.false_ne_true
  | rev a => cases x with
    | Subscript y z _ => cases z with
      | Slice l r st _ => match l, r, st, h with
        | none, none, some w, h => cases w with
          | UnaryOp op w _ => cases op with
            | USub => cases w with
              | Constant k _ _ => cases k with
                | int k =>
                  replace h := a2 h; obtain ⟨h1, h⟩ := h
                  obtain rfl := dd h1
                  exact s_rev (ih _ h)
                | _ => exact absurd h Bool.false_ne_true
              | _ => exact absurd h Bool.false_ne_true
            | _ => exact absurd h Bool.false_ne_true
          | _ => exact absurd h Bool.false_ne_true
        | some _, _, _, h => exact absurd h Bool.false_ne_true
        | none, some _, _, h => exact absurd h Bool.false_ne_true
        | none, none, none, h => exact absurd h Bool.false_ne_true
      | _ => exact absurd h Bool.false_ne_true
    | _ => exact absurd h Bool.false_ne_true
  | tup es => cases x with
    | Tuple xs _ _ =>
      replace h := a2 h; obtain ⟨h1, h⟩ := h
      exact s_tup h1 (ih (.es sc es xs) h)
    | _ => exact absurd h Bool.false_ne_true
  | lst es => cases x with
    | List xs _ =>
      replace h := a2 h; obtain ⟨h1, h⟩ := h
      exact s_lst h1 (ih (.es sc es xs) h)
    | _ => exact absurd h Bool.false_ne_true
  | call f as => cases x with
    | Call fn xs kw _ => cases fn with
      | Name y _ => match xs, kw, h with
        | z :: xs, [], g =>
          replace g := a2 g; obtain ⟨h1, g⟩ := g
          replace g := a2 g; obtain ⟨h2, g⟩ := g
          replace g := a2 g; obtain ⟨h3, g⟩ := g
          replace g := a2 g; obtain ⟨h4, g⟩ := g
          replace g := a2 g; obtain ⟨h5, g⟩ := g
          replace g := a2 g; obtain ⟨h6, g⟩ := g
          replace g := a2 g; obtain ⟨h7, g⟩ := g
          exact s_call (dd h1) h2 h3 h4 h5 (dd h6) (dd h7) (ih (.as sc as (z :: xs)) g)
        | [], _, h => exact absurd h Bool.false_ne_true
        | _ :: _, _ :: _, h => exact absurd h Bool.false_ne_true
      | _ => exact absurd h Bool.false_ne_true
    | _ => exact absurd h Bool.false_ne_true
  | bi b es => cases x with
    | Call fn xs kw _ => cases fn with
      | Name y _ => match xs, kw, h with
        | z :: xs, [], g =>
          replace g := a2 g; obtain ⟨h1, g⟩ := g
          replace g := a2 g; obtain ⟨h2, g⟩ := g
          replace g := a2 g; obtain ⟨h3, g⟩ := g
          replace g := a2 g; obtain ⟨h4, g⟩ := g
          obtain rfl := dd h1
          exact s_bi h2 h3 h4 (ih (.ls sc es (z :: xs)) g)
        | [], _, h => exact absurd h Bool.false_ne_true
        | _ :: _, _ :: _, h => exact absurd h Bool.false_ne_true
      | _ => exact absurd h Bool.false_ne_true
    | _ => exact absurd h Bool.false_ne_true
  | isi a t => cases x with
    | Call fn xs kw _ => cases fn with
      | Name y _ => match xs, kw, h with
        | [z, w], [], g => cases w with
          | Name w _ =>
            replace g := a2 g; obtain ⟨h1, g⟩ := g
            replace g := a2 g; obtain ⟨h2, g⟩ := g
            replace g := a2 g; obtain ⟨h3, g⟩ := g
            replace g := a2 g; obtain ⟨h4, g⟩ := g
            replace g := a2 g; obtain ⟨h5, g⟩ := g
            obtain rfl := dd h1
            obtain rfl := dd h2
            exact s_isi h3 h4 h5 (ih _ g)
          | _ => exact absurd g Bool.false_ne_true
        | [], _, h => exact absurd h Bool.false_ne_true
        | [_], _, h => exact absurd h Bool.false_ne_true
        | _ :: _ :: _ :: _, _, h => exact absurd h Bool.false_ne_true
        | [_, _], _ :: _, h => exact absurd h Bool.false_ne_true
      | _ => exact absurd h Bool.false_ne_true
    | _ => exact absurd h Bool.false_ne_true
  | isi2 a t u => cases x with
    | Call fn xs kw _ => cases fn with
      | Name y _ => match xs, kw, h with
        | [z, w], [], g => cases w with
          | Tuple ws _ _ => match ws, g with
            | [w1, w2], f => cases w1 with
              | Name w1 _ => cases w2 with
                | Name w2 _ =>
                  replace f := a2 f; obtain ⟨h1, f⟩ := f
                  replace f := a2 f; obtain ⟨h2, f⟩ := f
                  replace f := a2 f; obtain ⟨h3, f⟩ := f
                  replace f := a2 f; obtain ⟨h4, f⟩ := f
                  replace f := a2 f; obtain ⟨h5, f⟩ := f
                  replace f := a2 f; obtain ⟨h6, f⟩ := f
                  replace f := a2 f; obtain ⟨h7, f⟩ := f
                  obtain rfl := dd h1
                  obtain rfl := dd h2
                  obtain rfl := dd h3
                  exact s_isi2 h4 h5 h6 h7 (ih _ f)
                | _ => exact absurd f Bool.false_ne_true
              | _ => exact absurd f Bool.false_ne_true
            | [], g => exact absurd g Bool.false_ne_true
            | [_], g => exact absurd g Bool.false_ne_true
            | _ :: _ :: _ :: _, g => exact absurd g Bool.false_ne_true
          | _ => exact absurd g Bool.false_ne_true
        | [], _, h => exact absurd h Bool.false_ne_true
        | [_], _, h => exact absurd h Bool.false_ne_true
        | _ :: _ :: _ :: _, _, h => exact absurd h Bool.false_ne_true
        | [_, _], _ :: _, h => exact absurd h Bool.false_ne_true
      | _ => exact absurd h Bool.false_ne_true
    | _ => exact absurd h Bool.false_ne_true
  | index a b => cases x with
    | Call fn xs kw p => cases fn with
      | Attribute y nm ap => match xs, kw, h with
        | [z], [], g =>
          replace g := a2 g; obtain ⟨h1, g⟩ := g
          replace g := a2 g; obtain ⟨h2, g⟩ := g
          replace g := a2 g; obtain ⟨h3, g⟩ := g
          replace g := a2 g; obtain ⟨h4, g⟩ := g
          replace g := a2 g; obtain ⟨h5, g⟩ := g
          obtain rfl := dd h1
          exact s_index h2 h3 h4 (ih _ h5) (ih _ g)
        | [], _, h => exact absurd h Bool.false_ne_true
        | [_], _ :: _, h => exact absurd h Bool.false_ne_true
        | _ :: _ :: _, _, h => exact absurd h Bool.false_ne_true
      | _ => exact absurd h Bool.false_ne_true
    | _ => exact absurd h Bool.false_ne_true
  | comp own t s c e => cases x with
    | ListComp elt gs scope _ => match gs, h with
      | [g], h =>
        obtain ⟨tg, it, ifs, k⟩ := g
        replace h := a2 h; obtain ⟨h1, h⟩ := h
        replace h := a2 h; obtain ⟨h2, h⟩ := h
        replace h := a2 h; obtain ⟨h3, h⟩ := h
        replace h := a2 h; obtain ⟨h4, h⟩ := h
        replace h := a2 h; obtain ⟨h5, h⟩ := h
        replace h := a2 h; obtain ⟨h6, h⟩ := h
        replace h := a2 h; obtain ⟨h7, h⟩ := h
        replace h := a2 h; obtain ⟨h8, h⟩ := h
        obtain rfl : k = 0 := dd h1
        exact s_comp (ih (.src sc s it tg) h2) (ih (.g scope (relS scope sc) t tg) h3) (ih (.c (relS scope sc) c ifs) h4) (ih (.v (relS scope sc) e elt) h5) (dd h6) h7 h8 h
      | [], h => exact absurd h Bool.false_ne_true
      | _ :: _ :: _, h => exact absurd h Bool.false_ne_true
    | _ => exact absurd h Bool.false_ne_true
  | frz a => exact s_frz (ih (.v sc a x) h)
  | zipl a b => cases x with
    | Call fn xs kw _ => cases fn with
      | Name y _ => match xs, kw, h with
        | [w], [], g => cases w with
          | Call fn ys kw2 _ => cases fn with
            | Name w _ => match ys, kw2, g with
              | [x1, x2], [], f =>
                replace f := a2 f; obtain ⟨h1, f⟩ := f
                replace f := a2 f; obtain ⟨h2, f⟩ := f
                replace f := a2 f; obtain ⟨h3, f⟩ := f
                replace f := a2 f; obtain ⟨h4, f⟩ := f
                replace f := a2 f; obtain ⟨h5, f⟩ := f
                replace f := a2 f; obtain ⟨h6, f⟩ := f
                replace f := a2 f; obtain ⟨h7, f⟩ := f
                obtain rfl := dd h1
                obtain rfl := dd h2
                exact s_zipl h3 h4 h5 h6 (ih (.v sc a x1) h7) (ih (.v sc b x2) f)
              | [], _, g => exact absurd g Bool.false_ne_true
              | [_], _, g => exact absurd g Bool.false_ne_true
              | [_, _], _ :: _, g => exact absurd g Bool.false_ne_true
              | _ :: _ :: _ :: _, _, g => exact absurd g Bool.false_ne_true
            | _ => exact absurd g Bool.false_ne_true
          | _ => exact absurd g Bool.false_ne_true
        | [], _, h => exact absurd h Bool.false_ne_true
        | [_], _ :: _, h => exact absurd h Bool.false_ne_true
        | _ :: _ :: _, _, h => exact absurd h Bool.false_ne_true
      | _ => exact absurd h Bool.false_ne_true
    | _ => exact absurd h Bool.false_ne_true
theorem ag_t {n : Nat} (ih : ∀ q, ag G N n q = true → QSnd G C N q) (sc : Scope) (e : E) (x : Expr) (h : ag G N (n + 1) (.t sc e x) = true) : SndT G C N sc e x := by
  have dflt : (plainT x && ag G N n (.e sc e x)) = true → SndT G C N sc e x := fun h => by
    obtain ⟨h1, h2⟩ := a2 h
    exact t_val (ih _ h2) (by cases x <;> first | exact fun _ _ => rfl | exact absurd h1 Bool.false_ne_true)
  cases e with
  | cmp o a b => cases x with
    | Compare y ops zs _ => match ops, zs, h with
      | [op], [z], h =>
        replace h := a2 h; obtain ⟨h1, h⟩ := h
        replace h := a2 h; obtain ⟨h2, h⟩ := h
        replace h := a2 h; obtain ⟨h3, h⟩ := h
        obtain rfl := dd h1
        exact t_cmp (ih _ h3) (ih _ h) (bf h2)
      | [], _, h => exact absurd h Bool.false_ne_true
      | [_], [], h => exact absurd h Bool.false_ne_true
      | [_], _ :: _ :: _, h => exact absurd h Bool.false_ne_true
      | _ :: _ :: _, _, h => exact absurd h Bool.false_ne_true
    | _ => exact absurd h Bool.false_ne_true
  | chain o o' a b c => cases x with
    | Compare y ops zs _ => match ops, zs, h with
      | [op, op'], [z, w], h =>
        replace h := a2 h; obtain ⟨h1, h⟩ := h
        replace h := a2 h; obtain ⟨h2, h⟩ := h
        replace h := a2 h; obtain ⟨h3, h⟩ := h
        replace h := a2 h; obtain ⟨h4, h⟩ := h
        replace h := a2 h; obtain ⟨h5, h⟩ := h
        obtain rfl := dd h1
        obtain rfl := dd h2
        exact t_chain (ih _ h4) (ih _ h5) (ih _ h) (bf h3)
      | [], _, h => exact absurd h Bool.false_ne_true
      | [_], _, h => exact absurd h Bool.false_ne_true
      | [_, _], [], h => exact absurd h Bool.false_ne_true
      | [_, _], [_], h => exact absurd h Bool.false_ne_true
      | [_, _], _ :: _ :: _ :: _, h => exact absurd h Bool.false_ne_true
      | _ :: _ :: _ :: _, _, h => exact absurd h Bool.false_ne_true
    | _ => exact absurd h Bool.false_ne_true
  | not a => cases x with
    | UnaryOp op y _ => cases op with
      | Not => exact t_not (ih (.t sc a y) h)
      | _ => exact absurd h Bool.false_ne_true
    | _ => exact absurd h Bool.false_ne_true
  | and a b => cases x with
    | BoolOp op xs _ => cases op with
      | And => exact w_t (ih (.tan sc (.and a b) xs) h _)
      | _ => exact absurd h Bool.false_ne_true
    | _ => exact absurd h Bool.false_ne_true
  | or a b => cases x with
    | BoolOp op xs _ => cases op with
      | Or => exact w_t (ih (.tor sc (.or a b) xs) h _)
      | _ => exact absurd h Bool.false_ne_true
    | _ => exact absurd h Bool.false_ne_true
  | _ => exact dflt h
theorem ag_ok : ∀ (n : Nat) (q : Qy), ag G N n q = true → QSnd G C N q
  | 0, q, h => absurd h Bool.false_ne_true
  | n + 1, q, h => by
    have ih := ag_ok n
    cases q with
    | e sc e x => exact ag_e ih sc e x h
    | t sc e x => exact ag_t ih sc e x h
    | v sc e x => cases e with
      | var i => cases x with
        | Name y _ =>
          obtain ⟨h1, h2⟩ := a2 h
          obtain ⟨h2, h3⟩ := a2 h2
          exact v_var (dd h1) h2 h3
        | _ => exact absurd h Bool.false_ne_true
      | _ => exact v_of (ih (.e sc _ x) h) rfl
    | an sc e xs => match xs, h with
      | [y], h => exact fun pos => s_one (ih (.e sc e y) h)
      | [], h => exact absurd h Bool.false_ne_true
      | y :: z :: r, h => cases e with
        | and a b =>
          obtain ⟨h1, h2⟩ := a2 h
          exact fun pos => s_and (ih _ h1) (ih (.an sc b (z :: r)) h2 pos)
        | _ => exact absurd h Bool.false_ne_true
    | or sc e xs => match xs, h with
      | [y], h => exact fun pos => s_one (ih (.e sc e y) h)
      | [], h => exact absurd h Bool.false_ne_true
      | y :: z :: r, h => cases e with
        | or a b =>
          obtain ⟨h1, h2⟩ := a2 h
          exact fun pos => s_or (ih _ h1) (ih (.or sc b (z :: r)) h2 pos)
        | _ => exact absurd h Bool.false_ne_true
    | tan sc e xs => match xs, h with
      | [y], h => exact fun pos => w_and1 (ih (.t sc e y) h)
      | [], h => exact absurd h Bool.false_ne_true
      | y :: z :: r, h => cases e with
        | and a b =>
          obtain ⟨h1, h2⟩ := a2 h
          exact fun pos => w_and (ih (.t sc a y) h1) (ih (.tan sc b (z :: r)) h2 pos)
        | _ => exact absurd h Bool.false_ne_true
    | tor sc e xs => match xs, h with
      | [y], h => exact fun pos => w_or1 (ih (.t sc e y) h)
      | [], h => exact absurd h Bool.false_ne_true
      | y :: z :: r, h => cases e with
        | or a b =>
          obtain ⟨h1, h2⟩ := a2 h
          exact fun pos => w_or (ih (.t sc a y) h1) (ih (.tor sc b (z :: r)) h2 pos)
        | _ => exact absurd h Bool.false_ne_true
    | o sc e x => match e, x, h with
      | .none, none, h => exact o_none
      | .some e, some x, h => exact o_some (ih (.e sc e x) h)
      | .none, some _, h => exact absurd h Bool.false_ne_true
      | .some _, none, h => exact absurd h Bool.false_ne_true
    | es sc es xs => match es, xs, h with
      | .nil, [], h => exact es_nil
      | .cons e es, x :: xs, h =>
        obtain ⟨h1, h2⟩ := a2 h
        obtain ⟨h2, h3⟩ := a2 h2
        exact es_cons h1 (ih (.v sc e x) h2) (ih (.es sc es xs) h3)
      | .nil, _ :: _, h => exact absurd h Bool.false_ne_true
      | .cons _ _, [], h => exact absurd h Bool.false_ne_true
    | ls sc es xs => match es, xs, h with
      | .cons e .nil, [x], h =>
        obtain ⟨h1, h2⟩ := a2 h
        exact ls_one h1 (ih (.e sc e x) h2)
      | .cons e (.cons e' es), x :: y :: xs, h =>
        obtain ⟨h1, h2⟩ := a2 h
        obtain ⟨h2, h3⟩ := a2 h2
        exact ls_cons h1 (ih (.e sc e x) h2) (ih (.ls sc (.cons e' es) (y :: xs)) h3)
      | .nil, _, h => exact absurd h Bool.false_ne_true
      | .cons _ .nil, [], h => exact absurd h Bool.false_ne_true
      | .cons _ .nil, _ :: _ :: _, h => exact absurd h Bool.false_ne_true
      | .cons _ (.cons _ _), [], h => exact absurd h Bool.false_ne_true
      | .cons _ (.cons _ _), [_], h => exact absurd h Bool.false_ne_true
    | as sc as xs => match as, xs, h with
      | .nil, [], h => exact as_nil
      | .val e r, x :: xs, h =>
        obtain ⟨h1, h2⟩ := a2 h
        obtain ⟨h2, h3⟩ := a2 h2
        exact as_val h1 (ih (.v sc e x) h2) (ih (.as sc r xs) h3)
      | .ref i r, x :: xs, h => cases x with
        | Name y _ =>
          obtain ⟨h1, h2⟩ := a2 h
          obtain ⟨h1, h3⟩ := a2 h1
          obtain ⟨h3, h4⟩ := a2 h3
          exact as_ref (dd h1) h3 h4 (ih (.as sc r xs) h2)
        | _ => exact absurd h Bool.false_ne_true
      | .nil, _ :: _, h => exact absurd h Bool.false_ne_true
      | .val _ _, [], h => exact absurd h Bool.false_ne_true
      | .ref _ _, [], h => exact absurd h Bool.false_ne_true
    | src sc s it tg => cases s with
      | list e => exact src_list (ih (.v sc e it) h)
      | range1 e => cases it with
        | Call fn xs kw _ => cases fn with
          | Name y _ => match xs, kw, h with
            | [x], [], g =>
              replace g := a2 g; obtain ⟨h1, g⟩ := g
              replace g := a2 g; obtain ⟨h2, g⟩ := g
              replace g := a2 g; obtain ⟨h3, g⟩ := g
              have e1 := dd h1
              subst e1
              exact src_range1 h2 h3 (ih (.e sc e x) g)
            | [], _, h => exact absurd h Bool.false_ne_true
            | [_], _ :: _, h => exact absurd h Bool.false_ne_true
            | _ :: _ :: _, _, h => exact absurd h Bool.false_ne_true
          | _ => exact absurd h Bool.false_ne_true
        | _ => exact absurd h Bool.false_ne_true
      | range2 a b => cases it with
        | Call fn xs kw _ => cases fn with
          | Name y _ => match xs, kw, h with
            | [x, x2], [], g =>
              replace g := a2 g; obtain ⟨h1, g⟩ := g
              replace g := a2 g; obtain ⟨h2, g⟩ := g
              replace g := a2 g; obtain ⟨h3, g⟩ := g
              replace g := a2 g; obtain ⟨h4, g⟩ := g
              replace g := a2 g; obtain ⟨h5, g⟩ := g
              have e1 := dd h1
              subst e1
              exact src_range2 h2 h3 h4 (ih (.e sc a x) h5) (ih (.e sc b x2) g)
            | [], _, h => exact absurd h Bool.false_ne_true
            | [_], _, h => exact absurd h Bool.false_ne_true
            | [_, _], _ :: _, h => exact absurd h Bool.false_ne_true
            | _ :: _ :: _ :: _, _, h => exact absurd h Bool.false_ne_true
          | _ => exact absurd h Bool.false_ne_true
        | _ => exact absurd h Bool.false_ne_true
      | rangeDown a b => cases it with
        | Call fn xs kw _ => cases fn with
          | Name y _ => match xs, kw, h with
            | [x, x2, z], [], g => cases z with
              | UnaryOp op z _ => cases op with
                | USub => cases z with
                  | Constant k _ _ => cases k with
                    | int k =>
                      replace g := a2 g; obtain ⟨h0, g⟩ := g
                      replace g := a2 g; obtain ⟨h1, g⟩ := g
                      replace g := a2 g; obtain ⟨h2, g⟩ := g
                      replace g := a2 g; obtain ⟨h3, g⟩ := g
                      replace g := a2 g; obtain ⟨h4, g⟩ := g
                      replace g := a2 g; obtain ⟨h5, g⟩ := g
                      have e1 := dd h1
                      have e0 := dd h0
                      subst e1
                      subst e0
                      exact src_rangeDown h2 h3 h4 (ih (.e sc a x) h5) (ih (.e sc b x2) g)
                    | _ => exact absurd g Bool.false_ne_true
                  | _ => exact absurd g Bool.false_ne_true
                | _ => exact absurd g Bool.false_ne_true
              | _ => exact absurd g Bool.false_ne_true
            | [], _, h => exact absurd h Bool.false_ne_true
            | [_], _, h => exact absurd h Bool.false_ne_true
            | [_, _], _, h => exact absurd h Bool.false_ne_true
            | [_, _, _], _ :: _, h => exact absurd h Bool.false_ne_true
            | _ :: _ :: _ :: _ :: _, _, h => exact absurd h Bool.false_ne_true
          | _ => exact absurd h Bool.false_ne_true
        | _ => exact absurd h Bool.false_ne_true
      | enum e => cases it with
        | Call fn xs kw _ => cases fn with
          | Name y _ => match xs, kw, h with
            | [x], [], g => cases tg with
              | Tuple _ _ _ =>
                replace g := a2 g; obtain ⟨h1, g⟩ := g
                replace g := a2 g; obtain ⟨h2, g⟩ := g
                replace g := a2 g; obtain ⟨h3, g⟩ := g
                have e1 := dd h1
                subst e1
                exact src_enum h2 h3 (ih (.v sc e x) g)
              | _ => exact absurd g Bool.false_ne_true
            | [], _, h => exact absurd h Bool.false_ne_true
            | [_], _ :: _, h => exact absurd h Bool.false_ne_true
            | _ :: _ :: _, _, h => exact absurd h Bool.false_ne_true
          | _ => exact absurd h Bool.false_ne_true
        | _ => exact absurd h Bool.false_ne_true
      | zip a b => cases it with
        | Call fn xs kw _ => cases fn with
          | Name y _ => match xs, kw, h with
            | [x, x2], [], g => cases tg with
              | Tuple _ _ _ =>
                replace g := a2 g; obtain ⟨h1, g⟩ := g
                replace g := a2 g; obtain ⟨h2, g⟩ := g
                replace g := a2 g; obtain ⟨h3, g⟩ := g
                replace g := a2 g; obtain ⟨h4, g⟩ := g
                replace g := a2 g; obtain ⟨h5, g⟩ := g
                have e1 := dd h1
                subst e1
                exact src_zip h2 h3 h4 (ih (.v sc a x) h5) (ih (.v sc b x2) g)
              | _ => exact absurd g Bool.false_ne_true
            | [], _, h => exact absurd h Bool.false_ne_true
            | [_], _, h => exact absurd h Bool.false_ne_true
            | [_, _], _ :: _, h => exact absurd h Bool.false_ne_true
            | _ :: _ :: _ :: _, _, h => exact absurd h Bool.false_ne_true
          | _ => exact absurd h Bool.false_ne_true
        | _ => exact absurd h Bool.false_ne_true
    | c sc e xs => match e, xs, h with
      | .none, [], h => exact .inl ⟨rfl, rfl⟩
      | .some e, [x], h => exact .inr ⟨e, x, rfl, rfl, ih (.t sc e x) h⟩
      | .none, _ :: _, h => exact absurd h Bool.false_ne_true
      | .some _, [], h => exact absurd h Bool.false_ne_true
      | .some _, _ :: _ :: _, h => exact absurd h Bool.false_ne_true
    | g fs sc t x => match t, h with
      | .nm i, h => cases x with
        | Name y _ =>
          obtain ⟨h1, h2⟩ := a2 h
          exact g_nm (dd h1) h2
        | _ => exact absurd h Bool.false_ne_true
      | .tup ts, h => cases x with
        | Tuple xs _ _ =>
          obtain ⟨h1, h2⟩ := a2 h
          obtain ⟨h2, h3⟩ := a2 h2
          exact g_tup h1 (ih (.gs fs sc ts xs) h3) (dd h2)
        | _ => exact absurd h Bool.false_ne_true
    | gs fs sc ts xs => match ts, xs, h with
      | [], [], h => exact gs_nil
      | t :: ts, x :: xs, h =>
        obtain ⟨h1, h2⟩ := a2 h
        obtain ⟨h2, h3⟩ := a2 h2
        exact gs_cons h1 (ih (.g fs sc t x) h2) (ih (.gs fs sc ts xs) h3)
      | [], _ :: _, h => exact absurd h Bool.false_ne_true
      | _ :: _, [], h => exact absurd h Bool.false_ne_true
end
end Tr

set_option maxRecDepth 100000
set_option maxHeartbeats 8000000
/-! Agreement of statements. -/
namespace Tr
open PySem PySem.Spec PyProof.Rows L2
def ownB (scope : Scope) (y : Str) : Bool := scope.names.any fun (n, k) => n == y && (k == .local || k == .cell)
def agC (G : Gt) (N : List Str) (n : Nat) (sc : Scope) (e : E) (x : Str) (p : Pos) (a : Expr) : Bool := match e with
  | .comp own t s c e => match a with
    | .ListComp elt [g] scope pos => decide (g.is_async = 0) && (ag G N n (.src sc s g.iter g.target) && (ag G N n (.g scope (relS scope sc) t g.target) && (ag G N n (.c (relS scope sc) c g.ifs) && (ag G N n (.v (relS scope sc) e elt) &&
            (decide (∀ i ∈ slotsT t, i ∈ own) && (noSet g.iter && ((own.all fun i => decide (i < N.length)) && (blkC N sc scope (ownP N own) && (locB (fun _ => false) sc x && (isFn sc && ((p.line == pos.line) && (ownB scope x == false))))))))))))
    | _ => false
  | _ => false
mutual
def agS (G : Gt) (N : List Str) (n : Nat) (sc : Scope) (pin : List Nat) : S → Stmt → Bool
  | .asg i e, st => match st with
    | .Assign [tg] a _ => match tg with
      | .Name x p => decide (N[i]? = some x) && (decide (i ∉ pin) && ((locB (cellB sc) sc x && (swB a x p sc && ag G N n (.v sc e a))) || agC G N n sc e x p a))
      | _ => false
    | _ => false
  | .asgT ts e, st => match st with
    | .Assign [tg] a _ => match tg with
      | .Tuple es _ _ => noStars es && (decide (ts.length = es.length) && (ag G N n (.gs sc sc ts es) && (noSwap sc es a && (decide (∀ i ∈ pin, i ∉ slotsTs ts) && ag G N n (.v sc e a)))))
      | _ => false
    | _ => false
  | .unl ts e, st => match st with
    | .Assign [tg] a _ => match tg with
      | .Tuple es _ _ => noStars es && (decide (ts.length = es.length) && (ag G N n (.gs sc sc ts es) && (noSwap sc es a && (decide (∀ i ∈ pin, i ∉ slotsTs ts) && ag G N n (.v sc e a)))))
      | _ => false
    | _ => false
  | .par2 i j a b, st => match st with
    | .Assign [tg] v _ => match tg with
      | .Tuple [t1, t2] _ _ => match t1 with
        | .Name x px => match t2 with
          | .Name y py => match v with
            | .Tuple [p, q] _ _ => decide (N[i]? = some x) && (decide (N[j]? = some y) && (locB (fun _ => false) sc x && (locB (fun _ => false) sc y && (isFn sc && ((py.line == px.line) && (((y == x) == false) && (noStars [p, q] && (([p, q].all (foldedForSure 8) == false) && (([p, q].all (constantsAlone 8) == false) && (decide (i ∉ pin) && (decide (j ∉ pin) && ag G N n (.es sc (.cons a (.cons b .nil)) [p, q]))))))))))))
            | _ => false
          | _ => false
        | _ => false
      | _ => false
    | _ => false
  | .par3 _ _ _ _ _ _, _ => false
  | .setF i m e, st => match st with
    | .Assign [tg] a _ => match tg with
      | .Subscript o ix _ => match o with
        | .Name x _ => match ix with
          | .Constant k _ _ => decide (k = .int (m : Int)) && (decide (N[i]? = some x) && (visB sc x && (dbgB x && ag G N n (.v sc e a))))
          | _ => false
        | _ => false
      | _ => false
    | _ => false
  | .setI i ie e, st => match st with
    | .Assign [tg] a _ => match tg with
      | .Subscript o ix _ => match o with
        | .Name x _ => decide (N[i]? = some x) && (visB sc x && (dbgB x && (notSlice ix && (ag G N n (.v sc e a) && ag G N n (.e sc ie ix)))))
        | _ => false
      | _ => false
    | _ => false
  | .augF i m e, st => match st with
    | .AugAssign tg op a _ => match tg with
      | .Subscript o ix _ => match o with
        | .Name x _ => match ix with
          | .Constant k _ _ => decide (op = .Add) && (decide (k = .int (m : Int)) && (decide (N[i]? = some x) && (visB sc x && (dbgB x && (decide (m < 1000) && ag G N n (.e sc e a))))))
          | _ => false
        | _ => false
      | _ => false
    | _ => false
  | .aug i e, st => match st with
    | .AugAssign tg op a _ => match tg with
      | .Name x _ => decide (op = .Add) && (decide (N[i]? = some x) && (locB (cellB sc) sc x && (decide (i ∉ pin) && ag G N n (.e sc e a))))
      | _ => false
    | _ => false
  | .app i e, st => match st with
    | .Expr v _ => match v with
      | .Call fn [a] [] cp => match fn with
        | .Attribute o nm ap => match o with
          | .Name x p => decide (nm = ("append" : Str)) && (decide (N[i]? = some x) && (visB sc x && (dbgB x && (noBase (.Name x p) && ((ap.endLine == cp.line) && (noStar a && ag G N n (.v sc e a)))))))
          | _ => false
        | _ => false
      | _ => false
    | _ => false
  | .ext i e, st => match st with
    | .Expr v _ => match v with
      | .Call fn [a] [] cp => match fn with
        | .Attribute o nm ap => match o with
          | .Name x p => decide (nm = ("extend" : Str)) && (decide (N[i]? = some x) && (visB sc x && (dbgB x && (noBase (.Name x p) && ((ap.endLine == cp.line) && (noStar a && ag G N n (.e sc e a)))))))
          | _ => false
        | _ => false
      | _ => false
    | _ => false
  | .expr e, st => match st with
    | .Expr a _ => noComp a && ag G N n (.e sc e a)
    | _ => false
  | .iff c a b, st => match st with
    | .If x p q _ => ag G N n (.t sc c x) && (agSs G N n sc pin a p && agSs G N n sc pin b q)
    | _ => false
  | .whl c b, st => match st with
    | .While x p [] _ => ag G N n (.t sc c x) && agSs G N n sc pin b p
    | _ => false
  | .for_ t s b, st => match st with
    | .For tg it p [] _ => ag G N n (.src sc s it tg) && (ag G N n (.g sc sc t tg) && (agSs G N n sc pin b p && (noSet it && decide (∀ i ∈ pin, i ∉ slotsT t))))
    | _ => false
  | .brk, st => match st with
    | .Break _ => true
    | _ => false
  | .cont, st => match st with
    | .Continue _ => true
    | _ => false
  | .pass, st => match st with
    | .Pass _ => true
    | _ => false
  | .ret e, st => match st with
    | .Return x _ => match x with
      | some x => ag G N n (.v sc e x)
      | none => false
    | _ => false
  | .never, _ => true
def agSs (G : Gt) (N : List Str) (n : Nat) (sc : Scope) (pin : List Nat) : Ss → List Stmt → Bool
  | .nil, sts => match sts with
    | [] => true
    | _ => false
  | .cons s ss, sts => match sts with
    | [] => false
    | st :: sts => agS G N n sc pin s st && agSs G N n sc pin ss sts
end
section
variable {G : Gt} {C : Sem} {N : List Str} {n : Nat} {sc : Scope} {pin : List Nat}
theorem agC_ok {i : Nat} {e : E} {x : Str} {p pos : Pos} {a : Expr} (h1 : N[i]? = some x) (hp : i ∉ pin) (h : agC G N n sc e x p a = true) : SndS G C (cellB sc) N sc pin (.asg i e) (.Assign [.Name x p] a pos) := by
  cases e with
  | comp own t s c e => cases a with
    | ListComp elt gs scope cp => match gs, h with
      | [⟨tg, it, ifs, k⟩], g =>
        replace g := a2 g; obtain ⟨g1, g⟩ := g
        replace g := a2 g; obtain ⟨g2, g⟩ := g
        replace g := a2 g; obtain ⟨g3, g⟩ := g
        replace g := a2 g; obtain ⟨g4, g⟩ := g
        replace g := a2 g; obtain ⟨g5, g⟩ := g
        replace g := a2 g; obtain ⟨g6, g⟩ := g
        replace g := a2 g; obtain ⟨g7, g⟩ := g
        replace g := a2 g; obtain ⟨g8, g⟩ := g
        replace g := a2 g; obtain ⟨g9, g⟩ := g
        replace g := a2 g; obtain ⟨g10, g⟩ := g
        replace g := a2 g; obtain ⟨g11, g⟩ := g
        replace g := a2 g; obtain ⟨g12, g⟩ := g
        have e1 : k = 0 := dd g1
        subst e1
        exact s_asgc (ag_ok n (.src sc s it tg) g2) (ag_ok n (.g scope (relS scope sc) t tg) g3) (ag_ok n (.c (relS scope sc) c ifs) g4) (ag_ok n (.v (relS scope sc) e elt) g5) (dd g6) g7 g8 g9 h1 g10 g11 g12 (bf g) hp
      | [], h => exact absurd h Bool.false_ne_true
      | _ :: _ :: _, h => exact absurd h Bool.false_ne_true
    | _ => exact absurd h Bool.false_ne_true
  | _ => exact absurd h Bool.false_ne_true
mutual
theorem agS_ok : ∀ (s : S) (st : Stmt), agS G N n sc pin s st = true → SndS G C (cellB sc) N sc pin s st
  | .asg i e, st, h => by
    cases st with
    | Assign ts a _ => match ts, h with
      | [tg], g => cases tg with
        | Name x p =>
          replace g := a2 g; obtain ⟨g1, g⟩ := g
          replace g := a2 g; obtain ⟨g2, g⟩ := g
          rcases Bool.or_eq_true_iff.mp g with g | g
          · replace g := a2 g; obtain ⟨g3, g⟩ := g
            replace g := a2 g; obtain ⟨g4, g⟩ := g
            exact s_asg (dd g1) g3 g4 (dd g2) (ag_ok n (.v sc e a) g)
          · exact agC_ok (dd g1) (dd g2) g
        | _ => exact absurd g Bool.false_ne_true
      | [], h => exact absurd h Bool.false_ne_true
      | _ :: _ :: _, h => exact absurd h Bool.false_ne_true
    | _ => exact absurd h Bool.false_ne_true
  | .asgT ts e, st, h => by
    cases st with
    | Assign tgs a _ => match tgs, h with
      | [tg], g => cases tg with
        | Tuple es _ _ =>
          replace g := a2 g; obtain ⟨g1, g⟩ := g
          replace g := a2 g; obtain ⟨g2, g⟩ := g
          replace g := a2 g; obtain ⟨g3, g⟩ := g
          replace g := a2 g; obtain ⟨g4, g⟩ := g
          replace g := a2 g; obtain ⟨g5, g⟩ := g
          exact s_asgT g1 (dd g2) (ag_ok n (.gs sc sc ts es) g3) g4 (dd g5) (ag_ok n (.v sc e a) g)
        | _ => exact absurd g Bool.false_ne_true
      | [], h => exact absurd h Bool.false_ne_true
      | _ :: _ :: _, h => exact absurd h Bool.false_ne_true
    | _ => exact absurd h Bool.false_ne_true
  | .unl ts e, st, h => by
    cases st with
    | Assign tgs a _ => match tgs, h with
      | [tg], g => cases tg with
        | Tuple es _ _ =>
          replace g := a2 g; obtain ⟨g1, g⟩ := g
          replace g := a2 g; obtain ⟨g2, g⟩ := g
          replace g := a2 g; obtain ⟨g3, g⟩ := g
          replace g := a2 g; obtain ⟨g4, g⟩ := g
          replace g := a2 g; obtain ⟨g5, g⟩ := g
          exact s_unl g1 (dd g2) (ag_ok n (.gs sc sc ts es) g3) g4 (dd g5) (ag_ok n (.v sc e a) g)
        | _ => exact absurd g Bool.false_ne_true
      | [], h => exact absurd h Bool.false_ne_true
      | _ :: _ :: _, h => exact absurd h Bool.false_ne_true
    | _ => exact absurd h Bool.false_ne_true
  | .par2 i j a b, st, h => by
    cases st with
    | Assign tgs v _ => match tgs, h with
      | [tg], g => cases tg with
        | Tuple es _ _ => match es, g with
          | [t1, t2], g => cases t1 with
            | Name x px => cases t2 with
              | Name y py => cases v with
                | Tuple vs _ _ => match vs, g with
                  | [p, q], g =>
                    replace g := a2 g; obtain ⟨g1, g⟩ := g
                    replace g := a2 g; obtain ⟨g2, g⟩ := g
                    replace g := a2 g; obtain ⟨g3, g⟩ := g
                    replace g := a2 g; obtain ⟨g4, g⟩ := g
                    replace g := a2 g; obtain ⟨g5, g⟩ := g
                    replace g := a2 g; obtain ⟨g6, g⟩ := g
                    replace g := a2 g; obtain ⟨g7, g⟩ := g
                    replace g := a2 g; obtain ⟨g8, g⟩ := g
                    replace g := a2 g; obtain ⟨g9, g⟩ := g
                    replace g := a2 g; obtain ⟨g10, g⟩ := g
                    replace g := a2 g; obtain ⟨g11, g⟩ := g
                    replace g := a2 g; obtain ⟨g12, g⟩ := g
                    exact s_par2 (dd g1) (dd g2) g3 g4 g5 g6 (bf g7) g8 (bf g9) (bf g10) (dd g11) (dd g12) (ag_ok n (.es sc (.cons a (.cons b .nil)) [p, q]) g)
                  | [], h => exact absurd h Bool.false_ne_true
                  | [_], h => exact absurd h Bool.false_ne_true
                  | _ :: _ :: _ :: _, h => exact absurd h Bool.false_ne_true
                | _ => exact absurd g Bool.false_ne_true
              | _ => exact absurd g Bool.false_ne_true
            | _ => exact absurd g Bool.false_ne_true
          | [], h => exact absurd h Bool.false_ne_true
          | [_], h => exact absurd h Bool.false_ne_true
          | _ :: _ :: _ :: _, h => exact absurd h Bool.false_ne_true
        | _ => exact absurd g Bool.false_ne_true
      | [], h => exact absurd h Bool.false_ne_true
      | _ :: _ :: _, h => exact absurd h Bool.false_ne_true
    | _ => exact absurd h Bool.false_ne_true
  | .par3 _ _ _ _ _ _, st, h => absurd h Bool.false_ne_true
  | .setF i m e, st, h => by
    cases st with
    | Assign tgs a _ => match tgs, h with
      | [tg], g => cases tg with
        | Subscript o ix _ => cases o with
          | Name x _ => cases ix with
            | Constant k _ _ =>
              replace g := a2 g; obtain ⟨g1, g⟩ := g
              replace g := a2 g; obtain ⟨g2, g⟩ := g
              replace g := a2 g; obtain ⟨g3, g⟩ := g
              replace g := a2 g; obtain ⟨g4, g⟩ := g
              have e1 := dd g1
              subst e1
              exact s_setF (dd g2) g3 g4 (ag_ok n (.v sc e a) g)
            | _ => exact absurd g Bool.false_ne_true
          | _ => exact absurd g Bool.false_ne_true
        | _ => exact absurd g Bool.false_ne_true
      | [], h => exact absurd h Bool.false_ne_true
      | _ :: _ :: _, h => exact absurd h Bool.false_ne_true
    | _ => exact absurd h Bool.false_ne_true
  | .setI i ie e, st, h => by
    cases st with
    | Assign tgs a _ => match tgs, h with
      | [tg], g => cases tg with
        | Subscript o ix _ => cases o with
          | Name x _ =>
            replace g := a2 g; obtain ⟨g1, g⟩ := g
            replace g := a2 g; obtain ⟨g2, g⟩ := g
            replace g := a2 g; obtain ⟨g3, g⟩ := g
            replace g := a2 g; obtain ⟨g4, g⟩ := g
            replace g := a2 g; obtain ⟨g5, g⟩ := g
            exact s_setI (dd g1) g2 g3 (ag_ok n (.v sc e a) g5) (ag_ok n (.e sc ie ix) g) g4
          | _ => exact absurd g Bool.false_ne_true
        | _ => exact absurd g Bool.false_ne_true
      | [], h => exact absurd h Bool.false_ne_true
      | _ :: _ :: _, h => exact absurd h Bool.false_ne_true
    | _ => exact absurd h Bool.false_ne_true
  | .augF i m e, st, h => by
    cases st with
    | AugAssign tg op a _ => cases tg with
      | Subscript o ix _ => cases o with
        | Name x _ => cases ix with
          | Constant k _ _ =>
            replace h := a2 h; obtain ⟨g0, h⟩ := h
            replace h := a2 h; obtain ⟨g1, h⟩ := h
            replace h := a2 h; obtain ⟨g2, h⟩ := h
            replace h := a2 h; obtain ⟨g3, h⟩ := h
            replace h := a2 h; obtain ⟨g4, h⟩ := h
            replace h := a2 h; obtain ⟨g5, h⟩ := h
            have e1 := dd g1
            have e0 := dd g0
            subst e1
            subst e0
            exact s_augF (dd g2) g3 g4 g5 (ag_ok n (.e sc e a) h)
          | _ => exact absurd h Bool.false_ne_true
        | _ => exact absurd h Bool.false_ne_true
      | _ => exact absurd h Bool.false_ne_true
    | _ => exact absurd h Bool.false_ne_true
  | .aug i e, st, h => by
    cases st with
    | AugAssign tg op a _ => cases tg with
      | Name x _ =>
        replace h := a2 h; obtain ⟨g0, h⟩ := h
        replace h := a2 h; obtain ⟨g1, h⟩ := h
        replace h := a2 h; obtain ⟨g2, h⟩ := h
        replace h := a2 h; obtain ⟨g3, h⟩ := h
        have e0 := dd g0
        subst e0
        exact s_aug (dd g1) g2 (dd g3) (ag_ok n (.e sc e a) h)
      | _ => exact absurd h Bool.false_ne_true
    | _ => exact absurd h Bool.false_ne_true
  | .app i e, st, h => by
    cases st with
    | Expr v _ => cases v with
      | Call fn xs kw cp => match xs, kw, h with
        | [a], [], g => cases fn with
          | Attribute o nm ap => cases o with
            | Name x p =>
              replace g := a2 g; obtain ⟨g1, g⟩ := g
              replace g := a2 g; obtain ⟨g2, g⟩ := g
              replace g := a2 g; obtain ⟨g3, g⟩ := g
              replace g := a2 g; obtain ⟨g4, g⟩ := g
              replace g := a2 g; obtain ⟨g5, g⟩ := g
              replace g := a2 g; obtain ⟨g6, g⟩ := g
              replace g := a2 g; obtain ⟨g7, g⟩ := g
              have e1 := dd g1
              subst e1
              exact s_app (dd g2) g3 g4 g5 g6 g7 (ag_ok n (.v sc e a) g)
            | _ => exact absurd g Bool.false_ne_true
          | _ => exact absurd g Bool.false_ne_true
        | [], _, h => exact absurd h Bool.false_ne_true
        | [_], _ :: _, h => exact absurd h Bool.false_ne_true
        | _ :: _ :: _, _, h => exact absurd h Bool.false_ne_true
      | _ => exact absurd h Bool.false_ne_true
    | _ => exact absurd h Bool.false_ne_true
  | .ext i e, st, h => by
    cases st with
    | Expr v _ => cases v with
      | Call fn xs kw cp => match xs, kw, h with
        | [a], [], g => cases fn with
          | Attribute o nm ap => cases o with
            | Name x p =>
              replace g := a2 g; obtain ⟨g1, g⟩ := g
              replace g := a2 g; obtain ⟨g2, g⟩ := g
              replace g := a2 g; obtain ⟨g3, g⟩ := g
              replace g := a2 g; obtain ⟨g4, g⟩ := g
              replace g := a2 g; obtain ⟨g5, g⟩ := g
              replace g := a2 g; obtain ⟨g6, g⟩ := g
              replace g := a2 g; obtain ⟨g7, g⟩ := g
              have e1 := dd g1
              subst e1
              exact s_ext (dd g2) g3 g4 g5 g6 g7 (ag_ok n (.e sc e a) g)
            | _ => exact absurd g Bool.false_ne_true
          | _ => exact absurd g Bool.false_ne_true
        | [], _, h => exact absurd h Bool.false_ne_true
        | [_], _ :: _, h => exact absurd h Bool.false_ne_true
        | _ :: _ :: _, _, h => exact absurd h Bool.false_ne_true
      | _ => exact absurd h Bool.false_ne_true
    | _ => exact absurd h Bool.false_ne_true
  | .expr e, st, h => by
    cases st with
    | Expr a _ =>
      obtain ⟨h1, h2⟩ := a2 h
      exact s_expr h1 (ag_ok n (.e sc e a) h2)
    | _ => exact absurd h Bool.false_ne_true
  | .iff c a b, st, h => by
    cases st with
    | If x p q _ =>
      obtain ⟨h1, h2⟩ := a2 h
      obtain ⟨h2, h3⟩ := a2 h2
      exact s_iff (ag_ok n (.t sc c x) h1) (agSs_ok a p h2) (agSs_ok b q h3)
    | _ => exact absurd h Bool.false_ne_true
  | .whl c b, st, h => by
    cases st with
    | While x p e _ => cases e with
      | nil =>
        obtain ⟨h1, h2⟩ := a2 h
        exact s_whl (ag_ok n (.t sc c x) h1) (agSs_ok b p h2)
      | cons _ _ => exact absurd h Bool.false_ne_true
    | _ => exact absurd h Bool.false_ne_true
  | .for_ t s b, st, h => by
    cases st with
    | For tg it p e _ => cases e with
      | nil =>
        obtain ⟨h1, h2⟩ := a2 h
        obtain ⟨h2, h3⟩ := a2 h2
        obtain ⟨h3, h4⟩ := a2 h3
        obtain ⟨h4, h5⟩ := a2 h4
        exact s_for (ag_ok n (.src sc s it tg) h1) (ag_ok n (.g sc sc t tg) h2) (agSs_ok b p h3) h4 (dd h5)
      | cons _ _ => exact absurd h Bool.false_ne_true
    | _ => exact absurd h Bool.false_ne_true
  | .brk, st, h => by
    cases st with
    | Break _ => exact s_brk
    | _ => exact absurd h Bool.false_ne_true
  | .cont, st, h => by
    cases st with
    | Continue _ => exact s_cont
    | _ => exact absurd h Bool.false_ne_true
  | .pass, st, h => by
    cases st with
    | Pass _ => exact s_pass
    | _ => exact absurd h Bool.false_ne_true
  | .ret e, st, h => by
    cases st with
    | Return x _ => cases x with
      | some x => exact s_ret (ag_ok n (.v sc e x) h)
      | none => exact absurd h Bool.false_ne_true
    | _ => exact absurd h Bool.false_ne_true
  | .never, st, h => s_never
theorem agSs_ok : ∀ (ss : Ss) (sts : List Stmt), agSs G N n sc pin ss sts = true → SndSs G C (cellB sc) N sc pin ss sts
  | .nil, [], h => ss_nil
  | .nil, _ :: _, h => absurd h Bool.false_ne_true
  | .cons s ss, [], h => absurd h Bool.false_ne_true
  | .cons s ss, st :: sts, h => ss_cons (agS_ok s st (a2 h).1) (agSs_ok ss sts (a2 h).2)
end
end
end Tr

set_option maxRecDepth 100000
set_option maxHeartbeats 8000000
/-! From the meaning of a table of defs to their promises, and to the row. -/
namespace Tr
open PySem PySem.Spec PyProof.Rows L2
structure De where
  x : Str
  st : Stmt
  ps : List Str
  N : List Str
  fn : Fn
def gOf (tbl : List De) (cn : Str → Option Cst) : Gt := ⟨fun f => (tbl[f]?).map (·.x), fun f => ((tbl[f]?).map (·.fn.io)).getD [], fun f => ((tbl[f]?).map (·.fn.np)).getD 0, cn⟩
def scB (N P : List Str) (sc : Scope) : Bool :=
  decide (sc.kind = .function) && (decide (sc.isCoroutine = false) && (decide (sc.isGenerator = false) && (decide N.Nodup && (decide (N.take P.length = P) && (P.all (fun x => decide (sc.names.lookup x = some .local) || decide (sc.names.lookup x = some .cell)) && sc.names.all (fun y => !decide (y.2 = .free)))))))
theorem scB_ok {N P : List Str} {sc : Scope} (h : scB N P sc = true) : FnScope N P sc := by
  unfold scB at h
  simp only [Bool.and_eq_true, Bool.not_eq_true', decide_eq_true_eq, List.all_eq_true, Bool.or_eq_true, decide_eq_false_iff_not] at h
  obtain ⟨h1, h2, h3, h4, h5, h6, h7⟩ := h
  exact ⟨h1, h2, h3, h4, h5, h6, h7⟩
def okE (G : Gt) (e : De) : Bool := scB e.N e.ps (defScope e.st) && (decide (e.fn.np = e.ps.length) && (decide (e.fn.nn = e.N.length) && agSs G e.N 60 (defScope e.st) e.fn.io e.fn.body (defBody e.st)))
section
variable {K : PySem.W.Frag} {H : Hp} {Ow : Addr → Prop} {os : Os}
theorem gE_app : ∀ (ds : List D) (r : Nat) (i : Nat), gE (ds.map some ++ List.replicate r none) i = ds[i]?
  | [], 0, i => by simp [gE]
  | [], r + 1, 0 => by simp [gE, List.replicate_succ]
  | [], r + 1, i + 1 => by
    rw [List.map_nil, List.nil_append, List.replicate_succ]
    show gE (List.replicate r none) i = none
    have := gE_app [] r i
    simpa using this
  | d :: ds, r, 0 => rfl
  | d :: ds, r, i + 1 => gE_app ds r i
theorem start_get {N : List Str} {vs : List V} {i : Nat} {v : V} (h : (L2.start N vs)[i]? = some (some v)) : vs[i]? = some v := by
  unfold L2.start at h
  by_cases hi : i < vs.length
  · rw [List.getElem?_append_left (by simpa using hi), List.getElem?_map] at h
    cases e : vs[i]? with
    | none => rw [e] at h; cases h
    | some a => rw [e] at h; cases h; rfl
  · rw [List.getElem?_append_right (by simpa using hi)] at h
    rw [List.getElem?_replicate] at h
    split at h <;> cases h
theorem St.ext {m : Nat} {N : List Str} {vs : List V} {ds : List D} (S : St K m H Ow (vs.map some) (ds.map some) os) (hm : m ≤ N.length) : St K N.length H Ow (L2.start N vs) (ds.map some ++ List.replicate (N.length - ds.length) none) os := by
  have lv : vs.length = m := by simpa using S.len
  have ld : ds.length = m := by simpa using S.lnr
  refine ⟨?_, ?_, fun i d e => ?_, fun i e => ?_, S.nd, S.dj, S.al⟩
  · unfold L2.start
    rw [List.length_append, List.length_map, List.length_replicate]
    omega
  · rw [List.length_append, List.length_map, List.length_replicate]
    omega
  · rw [gE_app] at e
    rw [← gE_map] at e
    obtain ⟨v, q, r⟩ := S.rep i d e
    refine ⟨v, ?_, r⟩
    unfold L2.start
    rw [List.getElem?_append_left]
    · exact q
    · exact (List.getElem?_eq_some_iff.mp q).1
  · rw [gE_app] at e
    rw [← gE_map] at e
    exact S.emp i e
theorem outK_of : ∀ {io : List Nat} {ρ : Env} {k : List D → Prop}, outK io ρ k → ∃ outs, k outs ∧ ∀ (j i : Nat) (d : D), io[j]? = some i → outs[j]? = some d → gE ρ i = some d
  | [], _, _, h => ⟨[], h, fun j i d e => by cases e⟩
  | i :: r, ρ, k, h => by
    obtain ⟨d, e, h⟩ := getK_some h
    obtain ⟨outs, q1, q2⟩ := outK_of (io := r) h
    refine ⟨d :: outs, q1, fun j i' d' e1 e2 => ?_⟩
    cases j with
    | zero => cases e1; cases e2; exact e
    | succ j => exact q2 j i' d' e1 e2
end
/-- what the top has written -/
structure Stan (K : PySem.W.Frag) (mg : Str → Option Value) (tbl : List De) (cn : Str → Option Cst) : Prop where
  df : ∀ (f : Nat) (e : De), tbl[f]? = some e → ∃ a fd, Fun K e.x e.x e.st a fd ∧ mg e.x = some (.ref a) ∧ Binds K fd e.ps []
  mt : ∀ x ∈ bnames, mg x = none
  cn : ∀ x c, cn x = some c → ∃ u v, mg x = some u ∧ RelV v u ∧ (match c with | .non => v = V.non | .bl b => v = .bl b | .int i => v = .int i | .str s => v = .str s)
section
variable {P : Program} {w : World} {K : PySem.W.Frag} {mg : Str → Option Value} {base : Heap} {tbl : List De} {cn : Str → Option Cst}
theorem fns (S : Stan K mg tbl cn) (ok : tbl.all (okE (gOf tbl cn)) = true) : ∀ (n f : Nat) (e : De), tbl[f]? = some e → ∀ a fd, Fun K e.x e.x e.st a fd → FnOk P w K mg base CX0 n a fd e.ps (spF K e.fn.np e.fn.io (semN (tbl.map (·.fn)) n f))
  | 0, f, e, he, a, fd, F => by
    have hlen : e.fn.np = e.ps.length := by
      have := List.all_eq_true.mp ok e (List.mem_of_getElem? he)
      exact dd (a2 (a2 this).2).1
    exact ⟨fun vs H Q E h => h.1.trans hlen, fun A outer s H args us vs Q E _ _ _ _ h => by
      obtain ⟨_, ds, Ow, os, k, _, _, hm, _⟩ := h
      exact False.elim (show False from hm)⟩
  | n + 1, f, e, he, a, fd, F => by
    have hok := List.all_eq_true.mp ok e (List.mem_of_getElem? he)
    obtain ⟨h1, h⟩ := a2 hok
    obtain ⟨h2, h⟩ := a2 h
    obtain ⟨h3, h4⟩ := a2 h
    have hnp : e.fn.np = e.ps.length := dd h2
    have hnn : e.fn.nn = e.N.length := dd h3
    have FS := scB_ok h1
    have hpl : e.ps.length ≤ e.N.length := by have := congrArg List.length FS.pre; rw [List.length_take] at this; omega
    refine F.ok FS (fun vs H Q E h => h.1.trans hnp) fun cdv A outer s H vs Q E hr hsp => ?_
    obtain ⟨hvl, ds, Ow, os, k, S0, hos, hm, hQ⟩ := hsp
    have hsem : evF (semN (tbl.map (·.fn)) n) e.fn ds k := by
      have hm : (match (tbl.map (·.fn))[f]? with | some fn => evF (semN (tbl.map (·.fn)) n) fn ds k | none => False) := hm
      rw [List.getElem?_map, he] at hm
      exact hm
    obtain ⟨hdl, hb⟩ := hsem
    rw [hnn] at hb
    refine ⟨twSs _ (defBody e.st), twSs_ps _ _, ?_⟩
    have W : Wd (gOf tbl cn) (semN (tbl.map (·.fn)) n) (cxOf CX0 P w K mg base e.N e.x (defScope e.st) a cdv A outer s H E).nox := by
      refine ⟨rfl, FS.nd, rfl, S.mt, S.cn, fun f' x hx => ?_, ?_⟩
      · have hx : (tbl[f']?).map (·.x) = some x := hx
        cases he' : tbl[f']? with
        | none => rw [he'] at hx; cases hx
        | some e' =>
          rw [he'] at hx
          cases hx
          obtain ⟨a', fd', F', m', b'⟩ := S.df f' e' he'
          refine ⟨a', fd', e'.ps, n, m', F'.kp, b', hr, ?_⟩
          have q := fns S ok n f' e' he' a' fd' F'
          have e1 : (gOf tbl cn).np f' = e'.fn.np := by show ((tbl[f']?).map (·.fn.np)).getD 0 = _; rw [he']; rfl
          have e2 : (gOf tbl cn).io f' = e'.fn.io := by show ((tbl[f']?).map (·.fn.io)).getD [] = _; rw [he']; rfl
          rw [e1, e2]
          exact q
      · have := hr.un
        show (A.deeper _).units + 64 < cLine
        omega
    have SE : St K e.N.length H Ow (L2.start e.N vs) (ds.map some ++ List.replicate (e.N.length - ds.length) none) os := S0.ext (by omega)
    have hget : ∀ {σ' : L2.St} {H' : Hp} {Ow' : Addr → Prop} {os' : Os} {ρ' : Env} {outs : List D}, St K e.N.length H' Ow' σ' ρ' os' → (∀ i ∈ e.fn.io, σ'[i]? = (L2.start e.N vs)[i]?) → (∀ (j i : Nat) (d : D), e.fn.io[j]? = some i → outs[j]? = some d → gE ρ' i = some d) →
        ∀ (j i : Nat) (d : D), e.fn.io[j]? = some i → outs[j]? = some d → ∃ u, vs[i]? = some u ∧ Rep K H' Ow' d u (os' i) := fun {σ' H' Ow' os' ρ' outs} S' hp ho j i d e1 e2 => by
      obtain ⟨v, q, r⟩ := S'.rep i d (ho j i d e1 e2)
      rw [hp i (List.mem_of_getElem? e1)] at q
      exact ⟨v, start_get q, r⟩
    refine agSs_ok (C := semN (tbl.map (·.fn)) n) e.fn.body (defBody e.st) h4 _ W rfl rfl (fun _ _ => rfl) (L2.start e.N vs) H _ Ow os _ _ SE hb ⟨?_, ?_, ?_, ?_⟩
    · intro σ' H' Ow' os' ρ' s' S' hp hk
      obtain ⟨outs, q1, q2⟩ := outK_of hk
      exact hQ .non outs q1 .non H' Ow' os' [] s' S'.al ⟨rfl, rfl⟩ List.nodup_nil (fun _ z => nomatch z) (hget S' hp q2) S'.nd S'.dj
    · intro v σ' H' Ow' os' o d ρ' s' S' hp r nd dj hk
      have hk : (match e.fn.own with | true => outK e.fn.io ρ' fun outs => k d outs | false => fzK d fun d' => outK e.fn.io ρ' fun outs => k d' outs) := hk
      cases hw : e.fn.own with
      | true =>
        rw [hw] at hk
        obtain ⟨outs, q1, q2⟩ := outK_of hk
        exact hQ d outs q1 v H' Ow' os' o s' S'.al r nd dj (hget S' hp q2) S'.nd S'.dj
      | false =>
        rw [hw] at hk
        obtain ⟨outs, q1, q2⟩ := outK_of (fzK_eq hk)
        have S2 : St K e.N.length H' (Tr.minus Ow' o) σ' ρ' os' := S'.minus dj
        exact hQ (freeze d) outs q1 v H' (Tr.minus Ow' o) os' [] (s'.minus SE.al) S2.al (Rep.freeze (fun b x e no z => no z.1) d v o (fun b hb z => z.2 hb) r) List.nodup_nil (fun _ z => nomatch z) (hget S2 hp q2) S2.nd S2.dj
    · exact fun _ _ _ _ _ _ _ _ h => False.elim h
    · exact fun _ _ _ _ _ _ _ _ h => False.elim h
end
/-- the law's row -/
theorem walk_tr {l : PySem.W.OpenLaw} {q : Program} {loose : List Str} {XP : (Str → Option Value) → Heap → Prop} {YP : World → Heap → Prop} {d : DefRec} {K : Params → PySem.W.Frag} {tbl : List De} {cn : Str → Option Cst} {n f : Nat} {e : De}
    (hn : l.most = some 63) (hdf : d.params.defaults = []) (hY : ∀ (w : World) (h : Heap), YP w h → (K w.params).In h)
    (hf : tbl[f]? = some e) (hx : e.x = d.name) (hps : e.ps = [("script" : Str)]) (hio : e.fn.io = []) (hnp : e.fn.np = 1) (ok : tbl.all (okE (gOf tbl cn)) = true) (hr : Room n callerA)
    (F : ∀ (w : World) (mg : Str → Option Value) (fa : Addr) (h : Heap), (K w.params).In h → h.Ns mainGlobals mg → XP mg h → mg d.name = some (.ref fa) →
      Stan (K w.params) mg tbl cn ∧ ∃ fd : FuncData, Fun (K w.params) e.x e.x e.st fa fd ∧ (∀ (s : Shared) (u : Value), BindsTo s fd ⟨[u], []⟩ [("script", u)]))
    (main : ∀ ns : List Int, ns.length ≤ 63 → semN (tbl.map (·.fn)) n f [.scr (ns.map D.int)] fun r _ => r = .bl true) :
    PySem.W.WalkO q loose XP YP l.row.toRowW d [] (fun f vs => PySem.call f vs) := by
  refine Att.attach_call hn hdf fun w s₀ s₁ mg mb fa o pm cd doc a vs ns G Y ho hd hcd hmg hobj hints hlen hg => ?_
  have KX := hY w _ Y
  obtain ⟨S, fd, FF, hb⟩ := F w mg fa _ KX G.T.g G.X hmg
  refine law_call (k := n) (CX := CX0) (x := "script") (sp := spF (K w.params) e.fn.np e.fn.io (semN (tbl.map (·.fn)) n f)) KX G.T.g G.T.b G.T.builtins G.T.nolimit hg hobj hints (Nat.le_trans hlen (by decide)) hr (fun base _ _ => by
    have q := fns (P := l.prog) (w := w) (base := base) S ok n f e hf fa fd FF
    rw [hps] at q
    exact q) hb (fun H hO hS => ?_) fun H e s' h => h
  rw [hio, hnp]
  refine ⟨rfl, [.scr (ns.map D.int)], fun _ => False, fun _ => [], fun r _ => r = .bl true, ⟨rfl, rfl, fun i d e => ?_, fun _ _ => rfl, fun _ => List.nodup_nil, fun _ _ _ h _ => (nomatch h), fun _ h => False.elim h⟩, fun _ _ => rfl, main ns hlen, fun r outs hr v H' Ow' os' o _ _ rr _ _ _ _ _ => ?_⟩
  · cases i with
    | zero =>
      cases e
      exact ⟨.ref a, rfl, a, ns.map V.int, rfl, hS.imp (fun z => ⟨z, id⟩) id, repL_of_ints ns, rfl⟩
    | succ i => cases e
  · have hr : r = .bl true := hr
    subst hr
    exact rr.1
end Tr

set_option maxRecDepth 100000
set_option maxHeartbeats 8000000
/-! The code table of this law, as gen.py prints it from the linked text. -/
namespace Tr
open PySem PySem.Spec PyProof.Rows L2
abbrev topS (j : Nat) : Stmt := PySem.Challenge.pw_trudge_k07_whole_ups_and_downs_so_many_t.main.body.getD j (.Pass ⟨0, 0, 0, 0⟩)
@[reducible] def fx_is_whole : Nat := 0
@[reducible] def fx_is_effect : Nat := 1
@[reducible] def fx_passed : Nat := 2
@[reducible] def fx_joined : Nat := 3
@[reducible] def fx_effect_of : Nat := 4
@[reducible] def fx_repeated : Nat := 5
@[reducible] def fx_changes_by : Nat := 6
@[reducible] def fx_mirrored : Nat := 7
@[reducible] def fx_turned_land : Nat := 8
@[reducible] def fx_stepped : Nat := 9
@[reducible] def fx_levels_along : Nat := 10
@[reducible] def fx_part_end : Nat := 11
@[reducible] def fx_end_of : Nat := 12
@[reducible] def fx_length_of : Nat := 13
@[reducible] def fx_part_effect : Nat := 14
@[reducible] def fx_effect_by : Nat := 15
@[reducible] def fx_arrival : Nat := 16
@[reducible] def fx_backward : Nat := 17
@[reducible] def fx__law_bag : Nat := 18
@[reducible] def fx__law_take : Nat := 19
@[reducible] def fx__law_some : Nat := 20
@[reducible] def fx__law_kind : Nat := 21
@[reducible] def fx__law_alike : Nat := 22
@[reducible] def fx__law_number : Nat := 23
@[reducible] def fx__law_along : Nat := 24
@[reducible] def fx__law_comb : Nat := 25
@[reducible] def fx__law_row : Nat := 26
@[reducible] def fx__law_both : Nat := 27
@[reducible] def fx__law_past : Nat := 28
@[reducible] def fx__law_fits : Nat := 29
@[reducible] def fx__law_levels : Nat := 30
@[reducible] def fx__law_effect_right : Nat := 31
@[reducible] def fx__law_comb_right : Nat := 32
@[reducible] def fx__law_trip_right : Nat := 33
@[reducible] def fx_law : Nat := 34
/-- is_whole(thing); names: 0 thing -/
@[reducible] def fn_is_whole : Fn := ⟨1, 1, [], false,
  (.cons (.ret (.and (.isi (.var 0) .int) (.not (.isi (.var 0) .bool)))) .nil)⟩
/-- is_effect(store, thing); names: 0 store, 1 thing, 2 least, 3 gain, 4 top, 5 number -/
@[reducible] def fn_is_effect : Fn := ⟨2, 6, [], false,
  (.cons (.iff (.or (.not (.isi (.var 1) .tuple)) (.cmp .ne (.bi .len (.cons (.var 1) .nil)) (.cst (.int 3)))) (
    (.cons (.ret (.cst (.bl false))) .nil)) (.nil)) 
  (.cons (.iff (.not (.bi .all (.cons (.comp [5] (.nm 5) (.list (.var 1)) .none (.call fx_is_whole (.val (.var 5) .nil))) .nil))) (
    (.cons (.ret (.cst (.bl false))) .nil)) (.nil)) 
  (.cons (.asgT [(.nm 2), (.nm 3), (.nm 4)] (.var 1)) 
  (.cons (.iff (.or (.not (.chain .le .le (.cst (.int 0)) (.var 2) (.var 0))) (.not (.chain .le .le (.cst (.int 0)) (.var 4) (.var 0)))) (
    (.cons (.ret (.cst (.bl false))) .nil)) (.nil)) 
  (.cons (.ret (.and (.cmp .ge (.bin .add (.var 2) (.var 3)) (.cst (.int 0))) (.cmp .le (.var 4) (.bin .add (.var 0) (.var 3))))) .nil)))))⟩
/-- passed(effect, level); names: 0 effect, 1 level, 2 least, 3 gain, 4 top -/
@[reducible] def fn_passed : Fn := ⟨2, 5, [], false,
  (.cons (.asgT [(.nm 2), (.nm 3), (.nm 4)] (.var 0)) 
  (.cons (.iff (.cmp .lt (.var 1) (.var 2)) (
    (.cons (.ret (.cst .non)) .nil)) (.nil)) 
  (.cons (.ret (.bi .min (.cons (.bin .add (.var 1) (.var 3)) (.cons (.var 4) .nil)))) .nil)))⟩
/-- joined(one, other); names: 0 one, 1 other, 2 least -/
@[reducible] def fn_joined : Fn := ⟨2, 3, [], false,
  (.cons (.iff (.cmp .lt (.fld (.var 0) 2) (.fld (.var 1) 0)) (
    (.cons (.ret (.cst .non)) .nil)) (.nil)) 
  (.cons (.asg 2 (.bi .max (.cons (.fld (.var 0) 0) (.cons (.bin .sub (.fld (.var 1) 0) (.fld (.var 0) 1)) .nil)))) 
  (.cons (.ret (.tup (.cons (.var 2) (.cons (.bin .add (.fld (.var 0) 1) (.fld (.var 1) 1)) (.cons (.bi .min (.cons (.bin .add (.fld (.var 0) 2) (.fld (.var 1) 1)) (.cons (.fld (.var 1) 2) .nil))) .nil))))) .nil)))⟩
/-- effect_of(store, changes); names: 0 store, 1 changes, 2 effect, 3 change -/
@[reducible] def fn_effect_of : Fn := ⟨2, 4, [], false,
  (.cons (.asg 2 (.tup (.cons (.cst (.int 0)) (.cons (.cst (.int 0)) (.cons (.var 0) .nil))))) 
  (.cons (.for_ (.nm 3) (.list (.var 1)) (
    (.cons (.iff (.cmp .lt (.bin .add (.var 0) (.var 3)) (.cst (.int 0))) (
      (.cons (.ret (.cst .non)) .nil)) (.nil)) 
    (.cons (.asg 2 (.call fx_joined (.val (.var 2) (.val (.tup (.cons (.bi .max (.cons (.cst (.int 0)) (.cons (.bin .sub (.cst (.int 0)) (.var 3)) .nil))) (.cons (.var 3) (.cons (.bi .min (.cons (.var 0) (.cons (.bin .add (.var 0) (.var 3)) .nil))) .nil)))) .nil)))) 
    (.cons (.iff (.cmp .is (.var 2) (.cst .non)) (
      (.cons (.ret (.cst .non)) .nil)) (.nil)) .nil))))) 
  (.cons (.ret (.var 2)) .nil)))⟩
/-- repeated(store, effect, times); names: 0 store, 1 effect, 2 times, 3 more, 4 least, 5 gain, 6 top -/
@[reducible] def fn_repeated : Fn := ⟨3, 7, [], false,
  (.cons (.iff (.cmp .eq (.var 2) (.cst (.int 0))) (
    (.cons (.ret (.tup (.cons (.cst (.int 0)) (.cons (.cst (.int 0)) (.cons (.var 0) .nil))))) .nil)) (.nil)) 
  (.cons (.asgT [(.nm 4), (.nm 5), (.nm 6)] (.var 1)) 
  (.cons (.asg 3 (.bin .sub (.var 2) (.cst (.int 1)))) 
  (.cons (.iff (.cmp .ge (.var 5) (.cst (.int 0))) (
    (.cons (.iff (.and (.cmp .gt (.var 3) (.cst (.int 0))) (.cmp .lt (.var 6) (.var 4))) (
      (.cons (.ret (.cst .non)) .nil)) (.nil)) 
    (.cons (.ret (.tup (.cons (.var 4) (.cons (.bin .mul (.var 2) (.var 5)) (.cons (.var 6) .nil))))) .nil))) (.nil)) 
  (.cons (.iff (.and (.cmp .gt (.var 3) (.cst (.int 0))) (.cmp .lt (.bin .add (.var 6) (.bin .mul (.bin .sub (.var 3) (.cst (.int 1))) (.var 5))) (.var 4))) (
    (.cons (.ret (.cst .non)) .nil)) (.nil)) 
  (.cons (.ret (.tup (.cons (.bin .sub (.var 4) (.bin .mul (.var 3) (.var 5))) (.cons (.bin .mul (.var 2) (.var 5)) (.cons (.bin .add (.var 6) (.bin .mul (.var 3) (.var 5))) .nil))))) .nil))))))⟩
/-- changes_by(store, effect); names: 0 store, 1 effect, 2 least, 3 gain, 4 top -/
@[reducible] def fn_changes_by : Fn := ⟨2, 5, [], false,
  (.cons (.asgT [(.nm 2), (.nm 3), (.nm 4)] (.var 1)) 
  (.cons (.ret (.lst (.cons (.bin .sub (.cst (.int 0)) (.var 2)) (.cons (.bin .sub (.bin .add (.bin .add (.var 3) (.var 2)) (.var 0)) (.var 4)) (.cons (.bin .sub (.var 4) (.var 0)) .nil))))) .nil))⟩
/-- mirrored(store, effect); names: 0 store, 1 effect, 2 least, 3 gain, 4 top -/
@[reducible] def fn_mirrored : Fn := ⟨2, 5, [], false,
  (.cons (.asgT [(.nm 2), (.nm 3), (.nm 4)] (.var 1)) 
  (.cons (.ret (.tup (.cons (.bin .sub (.var 0) (.var 4)) (.cons (.var 3) (.cons (.bin .sub (.var 0) (.var 2)) .nil))))) .nil))⟩
/-- turned_land(land); names: 0 land, 1 start, 2 end, 3 change -/
@[reducible] def fn_turned_land : Fn := ⟨1, 4, [], false,
  (.cons (.ret (.tup (.cons (.fld (.var 0) 0) (.cons (.comp [1, 2, 3] (.tup [(.nm 1), (.nm 2), (.nm 3)]) (.list (.fld (.var 0) 1)) .none (.tup (.cons (.var 2) (.cons (.var 1) (.cons (.var 3) .nil))))) .nil)))) .nil)⟩
/-- stepped(store, level, change); names: 0 store, 1 level, 2 change, 3 behind -/
@[reducible] def fn_stepped : Fn := ⟨3, 4, [], false,
  (.cons (.asg 3 (.bin .add (.var 1) (.var 2))) 
  (.cons (.iff (.cmp .lt (.var 3) (.cst (.int 0))) (
    (.cons (.ret (.cst .non)) .nil)) (.nil)) 
  (.cons (.ret (.bi .min (.cons (.var 0) (.cons (.var 3) .nil)))) .nil)))⟩
/-- levels_along(store, level, changes); names: 0 store, 1 level, 2 changes, 3 levels, 4 change -/
@[reducible] def fn_levels_along : Fn := ⟨3, 5, [], false,
  (.cons (.asg 3 (.lst (.cons (.var 1) .nil))) 
  (.cons (.for_ (.nm 4) (.list (.var 2)) (
    (.cons (.asg 1 (.call fx_stepped (.val (.var 0) (.val (.var 1) (.val (.var 4) .nil))))) 
    (.cons (.iff (.cmp .is (.var 1) (.cst .non)) (
      (.cons (.ret (.var 3)) .nil)) (.nil)) 
    (.cons (.app 3 (.var 1)) .nil))))) 
  (.cons (.ret (.var 3)) .nil)))⟩
/-- part_end(land, place, part); names: 0 land, 1 place, 2 part, 3 here, 4 number, 5 numbers, 6 times -/
@[reducible] def fn_part_end : Fn := ⟨3, 7, [], false,
  (.cons (.asgT [(.nm 5), (.nm 6)] (.var 2)) 
  (.cons (.iff (.or (.cmp .eq (.var 5) (.lst .nil)) (.not (.chain .le .le (.cst (.int 1)) (.var 6) (.glob "MOST_TIMES" (.int 1000000000000000000000000))))) (
    (.cons (.ret (.cst .non)) .nil)) (.nil)) 
  (.cons (.asg 3 (.var 1)) 
  (.cons (.for_ (.nm 4) (.list (.var 5)) (
    (.cons (.iff (.or (.not (.chain .le .lt (.cst (.int 0)) (.var 4) (.bi .len (.cons (.fld (.var 0) 1) .nil)))) (.cmp .ne (.fld (.idx (.fld (.var 0) 1) (.var 4)) 0) (.var 3))) (
      (.cons (.ret (.cst .non)) .nil)) (.nil)) 
    (.cons (.asg 3 (.fld (.idx (.fld (.var 0) 1) (.var 4)) 1)) .nil)))) 
  (.cons (.iff (.and (.cmp .gt (.var 6) (.cst (.int 1))) (.cmp .ne (.var 3) (.var 1))) (
    (.cons (.ret (.cst .non)) .nil)) (.nil)) 
  (.cons (.ret (.var 3)) .nil))))))⟩
/-- end_of(land, place, trip); names: 0 land, 1 place, 2 trip, 3 at, 4 part -/
@[reducible] def fn_end_of : Fn := ⟨3, 5, [], false,
  (.cons (.for_ (.tup [(.nm 3), (.nm 4)]) (.enum (.var 2)) (
    (.cons (.asg 1 (.call fx_part_end (.val (.var 0) (.val (.var 1) (.val (.var 4) .nil))))) 
    (.cons (.iff (.cmp .is (.var 1) (.cst .non)) (
      (.cons .never .nil)) (.nil)) .nil)))) 
  (.cons (.ret (.var 1)) .nil))⟩
/-- length_of(land, place, trip); names: 0 land, 1 place, 2 trip, 3 numbers, 4 times -/
@[reducible] def fn_length_of : Fn := ⟨3, 5, [], false,
  (.cons (.expr (.call fx_end_of (.val (.var 0) (.val (.var 1) (.val (.var 2) .nil))))) 
  (.cons (.ret (.bi .sum (.cons (.comp [3, 4] (.tup [(.nm 3), (.nm 4)]) (.list (.var 2)) .none (.bin .mul (.bi .len (.cons (.var 3) .nil)) (.var 4))) .nil))) .nil))⟩
/-- part_effect(land, store, part); names: 0 land, 1 store, 2 part, 3 effect, 4 numbers, 5 times, 6 number -/
@[reducible] def fn_part_effect : Fn := ⟨3, 7, [], false,
  (.cons (.asgT [(.nm 4), (.nm 5)] (.var 2)) 
  (.cons (.asg 3 (.call fx_effect_of (.val (.var 1) (.val (.comp [6] (.nm 6) (.list (.var 4)) .none (.fld (.idx (.fld (.var 0) 1) (.var 6)) 2)) .nil)))) 
  (.cons (.iff (.cmp .is (.var 3) (.cst .non)) (
    (.cons (.ret (.cst .non)) .nil)) (.nil)) 
  (.cons (.ret (.call fx_repeated (.val (.var 1) (.val (.var 3) (.val (.var 5) .nil))))) .nil))))⟩
/-- effect_by(land, store, place, trip); names: 0 land, 1 store, 2 place, 3 trip, 4 whole, 5 part, 6 effect -/
@[reducible] def fn_effect_by : Fn := ⟨4, 7, [], false,
  (.cons (.expr (.call fx_end_of (.val (.var 0) (.val (.var 2) (.val (.var 3) .nil))))) 
  (.cons (.asg 4 (.tup (.cons (.cst (.int 0)) (.cons (.cst (.int 0)) (.cons (.var 1) .nil))))) 
  (.cons (.for_ (.nm 5) (.list (.var 3)) (
    (.cons (.asg 6 (.call fx_part_effect (.val (.var 0) (.val (.var 1) (.val (.var 5) .nil))))) 
    (.cons (.iff (.cmp .is (.var 6) (.cst .non)) (
      (.cons (.ret (.cst .non)) .nil)) (.nil)) 
    (.cons (.asg 4 (.call fx_joined (.val (.var 4) (.val (.var 6) .nil)))) 
    (.cons (.iff (.cmp .is (.var 4) (.cst .non)) (
      (.cons (.ret (.cst .non)) .nil)) (.nil)) .nil)))))) 
  (.cons (.ret (.var 4)) .nil))))⟩
/-- arrival(land, store, place, level, trip); names: 0 land, 1 store, 2 place, 3 level, 4 trip, 5 effect -/
@[reducible] def fn_arrival : Fn := ⟨5, 6, [], false,
  (.cons (.asg 5 (.call fx_effect_by (.val (.var 0) (.val (.var 1) (.val (.var 2) (.val (.var 4) .nil)))))) 
  (.cons (.iff (.cmp .is (.var 5) (.cst .non)) (
    (.cons (.ret (.cst .non)) .nil)) (.nil)) 
  (.cons (.ret (.call fx_passed (.val (.var 5) (.val (.var 3) .nil)))) .nil)))⟩
/-- backward(trip); names: 0 trip, 1 numbers, 2 times -/
@[reducible] def fn_backward : Fn := ⟨1, 3, [], false,
  (.cons (.ret (.comp [1, 2] (.tup [(.nm 1), (.nm 2)]) (.list (.rev (.var 0))) .none (.tup (.cons (.rev (.var 1)) (.cons (.var 2) .nil))))) .nil)⟩
/-- _law_bag(script); names: 0 script, 1 cell -/
@[reducible] def fn__law_bag : Fn := ⟨1, 2, [], true,
  (.cons (.ret (.lst (.cons (.cst (.int 0)) (.cons (.cst (.int 1234567891)) (.cons (.cst (.int 0)) (.cons (.comp [1] (.nm 1) (.list (.slice (.var 0) .none (.some (.cst (.int 63))))) .none (.bi .abs (.cons (.var 1) .nil))) .nil)))))) .nil)⟩
/-- _law_take(bag, many); names: 0 bag, 1 many, 2 begin, 3 second, 4 cell, 5 stirred, 6 value -/
@[reducible] def fn__law_take : Fn := ⟨2, 7, [0], false,
  (.cons (.iff (.cmp .eq (.fld (.var 0) 0) (.cst (.int 0))) (
    (.cons (.asg 4 (.fld (.bin .add (.frz (.slice (.fld (.var 0) 3) (.some (.fld (.var 0) 2)) .none)) (.lst (.cons (.cst (.int 0)) .nil))) 0)) 
    (.cons (.augF 0 2 (.cst (.int 1))) 
    (.cons (.setF 0 0 (.ite (.cmp .ge (.var 4) (.bin .pow (.cst (.int 10)) (.cst (.int 18)))) (.var 4) (.cst (.int 0)))) 
    (.cons (.asg 5 (.bin .add (.bin .add (.bin .mul (.fld (.var 0) 1) (.cst (.int 48271))) (.bin .mod (.bi .int (.cons (.var 4) .nil)) (.cst (.int 2147483647)))) (.bin .mul (.cst (.int 7919)) (.fld (.var 0) 2)))) 
    (.cons (.setF 0 1 (.bin .mod (.bi .int (.cons (.var 5) .nil)) (.cst (.int 2147483647)))) .nil)))))) (.nil)) 
  (.cons (.iff (.cmp .gt (.fld (.var 0) 0) (.cst (.int 0))) (
    (.cons (.asg 6 (.bin .mod (.bi .int (.cons (.fld (.var 0) 0) .nil)) (.var 1))) 
    (.cons (.setF 0 0 (.bin .fdiv (.bi .int (.cons (.fld (.var 0) 0) .nil)) (.var 1))) 
    (.cons (.ret (.var 6)) .nil)))) (.nil)) 
  (.cons (.asg 2 (.bin .mod (.bi .int (.cons (.bin .mul (.bin .add (.fld (.var 0) 1) (.cst (.int 1))) (.cst (.int 39373))) .nil)) (.cst (.int 1000000007)))) 
  (.cons (.asg 3 (.bin .mod (.bi .int (.cons (.bin .mul (.bin .mod (.bi .int (.cons (.bin .mul (.var 2) (.var 2)) .nil)) (.cst (.int 998244353))) (.cst (.int 30011))) .nil)) (.cst (.int 998244353)))) 
  (.cons (.ret (.bin .mod (.bi .int (.cons (.bin .fdiv (.var 3) (.cst (.int 7))) .nil)) (.var 1))) .nil)))))⟩
/-- _law_some(bag, things); names: 0 bag, 1 things -/
@[reducible] def fn__law_some : Fn := ⟨2, 2, [0], false,
  (.cons (.ret (.idx (.var 1) (.call fx__law_take (.ref 0 (.val (.bi .len (.cons (.var 1) .nil)) .nil))))) .nil)⟩
/-- _law_kind(thing); names: 0 thing, 1 found -/
@[reducible] def fn__law_kind : Fn := ⟨1, 2, [], false,
  (.cons (.asg 1 (.lst (.cons (.isi (.var 0) .bool) (.cons (.isi (.var 0) .int) (.cons (.isi (.var 0) .str) .nil))))) 
  (.cons (.asg 1 (.bin .add (.frz (.var 1)) (.lst (.cons (.isi (.var 0) .tuple) (.cons (.isi (.var 0) .list) (.cons (.isi (.var 0) .dict) .nil)))))) 
  (.cons (.ret (.ite (.cmp .isin (.cst (.bl true)) (.var 1)) (.index (.var 1) (.cst (.bl true))) (.neg (.cst (.int 1))))) .nil)))⟩
/-- _law_alike(found, due); names: 0 found, 1 due, 2 pairs, 3 at, 4 one, 5 other, 6 name -/
@[reducible] def fn__law_alike : Fn := ⟨2, 7, [], false,
  (.cons (.par2 2 3 (.lst (.cons (.tup (.cons (.var 0) (.cons (.var 1) .nil))) .nil)) (.cst (.int 0))) 
  (.cons (.whl (.cmp .lt (.var 3) (.bi .len (.cons (.var 2) .nil))) (
    (.cons (.asgT [(.nm 4), (.nm 5)] (.idx (.var 2) (.var 3))) 
    (.cons (.aug 3 (.cst (.int 1))) 
    (.cons (.iff (.cmp .ne (.call fx__law_kind (.val (.var 4) .nil)) (.call fx__law_kind (.val (.var 5) .nil))) (
      (.cons (.ret (.cst (.bl false))) .nil)) (.nil)) 
    (.cons (.iff (.isi2 (.var 4) .tuple .list) (
      (.cons (.iff (.cmp .ne (.bi .len (.cons (.var 4) .nil)) (.bi .len (.cons (.var 5) .nil))) (
        (.cons (.ret (.cst (.bl false))) .nil)) (.nil)) 
      (.cons (.ext 2 (.zipl (.var 4) (.var 5))) .nil))) (
      (.cons (.iff (.isi (.var 4) .dict) ((.cons .never (.cons .never .nil))) (
        (.cons (.iff (.cmp .ne (.var 4) (.var 5)) (
          (.cons (.ret (.cst (.bl false))) .nil)) (.nil)) .nil))) .nil))) .nil)))))) 
  (.cons (.ret (.cst (.bl true))) .nil)))⟩
/-- _law_number(bag, most); names: 0 bag, 1 most, 2 value, 3 again -/
@[reducible] def fn__law_number : Fn := ⟨2, 4, [0], false,
  (.cons (.asg 2 (.call fx__law_take (.ref 0 (.val (.bin .pow (.cst (.int 10)) (.cst (.int 8))) .nil)))) 
  (.cons (.for_ (.nm 3) (.range1 (.cst (.int 2))) (
    (.cons (.asg 2 (.bin .add (.bin .mul (.var 2) (.cst (.int 100000007))) (.call fx__law_take (.ref 0 (.val (.bin .pow (.cst (.int 10)) (.cst (.int 8))) .nil))))) .nil))) 
  (.cons (.ret (.bin .mod (.bi .int (.cons (.var 2) .nil)) (.bin .add (.var 1) (.cst (.int 1))))) .nil)))⟩
/-- _law_along(store, level, row); names: 0 store, 1 level, 2 row, 3 found, 4 change -/
@[reducible] def fn__law_along : Fn := ⟨3, 5, [], false,
  (.cons (.asg 3 (.lst (.cons (.var 1) .nil))) 
  (.cons (.for_ (.nm 4) (.list (.var 2)) (
    (.cons (.iff (.cmp .lt (.bin .add (.last (.var 3)) (.var 4)) (.cst (.int 0))) (
      (.cons (.ret (.var 3)) .nil)) (.nil)) 
    (.cons (.app 3 (.bi .min (.cons (.var 0) (.cons (.bin .add (.last (.var 3)) (.var 4)) .nil)))) .nil)))) 
  (.cons (.ret (.var 3)) .nil)))⟩
/-- _law_comb(store, comb, many); names: 0 store, 1 comb, 2 many, 3 down, 4 up, 5 is_down_first, 6 fall, 7 gain, 8 found -/
@[reducible] def fn__law_comb : Fn := ⟨3, 9, [], false,
  (.cons (.asgT [(.nm 3), (.nm 4), (.nm 5)] (.var 1)) 
  (.cons (.par2 6 7 (.bin .sub (.var 3) (.var 4)) (.bin .mul (.var 2) (.bin .sub (.var 4) (.var 3)))) 
  (.cons (.iff (.and (.var 5) (.cmp .gt (.var 6) (.cst (.int 0)))) (
    (.cons (.asg 8 (.tup (.cons (.bin .add (.var 3) (.bin .mul (.bin .sub (.var 2) (.cst (.int 1))) (.var 6))) (.cons (.var 7) (.cons (.bin .sub (.var 0) (.bin .mul (.var 2) (.var 6))) .nil))))) 
    (.cons (.ret (.ite (.cmp .le (.fld (.var 8) 0) (.var 0)) (.var 8) (.cst .non))) .nil))) (.nil)) 
  (.cons (.iff (.var 5) (
    (.cons (.ret (.ite (.cmp .le (.var 3) (.var 0)) (.tup (.cons (.var 3) (.cons (.var 7) (.cons (.var 0) .nil)))) (.cst .non))) .nil)) (.nil)) 
  (.cons (.iff (.cmp .gt (.var 6) (.cst (.int 0))) (
    (.cons (.asg 8 (.tup (.cons (.bin .mul (.var 2) (.var 6)) (.cons (.var 7) (.cons (.bin .sub (.bin .sub (.var 0) (.var 3)) (.bin .mul (.bin .sub (.var 2) (.cst (.int 1))) (.var 6))) .nil))))) 
    (.cons (.ret (.ite (.cmp .ge (.fld (.var 8) 2) (.cst (.int 0))) (.var 8) (.cst .non))) .nil))) (.nil)) 
  (.cons (.ret (.ite (.cmp .le (.var 3) (.var 0)) (.tup (.cons (.cst (.int 0)) (.cons (.var 7) (.cons (.bin .sub (.var 0) (.var 3)) .nil)))) (.cst .non))) .nil))))))⟩
/-- _law_row(comb); names: 0 comb -/
@[reducible] def fn__law_row : Fn := ⟨1, 1, [], false,
  (.cons (.ret (.ite (.fld (.var 0) 2) (.lst (.cons (.neg (.fld (.var 0) 0)) (.cons (.fld (.var 0) 1) .nil))) (.lst (.cons (.fld (.var 0) 1) (.cons (.neg (.fld (.var 0) 0)) .nil))))) .nil)⟩
/-- _law_both(one, other); names: 0 one, 1 other -/
@[reducible] def fn__law_both : Fn := ⟨2, 2, [], false,
  (.cons (.iff (.or (.cmp .is (.var 0) (.cst .non)) (.or (.cmp .is (.var 1) (.cst .non)) (.cmp .lt (.fld (.var 0) 2) (.fld (.var 1) 0)))) (
    (.cons (.ret (.cst .non)) .nil)) (.nil)) 
  (.cons (.ret (.tup (.cons (.bi .max (.cons (.fld (.var 0) 0) (.cons (.bin .sub (.fld (.var 1) 0) (.fld (.var 0) 1)) .nil))) (.cons (.bin .add (.fld (.var 0) 1) (.fld (.var 1) 1)) (.cons (.bi .min (.cons (.fld (.var 1) 2) (.cons (.bin .add (.fld (.var 0) 2) (.fld (.var 1) 1)) .nil))) .nil))))) .nil))⟩
/-- _law_past(effect, level); names: 0 effect, 1 level -/
@[reducible] def fn__law_past : Fn := ⟨2, 2, [], false,
  (.cons (.ret (.ite (.or (.cmp .is (.var 0) (.cst .non)) (.cmp .lt (.var 1) (.fld (.var 0) 0))) (.cst .non) (.bi .min (.cons (.bin .add (.var 1) (.fld (.var 0) 1)) (.cons (.fld (.var 0) 2) .nil))))) .nil)⟩
/-- _law_fits(store, effect); names: 0 store, 1 effect, 2 low, 3 gain, 4 top -/
@[reducible] def fn__law_fits : Fn := ⟨2, 5, [], false,
  (.cons (.asgT [(.nm 2), (.nm 3), (.nm 4)] (.var 1)) 
  (.cons (.ret (.and (.chain .le .le (.cst (.int 0)) (.var 2) (.var 0)) (.and (.chain .le .le (.cst (.int 0)) (.var 4) (.var 0)) (.and (.cmp .ge (.bin .add (.var 2) (.var 3)) (.cst (.int 0))) (.cmp .le (.var 4) (.bin .add (.var 0) (.var 3))))))) .nil))⟩
/-- _law_levels(bag, store, effect); names: 0 bag, 1 store, 2 effect, 3 some, 4 number, 5 level -/
@[reducible] def fn__law_levels : Fn := ⟨3, 6, [0], false,
  (.cons (.asg 3 (.lst (.cons (.cst (.int 0)) (.cons (.var 1) (.cons (.call fx__law_number (.ref 0 (.val (.var 1) .nil))) .nil))))) 
  (.cons (.for_ (.nm 4) (.list (.ite (.cmp .isnot (.var 2) (.cst .non)) (.var 2) (.tup .nil))) (
    (.cons (.asg 3 (.bin .add (.frz (.var 3)) (.lst (.cons (.bin .sub (.var 4) (.cst (.int 1))) (.cons (.var 4) (.cons (.bin .add (.var 4) (.cst (.int 1))) .nil)))))) .nil))) 
  (.cons (.ret (.comp [5] (.nm 5) (.list (.var 3)) (.some (.chain .le .le (.cst (.int 0)) (.var 5) (.var 1))) (.var 5))) .nil)))⟩
/-- _law_effect_right(bag, store, due, effect); names: 0 bag, 1 store, 2 due, 3 effect, 4 back, 5 told, 6 row, 7 at, 8 worse, 9 levels, 10 level -/
@[reducible] def fn__law_effect_right : Fn := ⟨4, 11, [0], false,
  (.cons (.iff (.not (.call fx__law_alike (.val (.var 3) (.val (.var 2) .nil)))) (
    (.cons (.ret (.cst (.bl false))) .nil)) (.nil)) 
  (.cons (.iff (.cmp .is (.var 2) (.cst .non)) (
    (.cons (.ret (.cst (.bl true))) .nil)) (.nil)) 
  (.cons (.asg 4 (.tup (.cons (.bin .sub (.var 1) (.fld (.var 2) 2)) (.cons (.fld (.var 2) 1) (.cons (.bin .sub (.var 1) (.fld (.var 2) 0)) .nil))))) 
  (.cons (.asg 5 (.lst (.cons (.call fx_is_effect (.val (.var 1) (.val (.var 2) .nil))) (.cons (.call fx_mirrored (.val (.var 1) (.val (.var 2) .nil))) (.cons (.call fx_mirrored (.val (.var 1) (.val (.var 4) .nil))) (.cons (.call fx_changes_by (.val (.var 1) (.val (.var 2) .nil))) .nil)))))) 
  (.cons (.asg 6 (.lst (.cons (.neg (.fld (.var 2) 0)) (.cons (.bin .sub (.bin .add (.bin .add (.fld (.var 2) 1) (.fld (.var 2) 0)) (.var 1)) (.fld (.var 2) 2)) (.cons (.bin .sub (.fld (.var 2) 2) (.var 1)) .nil))))) 
  (.cons (.iff (.not (.call fx__law_alike (.val (.bin .add (.frz (.var 5)) (.lst (.cons (.call fx_effect_of (.val (.var 1) (.val (.var 6) .nil))) .nil))) (.val (.lst (.cons (.cst (.bl true)) (.cons (.var 4) (.cons (.var 2) (.cons (.var 6) (.cons (.var 2) .nil)))))) .nil)))) (
    (.cons (.ret (.cst (.bl false))) .nil)) (.nil)) 
  (.cons (.asg 7 (.call fx__law_take (.ref 0 (.val (.cst (.int 3)) .nil)))) 
  (.cons (.asg 8 (.bin .add (.bin .add (.frz (.slice (.var 2) .none (.some (.var 7)))) (.tup (.cons (.bin .add (.idx (.var 2) (.var 7)) (.call fx__law_some (.ref 0 (.val (.lst (.cons (.neg (.cst (.int 1))) (.cons (.cst (.int 1)) (.cons (.var 1) (.cons (.neg (.var 1)) .nil))))) .nil)))) .nil))) (.slice (.var 2) (.some (.bin .add (.var 7) (.cst (.int 1)))) .none))) 
  (.cons (.asg 9 (.call fx__law_levels (.ref 0 (.val (.var 1) (.val (.var 2) .nil))))) 
  (.cons (.asg 5 (.bin .add (.frz (.lst (.cons (.call fx_is_effect (.val (.var 1) (.val (.var 8) .nil))) (.cons (.call fx_is_effect (.val (.var 1) (.val (.bi .list (.cons (.var 2) .nil)) .nil))) .nil)))) (.comp [10] (.nm 10) (.list (.var 9)) .none (.call fx_passed (.val (.var 2) (.val (.var 10) .nil)))))) 
  (.cons (.ret (.call fx__law_alike (.val (.var 5) (.val (.bin .add (.frz (.lst (.cons (.call fx__law_fits (.val (.var 1) (.val (.var 8) .nil))) (.cons (.cst (.bl false)) .nil)))) (.comp [10] (.nm 10) (.list (.var 9)) .none (.call fx__law_past (.val (.var 2) (.val (.var 10) .nil))))) .nil)))) .nil)))))))))))⟩
/-- _law_comb_right(bag, store, comb, many); names: 0 bag, 1 store, 2 comb, 3 many, 4 once, 5 told, 6 few, 7 whole, 8 level, 9 along, 10 first, 11 row, 12 due -/
@[reducible] def fn__law_comb_right : Fn := ⟨4, 13, [0], false,
  (.cons (.par2 11 12 (.call fx__law_row (.val (.var 2) .nil)) (.call fx__law_comb (.val (.var 1) (.val (.var 2) (.val (.var 3) .nil))))) 
  (.cons (.asg 4 (.call fx_effect_of (.val (.var 1) (.val (.var 11) .nil)))) 
  (.cons (.iff (.not (.call fx__law_effect_right (.ref 0 (.val (.var 1) (.val (.call fx__law_comb (.val (.var 1) (.val (.var 2) (.val (.cst (.int 1)) .nil)))) (.val (.var 4) .nil)))))) (
    (.cons (.ret (.cst (.bl false))) .nil)) (.nil)) 
  (.cons (.asg 5 (.ite (.cmp .isnot (.var 4) (.cst .non)) (.call fx_repeated (.val (.var 1) (.val (.var 4) (.val (.var 3) .nil)))) (.cst .non))) 
  (.cons (.iff (.not (.call fx__law_effect_right (.ref 0 (.val (.var 1) (.val (.var 12) (.val (.var 5) .nil)))))) (
    (.cons (.ret (.cst (.bl false))) .nil)) (.nil)) 
  (.cons (.asg 6 (.bin .add (.cst (.int 1)) (.call fx__law_take (.ref 0 (.val (.cst (.int 40)) .nil))))) 
  (.cons (.asg 7 (.bin .mul (.var 11) (.var 6))) 
  (.cons (.iff (.not (.call fx__law_effect_right (.ref 0 (.val (.var 1) (.val (.call fx__law_comb (.val (.var 1) (.val (.var 2) (.val (.var 6) .nil)))) (.val (.call fx_effect_of (.val (.var 1) (.val (.var 7) .nil))) .nil)))))) (
    (.cons (.ret (.cst (.bl false))) .nil)) (.nil)) 
  (.cons (.asg 8 (.call fx__law_number (.ref 0 (.val (.var 1) .nil)))) 
  (.cons (.asg 9 (.call fx_levels_along (.val (.var 1) (.val (.var 8) (.val (.var 7) .nil))))) 
  (.cons (.iff (.not (.call fx__law_alike (.val (.var 9) (.val (.call fx__law_along (.val (.var 1) (.val (.var 8) (.val (.var 7) .nil)))) .nil)))) (
    (.cons (.ret (.cst (.bl false))) .nil)) (.nil)) 
  (.cons (.asg 10 (.bin .add (.var 8) (.fld (.var 11) 0))) 
  (.cons (.ret (.call fx__law_alike (.val (.call fx_stepped (.val (.var 1) (.val (.var 8) (.val (.fld (.var 11) 0) .nil)))) (.val (.ite (.cmp .ge (.var 10) (.cst (.int 0))) (.bi .min (.cons (.var 1) (.cons (.var 10) .nil))) (.cst .non)) .nil)))) .nil)))))))))))))⟩
/-- _law_trip_right(bag, store, combs, parts); names: 0 bag, 1 store, 2 combs, 3 parts, 4 changes, 5 comb, 6 land, 7 told, 8 turned, 9 levels, 10 trip, 11 due, 12 back, 13 whole, 14 at, 15 many, 16 change, 17 level -/
@[reducible] def fn__law_trip_right : Fn := ⟨4, 18, [0], false,
  (.cons (.asg 4 (.lst .nil)) 
  (.cons (.for_ (.nm 5) (.list (.var 2)) (
    (.cons (.asg 4 (.bin .add (.frz (.var 4)) (.call fx__law_row (.val (.var 5) .nil)))) .nil))) 
  (.cons (.asg 6 (.tup (.cons (.cst (.int 1)) (.cons (.comp [16] (.nm 16) (.list (.var 4)) .none (.tup (.cons (.cst (.int 0)) (.cons (.cst (.int 0)) (.cons (.var 16) .nil))))) .nil)))) 
  (.cons (.asgT [(.nm 10), (.nm 11), (.nm 12), (.nm 13)] (.tup (.cons (.lst .nil) (.cons (.tup (.cons (.cst (.int 0)) (.cons (.cst (.int 0)) (.cons (.var 1) .nil)))) (.cons (.lst .nil) (.cons (.cst (.int 0)) .nil)))))) 
  (.cons (.for_ (.tup [(.nm 14), (.nm 15)]) (.list (.var 3)) (
    (.cons (.app 10 (.tup (.cons (.lst (.cons (.bin .mul (.cst (.int 2)) (.var 14)) (.cons (.bin .add (.bin .mul (.cst (.int 2)) (.var 14)) (.cst (.int 1))) .nil))) (.cons (.var 15) .nil)))) 
    (.cons (.asg 12 (.bin .add (.frz (.lst (.cons (.tup (.cons (.lst (.cons (.bin .add (.bin .mul (.cst (.int 2)) (.var 14)) (.cst (.int 1))) (.cons (.bin .mul (.cst (.int 2)) (.var 14)) .nil))) (.cons (.var 15) .nil))) .nil))) (.var 12))) 
    (.cons (.asgT [(.nm 11), (.nm 13)] (.tup (.cons (.call fx__law_both (.val (.var 11) (.val (.call fx__law_comb (.val (.var 1) (.val (.idx (.var 2) (.var 14)) (.val (.var 15) .nil)))) .nil))) (.cons (.bin .add (.var 13) (.bin .mul (.cst (.int 2)) (.var 15))) .nil)))) .nil))))) 
  (.cons (.asg 7 (.lst (.cons (.call fx_effect_by (.val (.var 6) (.val (.var 1) (.val (.cst (.int 0)) (.val (.var 10) .nil))))) (.cons (.call fx_length_of (.val (.var 6) (.val (.cst (.int 0)) (.val (.var 10) .nil)))) (.cons (.call fx_end_of (.val (.var 6) (.val (.cst (.int 0)) (.val (.var 10) .nil)))) (.cons (.call fx_backward (.val (.var 10) .nil)) .nil)))))) 
  (.cons (.iff (.not (.call fx__law_alike (.val (.var 7) (.val (.lst (.cons (.var 11) (.cons (.var 13) (.cons (.cst (.int 0)) (.cons (.var 12) .nil))))) .nil)))) (
    (.cons (.ret (.cst (.bl false))) .nil)) (.nil)) 
  (.cons (.asg 8 (.ite (.cmp .is (.var 11) (.cst .non)) (.cst .non) (.tup (.cons (.bin .sub (.var 1) (.fld (.var 11) 2)) (.cons (.fld (.var 11) 1) (.cons (.bin .sub (.var 1) (.fld (.var 11) 0)) .nil)))))) 
  (.cons (.iff (.not (.call fx__law_alike (.val (.call fx_effect_by (.val (.call fx_turned_land (.val (.var 6) .nil)) (.val (.var 1) (.val (.cst (.int 0)) (.val (.var 12) .nil))))) (.val (.var 8) .nil)))) (
    (.cons (.ret (.cst (.bl false))) .nil)) (.nil)) 
  (.cons (.asg 9 (.call fx__law_levels (.ref 0 (.val (.var 1) (.val (.var 11) .nil))))) 
  (.cons (.ret (.call fx__law_alike (.val (.comp [17] (.nm 17) (.list (.var 9)) .none (.call fx_arrival (.val (.var 6) (.val (.var 1) (.val (.cst (.int 0)) (.val (.var 17) (.val (.var 10) .nil))))))) (.val (.comp [17] (.nm 17) (.list (.var 9)) .none (.call fx__law_past (.val (.var 11) (.val (.var 17) .nil)))) .nil)))) .nil)))))))))))⟩
/-- law(script); names: 0 script, 1 bag, 2 again, 3 scale, 4 store, 5 combs, 6 one, 7 counts, 8 comb, 9 parts, 10 down, 11 near, 12 other, 13 part -/
@[reducible] def fn_law : Fn := ⟨1, 14, [], false,
  (.cons (.asg 1 (.call fx__law_bag (.val (.var 0) .nil))) 
  (.cons (.for_ (.nm 2) (.range1 (.cst (.int 3))) (
    (.cons (.asg 3 (.call fx__law_some (.ref 1 (.val (.lst (.cons (.cst (.int 4)) (.cons (.cst (.int 40)) (.cons (.bin .pow (.cst (.int 10)) (.cst (.int 6))) (.cons (.bin .pow (.cst (.int 10)) (.cst (.int 18))) .nil))))) .nil)))) 
    (.cons (.asg 4 (.call fx__law_some (.ref 1 (.val (.lst (.cons (.var 3) (.cons (.call fx__law_number (.ref 1 (.val (.bin .mul (.cst (.int 4)) (.var 3)) .nil))) (.cons (.call fx__law_number (.ref 1 (.val (.bin .pow (.cst (.int 10)) (.cst (.int 20))) .nil))) (.cons (.cst (.int 0)) .nil))))) .nil)))) 
    (.cons (.asg 5 (.lst .nil)) 
    (.cons (.for_ (.nm 6) (.range1 (.cst (.int 3))) (
      (.cons (.asg 10 (.call fx__law_number (.ref 1 (.val (.bi .min (.cons (.var 3) (.cons (.bin .add (.var 4) (.cst (.int 2))) .nil))) .nil)))) 
      (.cons (.asg 11 (.bi .max (.cons (.cst (.int 0)) (.cons (.bi .min (.cons (.var 3) (.cons (.bin .sub (.bin .add (.frz (.var 10)) (.call fx__law_take (.ref 1 (.val (.cst (.int 5)) .nil)))) (.cst (.int 2))) .nil))) .nil)))) 
      (.cons (.app 5 (.tup (.cons (.var 10) (.cons (.call fx__law_some (.ref 1 (.val (.lst (.cons (.var 11) (.cons (.call fx__law_number (.ref 1 (.val (.var 3) .nil))) .nil))) .nil))) (.cons (.cmp .eq (.call fx__law_take (.ref 1 (.val (.cst (.int 2)) .nil))) (.cst (.int 0))) .nil))))) .nil))))) 
    (.cons (.asg 7 (.lst (.cons (.cst (.int 1)) (.cons (.bin .add (.cst (.int 1)) (.call fx__law_take (.ref 1 (.val (.cst (.int 9)) .nil)))) (.cons (.bin .add (.cst (.int 1)) (.call fx__law_number (.ref 1 (.val (.bin .mul (.cst (.int 4)) (.var 3)) .nil)))) (.cons (.bin .add (.cst (.int 1)) (.call fx__law_number (.ref 1 (.val (.bin .sub (.bin .pow (.cst (.int 10)) (.cst (.int 24))) (.cst (.int 1))) .nil)))) .nil)))))) 
    (.cons (.for_ (.nm 8) (.list (.var 5)) (
      (.cons (.iff (.not (.call fx__law_comb_right (.ref 1 (.val (.var 4) (.val (.var 8) (.val (.call fx__law_some (.ref 1 (.val (.var 7) .nil))) .nil)))))) (
        (.cons (.ret (.cst (.bl false))) .nil)) (.nil)) .nil))) 
    (.cons (.unl [(.nm 6), (.nm 12)] (.comp [8] (.nm 8) (.list (.slice (.var 5) .none (.some (.cst (.int 2))))) .none (.call fx__law_comb (.val (.var 4) (.val (.var 8) (.val (.call fx__law_some (.ref 1 (.val (.var 7) .nil))) .nil)))))) 
    (.cons (.iff (.and (.cmp .isnot (.var 6) (.cst .non)) (.cmp .isnot (.var 12) (.cst .non))) (
      (.cons (.iff (.not (.call fx__law_effect_right (.ref 1 (.val (.var 4) (.val (.call fx__law_both (.val (.var 6) (.val (.var 12) .nil))) (.val (.call fx_joined (.val (.var 6) (.val (.var 12) .nil))) .nil)))))) (
        (.cons (.ret (.cst (.bl false))) .nil)) (.nil)) .nil)) (.nil)) 
    (.cons (.asg 9 (.comp [13] (.nm 13) (.range1 (.call fx__law_take (.ref 1 (.val (.cst (.int 5)) .nil)))) .none (.tup (.cons (.call fx__law_take (.ref 1 (.val (.cst (.int 3)) .nil))) (.cons (.call fx__law_some (.ref 1 (.val (.var 7) .nil))) .nil))))) 
    (.cons (.iff (.not (.call fx__law_trip_right (.ref 1 (.val (.var 4) (.val (.var 5) (.val (.var 9) .nil)))))) (
      (.cons (.ret (.cst (.bl false))) .nil)) (.nil)) .nil)))))))))))) 
  (.cons (.ret (.cst (.bl true))) .nil)))⟩
def de_is_whole : De := ⟨"is_whole", topS 1, ["thing"], ["thing"], fn_is_whole⟩
def de_is_effect : De := ⟨"is_effect", topS 2, ["store", "thing"], ["store", "thing", "least", "gain", "top", "number"], fn_is_effect⟩
def de_passed : De := ⟨"passed", topS 3, ["effect", "level"], ["effect", "level", "least", "gain", "top"], fn_passed⟩
def de_joined : De := ⟨"joined", topS 4, ["one", "other"], ["one", "other", "least"], fn_joined⟩
def de_effect_of : De := ⟨"effect_of", topS 5, ["store", "changes"], ["store", "changes", "effect", "change"], fn_effect_of⟩
def de_repeated : De := ⟨"repeated", topS 6, ["store", "effect", "times"], ["store", "effect", "times", "more", "least", "gain", "top"], fn_repeated⟩
def de_changes_by : De := ⟨"changes_by", topS 7, ["store", "effect"], ["store", "effect", "least", "gain", "top"], fn_changes_by⟩
def de_mirrored : De := ⟨"mirrored", topS 8, ["store", "effect"], ["store", "effect", "least", "gain", "top"], fn_mirrored⟩
def de_turned_land : De := ⟨"turned_land", topS 13, ["land"], ["land", "start", "end", "change"], fn_turned_land⟩
def de_stepped : De := ⟨"stepped", topS 15, ["store", "level", "change"], ["store", "level", "change", "behind"], fn_stepped⟩
def de_levels_along : De := ⟨"levels_along", topS 16, ["store", "level", "changes"], ["store", "level", "changes", "levels", "change"], fn_levels_along⟩
def de_part_end : De := ⟨"part_end", topS 19, ["land", "place", "part"], ["land", "place", "part", "here", "number", "numbers", "times"], fn_part_end⟩
def de_end_of : De := ⟨"end_of", topS 20, ["land", "place", "trip"], ["land", "place", "trip", "at", "part"], fn_end_of⟩
def de_length_of : De := ⟨"length_of", topS 21, ["land", "place", "trip"], ["land", "place", "trip", "numbers", "times"], fn_length_of⟩
def de_part_effect : De := ⟨"part_effect", topS 22, ["land", "store", "part"], ["land", "store", "part", "effect", "numbers", "times", "number"], fn_part_effect⟩
def de_effect_by : De := ⟨"effect_by", topS 23, ["land", "store", "place", "trip"], ["land", "store", "place", "trip", "whole", "part", "effect"], fn_effect_by⟩
def de_arrival : De := ⟨"arrival", topS 24, ["land", "store", "place", "level", "trip"], ["land", "store", "place", "level", "trip", "effect"], fn_arrival⟩
def de_backward : De := ⟨"backward", topS 25, ["trip"], ["trip", "numbers", "times"], fn_backward⟩
def de__law_bag : De := ⟨"_law_bag", topS 27, ["script"], ["script", "cell"], fn__law_bag⟩
def de__law_take : De := ⟨"_law_take", topS 28, ["bag", "many"], ["bag", "many", "begin", "second", "cell", "stirred", "value"], fn__law_take⟩
def de__law_some : De := ⟨"_law_some", topS 29, ["bag", "things"], ["bag", "things"], fn__law_some⟩
def de__law_kind : De := ⟨"_law_kind", topS 30, ["thing"], ["thing", "found"], fn__law_kind⟩
def de__law_alike : De := ⟨"_law_alike", topS 31, ["found", "due"], ["found", "due", "pairs", "at", "one", "other", "name"], fn__law_alike⟩
def de__law_number : De := ⟨"_law_number", topS 32, ["bag", "most"], ["bag", "most", "value", "again"], fn__law_number⟩
def de__law_along : De := ⟨"_law_along", topS 33, ["store", "level", "row"], ["store", "level", "row", "found", "change"], fn__law_along⟩
def de__law_comb : De := ⟨"_law_comb", topS 34, ["store", "comb", "many"], ["store", "comb", "many", "down", "up", "is_down_first", "fall", "gain", "found"], fn__law_comb⟩
def de__law_row : De := ⟨"_law_row", topS 35, ["comb"], ["comb"], fn__law_row⟩
def de__law_both : De := ⟨"_law_both", topS 36, ["one", "other"], ["one", "other"], fn__law_both⟩
def de__law_past : De := ⟨"_law_past", topS 37, ["effect", "level"], ["effect", "level"], fn__law_past⟩
def de__law_fits : De := ⟨"_law_fits", topS 38, ["store", "effect"], ["store", "effect", "low", "gain", "top"], fn__law_fits⟩
def de__law_levels : De := ⟨"_law_levels", topS 39, ["bag", "store", "effect"], ["bag", "store", "effect", "some", "number", "level"], fn__law_levels⟩
def de__law_effect_right : De := ⟨"_law_effect_right", topS 40, ["bag", "store", "due", "effect"], ["bag", "store", "due", "effect", "back", "told", "row", "at", "worse", "levels", "level"], fn__law_effect_right⟩
def de__law_comb_right : De := ⟨"_law_comb_right", topS 41, ["bag", "store", "comb", "many"], ["bag", "store", "comb", "many", "once", "told", "few", "whole", "level", "along", "first", "row", "due"], fn__law_comb_right⟩
def de__law_trip_right : De := ⟨"_law_trip_right", topS 42, ["bag", "store", "combs", "parts"], ["bag", "store", "combs", "parts", "changes", "comb", "land", "told", "turned", "levels", "trip", "due", "back", "whole", "at", "many", "change", "level"], fn__law_trip_right⟩
def de_law : De := ⟨"law", topS 43, ["script"], ["script", "bag", "again", "scale", "store", "combs", "one", "counts", "comb", "parts", "down", "near", "other", "part"], fn_law⟩
def tbl : List De := [de_is_whole, de_is_effect, de_passed, de_joined, de_effect_of, de_repeated, de_changes_by, de_mirrored, de_turned_land, de_stepped, de_levels_along, de_part_end, de_end_of, de_length_of, de_part_effect, de_effect_by, de_arrival, de_backward, de__law_bag, de__law_take, de__law_some, de__law_kind, de__law_alike, de__law_number, de__law_along, de__law_comb, de__law_row, de__law_both, de__law_past, de__law_fits, de__law_levels, de__law_effect_right, de__law_comb_right, de__law_trip_right, de_law]
@[reducible] def fnl : List Fn := [fn_is_whole, fn_is_effect, fn_passed, fn_joined, fn_effect_of, fn_repeated, fn_changes_by, fn_mirrored, fn_turned_land, fn_stepped, fn_levels_along, fn_part_end, fn_end_of, fn_length_of, fn_part_effect, fn_effect_by, fn_arrival, fn_backward, fn__law_bag, fn__law_take, fn__law_some, fn__law_kind, fn__law_alike, fn__law_number, fn__law_along, fn__law_comb, fn__law_row, fn__law_both, fn__law_past, fn__law_fits, fn__law_levels, fn__law_effect_right, fn__law_comb_right, fn__law_trip_right, fn_law]
def cnl : List (Str × Cst) := [("MOST_TIMES", (.int 1000000000000000000000000))]
def cn (x : Str) : Option Cst := cnl.lookup x

theorem tbl_ok : tbl.all (okE (gOf tbl cn)) = true := by decide +kernel
end Tr

set_option maxRecDepth 100000
set_option maxHeartbeats 8000000
/-! Running code on data. -/
namespace Tr
open PySem
/-- a goal held, so that conv's rfl does not look into it -/
inductive Go (P : Prop) : Prop where
  | mk (p : P) : Go P
theorem Go.p {P : Prop} : Go P → P
  | .mk p => p
abbrev T : List Fn := fnl
theorem tbl_fn : tbl.map (·.fn) = T := rfl
theorem br_t {b : Bool} {A B : Prop} (e : b = true) (h : A) : br b A B := ⟨fun _ => h, fun z => absurd (e.symm.trans z) (by decide)⟩
theorem br_f {b : Bool} {A B : Prop} (e : b = false) (h : B) : br b A B := ⟨fun z => absurd (e.symm.trans z) (by decide), fun _ => h⟩
theorem br_d {p : Prop} [Decidable p] {A B : Prop} (h : p → A) (g : ¬ p → B) : br (decide p) A B := ⟨fun z => h (of_decide_eq_true z), fun z => g (of_decide_eq_false z)⟩
theorem br_nd {p : Prop} [Decidable p] {A B : Prop} (h : ¬ p → A) (g : p → B) : br (!decide p) A B := ⟨fun z => h (of_decide_eq_false (by simpa using z)), fun z => g (of_decide_eq_true (by simpa using z))⟩
theorem br_b {b : Bool} {A B : Prop} (h : b = true → A) (g : b = false → B) : br b A B := ⟨h, g⟩
@[reducible] def nonesE : Nat → Env
  | 0 => []
  | n + 1 => none :: nonesE n
@[reducible] def initE : List D → Nat → Env
  | [], r => nonesE r
  | d :: ds, r => some d :: initE ds r
theorem nonesE_eq : ∀ n, nonesE n = List.replicate n none
  | 0 => rfl
  | n + 1 => by rw [List.replicate_succ, ← nonesE_eq n]
theorem initE_eq : ∀ (ds : List D) (r : Nat), initE ds r = ds.map some ++ List.replicate r none
  | [], r => nonesE_eq r
  | d :: ds, r => by
    show some d :: initE ds r = _
    rw [initE_eq ds r]
    rfl
theorem sem_succ {n f : Nat} {fn : Fn} (r : Nat) {ds : List D} {k : D → List D → Prop} (hf : T[f]? = some fn) (hl : ds.length = fn.np) (hr : fn.nn - ds.length = r)
    (h : evSs (semN T n) fn.body (initE ds r) { nx := fun ρ => outK fn.io ρ fun outs => k .non outs, rt := fun d ρ => match fn.own with | true => outK fn.io ρ fun outs => k d outs | false => fzK d fun d' => outK fn.io ρ fun outs => k d' outs, bk := fun _ => False, ct := fun _ => False }) : semN T (n + 1) f ds k := by
  show (match T[f]? with | some fn => evF (semN T n) fn ds k | none => False)
  rw [hf]
  refine ⟨hl, ?_⟩
  rw [hr, ← initE_eq]
  exact h
theorem lt_sz {n : Nat} (h : n ≤ 1000) : n < sizeLine := Nat.lt_of_le_of_lt h (by decide)
theorem compL_inv {own : List Nat} {bind : D → Env → (Env → Prop) → Prop} {cond : Env → (Bool → Env → Prop) → Prop} {elt : Env → (D → Env → Prop) → Prop} {l : List D} {k : List D → Env → Prop} (I : Nat → Env → List D → Prop) (hl : l.length ≤ 500)
    (step : ∀ (i : Nat) (d : D), l[i]? = some d → ∀ (ρ : Env) (acc : List D), I i ρ acc → acc.length < sizeLine → ∀ P : Env → List D → Prop, (∀ ρ' acc', I (i + 1) ρ' acc' → P ρ' acc') →
      bind d ρ fun ρ1 => cond ρ1 fun b ρ2 => br b (elt ρ2 fun y ρ3 => acc.length < sizeLine ∧ wipeK own ρ3 fun ρ4 => P ρ4 (acc ++ [y])) (wipeK own ρ2 fun ρ4 => P ρ4 acc))
    (len : ∀ i ρ acc, I i ρ acc → acc.length ≤ i) (fin : ∀ ρ acc, I l.length ρ acc → k acc ρ) {ρ : Env} {acc : List D} (h0 : I 0 ρ acc) : compL own bind cond elt l ρ acc k := by
  have go : ∀ (m : List D) (i : Nat) (ρ : Env) (acc : List D), i + m.length = l.length → m = l.drop i → I i ρ acc → compL own bind cond elt m ρ acc k := by
    intro m
    induction m with
    | nil =>
      intro i ρ acc e _ h
      have : i = l.length := by simpa using e
      subst this
      exact fin ρ acc h
    | cons d m ih =>
      intro i ρ acc e em h
      have hi : i < l.length := by simp at e; omega
      rw [List.drop_eq_getElem_cons hi] at em
      cases em
      refine step i _ (List.getElem?_eq_getElem hi) ρ acc h (lt_sz (by have := len i ρ acc h; omega)) (fun ρ4 acc' => compL own bind cond elt (l.drop (i + 1)) ρ4 acc' k) fun ρ' acc' h' => ?_
      exact ih (i + 1) ρ' acc' (by simp at e ⊢; omega) rfl h'
  exact go l 0 ρ acc (by simp) rfl h0
theorem forL_inv {bind : D → Env → (Env → Prop) → Prop} {body : Env → K → Prop} {l : List D} {k : K} (I : Nat → Env → Prop)
    (step : ∀ (i : Nat) (d : D), l[i]? = some d → ∀ ρ : Env, I i ρ → ∀ P : Env → Prop, (∀ ρ', I (i + 1) ρ' → P ρ') → bind d ρ fun ρ1 => body ρ1 { nx := P, ct := P, bk := k.nx, rt := k.rt })
    (fin : ∀ ρ, I l.length ρ → k.nx ρ) {ρ : Env} (h0 : I 0 ρ) : forL bind body l ρ k := by
  have go : ∀ (m : List D) (i : Nat) (ρ : Env), i + m.length = l.length → m = l.drop i → I i ρ → forL bind body m ρ k := by
    intro m
    induction m with
    | nil =>
      intro i ρ e _ h
      have : i = l.length := by simpa using e
      subst this
      exact fin ρ h
    | cons d m ih =>
      intro i ρ e em h
      have hi : i < l.length := by simp at e; omega
      rw [List.drop_eq_getElem_cons hi] at em
      cases em
      exact step i _ (List.getElem?_eq_getElem hi) ρ h (fun ρ2 => forL bind body (l.drop (i + 1)) ρ2 k) fun ρ' h' => ih (i + 1) ρ' (by simp at e ⊢; omega) rfl h'
  exact go l 0 ρ (by simp) rfl h0
/-- an effect -/
abbrev Ef := Int × Int × Int
@[reducible] def Ef.d (e : Ef) : D := .tup [.int e.1, .int e.2.1, .int e.2.2]
@[reducible] def oD : Option Ef → D
  | none => .non
  | some e => e.d
def jn (a b : Ef) : Option Ef := if a.2.2 < b.1 then none else some (max a.1 (b.1 - a.2.1), a.2.1 + b.2.1, min (a.2.2 + b.2.1) b.2.2)
end Tr

set_option maxRecDepth 100000
set_option maxHeartbeats 8000000
/-! The defs of effects: what each tells. -/
namespace Tr
open PySem
theorem maxP (i j : Int) : (if j > i then j else i) = max i j := by omega
theorem minP (i j : Int) : (if j < i then j else i) = min i j := by omega
theorem s_joined {n : Nat} (hn : 1 ≤ n) (a0 a1 a2 b0 b1 b2 : Int) {k : D → List D → Prop} (h : k (oD (jn (a0, a1, a2) (b0, b1, b2))) []) : semN T n fx_joined [.tup [.int a0, .int a1, .int a2], .tup [.int b0, .int b1, .int b2]] k := by
  obtain ⟨n, rfl⟩ : ∃ m, n = m + 1 := ⟨n - 1, by omega⟩
  refine sem_succ 1 rfl rfl rfl ?_
  unfold jn at h
  (refine Go.p ?_; (with_reducible conv => (arg 1; whnf)); refine Go.mk ?_)
  refine br_d (fun c => ?_) (fun c => ?_)
  · (refine Go.p ?_; (with_reducible conv => (arg 1; whnf)); refine Go.mk ?_)
    rw [if_pos c] at h
    exact h
  · (refine Go.p ?_; (with_reducible conv => (arg 1; whnf)); refine Go.mk ?_)
    rw [if_neg c] at h
    simp only [maxP, minP]
    exact h
def bo (a b : Option Ef) : Option Ef := a.bind fun x => b.bind fun y => jn x y
theorem s_both {n : Nat} (hn : 1 ≤ n) (a b : Option Ef) {k : D → List D → Prop} (h : k (oD (bo a b)) []) : semN T n fx__law_both [oD a, oD b] k := by
  obtain ⟨n, rfl⟩ : ∃ m, n = m + 1 := ⟨n - 1, by omega⟩
  refine sem_succ 0 rfl rfl rfl ?_
  cases a with
  | none =>
    simp only [oD]
    ((refine Go.p ?_; (with_reducible conv => (arg 1; whnf)); refine Go.mk ?_); repeat ((first | refine br_t rfl ?_ | refine br_f rfl ?_ | refine ⟨rfl, ?_⟩ | refine ⟨lt_sz (Nat.le_of_ble_eq_true rfl), ?_⟩ | refine ⟨Nat.le_of_lt (lt_sz (Nat.le_of_ble_eq_true rfl)), ?_⟩); (refine Go.p ?_; (with_reducible conv => (arg 1; whnf)); refine Go.mk ?_)))
    exact h
  | some a => cases b with
    | none =>
      obtain ⟨a0, a1, a2⟩ := a
      simp only [oD, Ef.d]
      ((refine Go.p ?_; (with_reducible conv => (arg 1; whnf)); refine Go.mk ?_); repeat ((first | refine br_t rfl ?_ | refine br_f rfl ?_ | refine ⟨rfl, ?_⟩ | refine ⟨lt_sz (Nat.le_of_ble_eq_true rfl), ?_⟩ | refine ⟨Nat.le_of_lt (lt_sz (Nat.le_of_ble_eq_true rfl)), ?_⟩); (refine Go.p ?_; (with_reducible conv => (arg 1; whnf)); refine Go.mk ?_)))
      exact h
    | some b =>
      obtain ⟨a0, a1, a2⟩ := a
      obtain ⟨b0, b1, b2⟩ := b
      have h : k (oD (jn (a0, a1, a2) (b0, b1, b2))) [] := h
      unfold jn at h
      simp only [oD, Ef.d]
      ((refine Go.p ?_; (with_reducible conv => (arg 1; whnf)); refine Go.mk ?_); repeat ((first | refine br_t rfl ?_ | refine br_f rfl ?_ | refine ⟨rfl, ?_⟩ | refine ⟨lt_sz (Nat.le_of_ble_eq_true rfl), ?_⟩ | refine ⟨Nat.le_of_lt (lt_sz (Nat.le_of_ble_eq_true rfl)), ?_⟩); (refine Go.p ?_; (with_reducible conv => (arg 1; whnf)); refine Go.mk ?_)))
      refine br_d (fun c => ?_) (fun c => ?_)
      · ((refine Go.p ?_; (with_reducible conv => (arg 1; whnf)); refine Go.mk ?_); repeat ((first | refine br_t rfl ?_ | refine br_f rfl ?_ | refine ⟨rfl, ?_⟩ | refine ⟨lt_sz (Nat.le_of_ble_eq_true rfl), ?_⟩ | refine ⟨Nat.le_of_lt (lt_sz (Nat.le_of_ble_eq_true rfl)), ?_⟩); (refine Go.p ?_; (with_reducible conv => (arg 1; whnf)); refine Go.mk ?_)))
        rw [if_pos c] at h
        exact h
      · ((refine Go.p ?_; (with_reducible conv => (arg 1; whnf)); refine Go.mk ?_); repeat ((first | refine br_t rfl ?_ | refine br_f rfl ?_ | refine ⟨rfl, ?_⟩ | refine ⟨lt_sz (Nat.le_of_ble_eq_true rfl), ?_⟩ | refine ⟨Nat.le_of_lt (lt_sz (Nat.le_of_ble_eq_true rfl)), ?_⟩); (refine Go.p ?_; (with_reducible conv => (arg 1; whnf)); refine Go.mk ?_)))
        rw [if_neg c] at h
        simp only [maxP, minP]
        rw [Int.min_comm] at h
        exact h
/-- through a change of level -/
def ps (e : Ef) (l : Int) : Option Int := if l < e.1 then none else some (min (l + e.2.1) e.2.2)
@[reducible] def oI : Option Int → D
  | none => .non
  | some i => .int i
theorem s_passed {n : Nat} (hn : 1 ≤ n) (a0 a1 a2 l : Int) {k : D → List D → Prop} (h : k (oI (ps (a0, a1, a2) l)) []) : semN T n fx_passed [.tup [.int a0, .int a1, .int a2], .int l] k := by
  obtain ⟨n, rfl⟩ : ∃ m, n = m + 1 := ⟨n - 1, by omega⟩
  refine sem_succ 3 rfl rfl rfl ?_
  unfold ps at h
  ((refine Go.p ?_; (with_reducible conv => (arg 1; whnf)); refine Go.mk ?_); repeat ((first | refine br_t rfl ?_ | refine br_f rfl ?_ | refine ⟨rfl, ?_⟩ | refine ⟨lt_sz (Nat.le_of_ble_eq_true rfl), ?_⟩ | refine ⟨Nat.le_of_lt (lt_sz (Nat.le_of_ble_eq_true rfl)), ?_⟩); (refine Go.p ?_; (with_reducible conv => (arg 1; whnf)); refine Go.mk ?_)))
  refine br_d (fun c => ?_) (fun c => ?_)
  · ((refine Go.p ?_; (with_reducible conv => (arg 1; whnf)); refine Go.mk ?_); repeat ((first | refine br_t rfl ?_ | refine br_f rfl ?_ | refine ⟨rfl, ?_⟩ | refine ⟨lt_sz (Nat.le_of_ble_eq_true rfl), ?_⟩ | refine ⟨Nat.le_of_lt (lt_sz (Nat.le_of_ble_eq_true rfl)), ?_⟩); (refine Go.p ?_; (with_reducible conv => (arg 1; whnf)); refine Go.mk ?_)))
    rw [if_pos c] at h
    exact h
  · ((refine Go.p ?_; (with_reducible conv => (arg 1; whnf)); refine Go.mk ?_); repeat ((first | refine br_t rfl ?_ | refine br_f rfl ?_ | refine ⟨rfl, ?_⟩ | refine ⟨lt_sz (Nat.le_of_ble_eq_true rfl), ?_⟩ | refine ⟨Nat.le_of_lt (lt_sz (Nat.le_of_ble_eq_true rfl)), ?_⟩); (refine Go.p ?_; (with_reducible conv => (arg 1; whnf)); refine Go.mk ?_)))
    rw [if_neg c] at h
    simp only [maxP, minP]
    exact h
theorem s_past {n : Nat} (hn : 1 ≤ n) (a : Option Ef) (l : Int) {k : D → List D → Prop} (h : k (oI (a.bind fun e => ps e l)) []) : semN T n fx__law_past [oD a, .int l] k := by
  obtain ⟨n, rfl⟩ : ∃ m, n = m + 1 := ⟨n - 1, by omega⟩
  refine sem_succ 0 rfl rfl rfl ?_
  cases a with
  | none =>
    simp only [oD]
    ((refine Go.p ?_; (with_reducible conv => (arg 1; whnf)); refine Go.mk ?_); repeat ((first | refine br_t rfl ?_ | refine br_f rfl ?_ | refine ⟨rfl, ?_⟩ | refine ⟨lt_sz (Nat.le_of_ble_eq_true rfl), ?_⟩ | refine ⟨Nat.le_of_lt (lt_sz (Nat.le_of_ble_eq_true rfl)), ?_⟩); (refine Go.p ?_; (with_reducible conv => (arg 1; whnf)); refine Go.mk ?_)))
    exact h
  | some a =>
    obtain ⟨a0, a1, a2⟩ := a
    have h : k (oI (ps (a0, a1, a2) l)) [] := h
    unfold ps at h
    simp only [oD, Ef.d]
    ((refine Go.p ?_; (with_reducible conv => (arg 1; whnf)); refine Go.mk ?_); repeat ((first | refine br_t rfl ?_ | refine br_f rfl ?_ | refine ⟨rfl, ?_⟩ | refine ⟨lt_sz (Nat.le_of_ble_eq_true rfl), ?_⟩ | refine ⟨Nat.le_of_lt (lt_sz (Nat.le_of_ble_eq_true rfl)), ?_⟩); (refine Go.p ?_; (with_reducible conv => (arg 1; whnf)); refine Go.mk ?_)))
    refine br_d (fun c => ?_) (fun c => ?_)
    · ((refine Go.p ?_; (with_reducible conv => (arg 1; whnf)); refine Go.mk ?_); repeat ((first | refine br_t rfl ?_ | refine br_f rfl ?_ | refine ⟨rfl, ?_⟩ | refine ⟨lt_sz (Nat.le_of_ble_eq_true rfl), ?_⟩ | refine ⟨Nat.le_of_lt (lt_sz (Nat.le_of_ble_eq_true rfl)), ?_⟩); (refine Go.p ?_; (with_reducible conv => (arg 1; whnf)); refine Go.mk ?_)))
      rw [if_pos c] at h
      exact h
    · ((refine Go.p ?_; (with_reducible conv => (arg 1; whnf)); refine Go.mk ?_); repeat ((first | refine br_t rfl ?_ | refine br_f rfl ?_ | refine ⟨rfl, ?_⟩ | refine ⟨lt_sz (Nat.le_of_ble_eq_true rfl), ?_⟩ | refine ⟨Nat.le_of_lt (lt_sz (Nat.le_of_ble_eq_true rfl)), ?_⟩); (refine Go.p ?_; (with_reducible conv => (arg 1; whnf)); refine Go.mk ?_)))
      rw [if_neg c] at h
      simp only [maxP, minP]
      exact h
def mir (s : Int) (e : Ef) : Ef := (s - e.2.2, e.2.1, s - e.1)
theorem s_mirrored {n : Nat} (hn : 1 ≤ n) (s a0 a1 a2 : Int) {k : D → List D → Prop} (h : k (.tup [.int (s - a2), .int a1, .int (s - a0)]) []) : semN T n fx_mirrored [.int s, .tup [.int a0, .int a1, .int a2]] k := by
  obtain ⟨n, rfl⟩ : ∃ m, n = m + 1 := ⟨n - 1, by omega⟩
  refine sem_succ 3 rfl rfl rfl ?_
  ((refine Go.p ?_; (with_reducible conv => (arg 1; whnf)); refine Go.mk ?_); repeat ((first | refine br_t rfl ?_ | refine br_f rfl ?_ | refine ⟨rfl, ?_⟩ | refine ⟨lt_sz (Nat.le_of_ble_eq_true rfl), ?_⟩ | refine ⟨Nat.le_of_lt (lt_sz (Nat.le_of_ble_eq_true rfl)), ?_⟩); (refine Go.p ?_; (with_reducible conv => (arg 1; whnf)); refine Go.mk ?_)))
  exact h
theorem s_changes {n : Nat} (hn : 1 ≤ n) (s a0 a1 a2 : Int) {k : D → List D → Prop} (h : k (.lst [.int (0 - a0), .int (a1 + a0 + s - a2), .int (a2 - s)]) []) : semN T n fx_changes_by [.int s, .tup [.int a0, .int a1, .int a2]] k := by
  obtain ⟨n, rfl⟩ : ∃ m, n = m + 1 := ⟨n - 1, by omega⟩
  refine sem_succ 3 rfl rfl rfl ?_
  ((refine Go.p ?_; (with_reducible conv => (arg 1; whnf)); refine Go.mk ?_); repeat ((first | refine br_t rfl ?_ | refine br_f rfl ?_ | refine ⟨rfl, ?_⟩ | refine ⟨lt_sz (Nat.le_of_ble_eq_true rfl), ?_⟩ | refine ⟨Nat.le_of_lt (lt_sz (Nat.le_of_ble_eq_true rfl)), ?_⟩); (refine Go.p ?_; (with_reducible conv => (arg 1; whnf)); refine Go.mk ?_)))
  exact h
def stp (s l c : Int) : Option Int := if l + c < 0 then none else some (min s (l + c))
theorem s_stepped {n : Nat} (hn : 1 ≤ n) (s l c : Int) {k : D → List D → Prop} (h : k (oI (stp s l c)) []) : semN T n fx_stepped [.int s, .int l, .int c] k := by
  obtain ⟨n, rfl⟩ : ∃ m, n = m + 1 := ⟨n - 1, by omega⟩
  refine sem_succ 1 rfl rfl rfl ?_
  unfold stp at h
  ((refine Go.p ?_; (with_reducible conv => (arg 1; whnf)); refine Go.mk ?_); repeat ((first | refine br_t rfl ?_ | refine br_f rfl ?_ | refine ⟨rfl, ?_⟩ | refine ⟨lt_sz (Nat.le_of_ble_eq_true rfl), ?_⟩ | refine ⟨Nat.le_of_lt (lt_sz (Nat.le_of_ble_eq_true rfl)), ?_⟩); (refine Go.p ?_; (with_reducible conv => (arg 1; whnf)); refine Go.mk ?_)))
  refine br_d (fun c => ?_) (fun c => ?_)
  · ((refine Go.p ?_; (with_reducible conv => (arg 1; whnf)); refine Go.mk ?_); repeat ((first | refine br_t rfl ?_ | refine br_f rfl ?_ | refine ⟨rfl, ?_⟩ | refine ⟨lt_sz (Nat.le_of_ble_eq_true rfl), ?_⟩ | refine ⟨Nat.le_of_lt (lt_sz (Nat.le_of_ble_eq_true rfl)), ?_⟩); (refine Go.p ?_; (with_reducible conv => (arg 1; whnf)); refine Go.mk ?_)))
    rw [if_pos c] at h
    exact h
  · ((refine Go.p ?_; (with_reducible conv => (arg 1; whnf)); refine Go.mk ?_); repeat ((first | refine br_t rfl ?_ | refine br_f rfl ?_ | refine ⟨rfl, ?_⟩ | refine ⟨lt_sz (Nat.le_of_ble_eq_true rfl), ?_⟩ | refine ⟨Nat.le_of_lt (lt_sz (Nat.le_of_ble_eq_true rfl)), ?_⟩); (refine Go.p ?_; (with_reducible conv => (arg 1; whnf)); refine Go.mk ?_)))
    rw [if_neg c] at h
    simp only [maxP, minP]
    exact h
def fit (s : Int) (e : Ef) : Prop := (0 ≤ e.1 ∧ e.1 ≤ s) ∧ (0 ≤ e.2.2 ∧ e.2.2 ≤ s) ∧ 0 ≤ e.1 + e.2.1 ∧ e.2.2 ≤ s + e.2.1
instance (s : Int) (e : Ef) : Decidable (fit s e) := by unfold fit; infer_instance
theorem fit_k {s a0 a1 a2 : Int} {k : D → List D → Prop} (h : k (.bl (decide (fit s (a0, a1, a2)))) []) (b : Bool) (e : b = true ↔ ((0 ≤ a0 ∧ a0 ≤ s) ∧ (0 ≤ a2 ∧ a2 ≤ s) ∧ 0 ≤ a0 + a1 ∧ a2 ≤ s + a1)) : k (.bl b) [] := by
  have : b = decide (fit s (a0, a1, a2)) := by
    rw [Bool.eq_iff_iff, e, decide_eq_true_iff]
    exact Iff.rfl
  rw [this]; exact h
theorem s_fits {n : Nat} (hn : 1 ≤ n) (s a0 a1 a2 : Int) {k : D → List D → Prop} (h : k (.bl (decide (fit s (a0, a1, a2)))) []) : semN T n fx__law_fits [.int s, .tup [.int a0, .int a1, .int a2]] k := by
  obtain ⟨n, rfl⟩ : ∃ m, n = m + 1 := ⟨n - 1, by omega⟩
  refine sem_succ 3 rfl rfl rfl ?_
  ((refine Go.p ?_; (with_reducible conv => (arg 1; whnf)); refine Go.mk ?_); repeat' ((first | refine br_t rfl ?_ | refine br_f rfl ?_ | refine ⟨rfl, ?_⟩ | refine ⟨lt_sz (Nat.le_of_ble_eq_true rfl), ?_⟩ | refine br_d (fun c => ?_) (fun c => ?_) | refine br_nd (fun c => ?_) (fun c => ?_) | refine br_b (fun c => ?_) (fun c => ?_)) <;> (refine Go.p ?_; (with_reducible conv => (arg 1; whnf)); refine Go.mk ?_)))
  all_goals (refine fit_k h _ ?_; simp only [decide_eq_true_iff, Bool.false_eq_true, false_iff, true_iff, iff_true, not_and] at *; omega)
theorem s_whole_int {n : Nat} (hn : 1 ≤ n) (i : Int) {k : D → List D → Prop} (h : k (.bl true) []) : semN T n fx_is_whole [.int i] k := by
  obtain ⟨n, rfl⟩ : ∃ m, n = m + 1 := ⟨n - 1, by omega⟩
  refine sem_succ 0 rfl rfl rfl ?_
  ((refine Go.p ?_; (with_reducible conv => (arg 1; whnf)); refine Go.mk ?_); repeat ((first | refine br_t rfl ?_ | refine br_f rfl ?_ | refine ⟨rfl, ?_⟩ | refine ⟨lt_sz (Nat.le_of_ble_eq_true rfl), ?_⟩ | refine ⟨Nat.le_of_lt (lt_sz (Nat.le_of_ble_eq_true rfl)), ?_⟩); (refine Go.p ?_; (with_reducible conv => (arg 1; whnf)); refine Go.mk ?_)))
  exact h
theorem s_effect_lst {n : Nat} (hn : 2 ≤ n) (s : Int) (l : List D) {k : D → List D → Prop} (h : k (.bl false) []) : semN T n fx_is_effect [.int s, .lst l] k := by
  obtain ⟨n, rfl⟩ : ∃ m, n = m + 1 := ⟨n - 1, by omega⟩
  refine sem_succ 4 rfl rfl rfl ?_
  ((refine Go.p ?_; (with_reducible conv => (arg 1; whnf)); refine Go.mk ?_); repeat ((first | refine br_t rfl ?_ | refine br_f rfl ?_ | refine ⟨rfl, ?_⟩ | refine ⟨lt_sz (Nat.le_of_ble_eq_true rfl), ?_⟩ | refine ⟨Nat.le_of_lt (lt_sz (Nat.le_of_ble_eq_true rfl)), ?_⟩); (refine Go.p ?_; (with_reducible conv => (arg 1; whnf)); refine Go.mk ?_)))
  exact h
theorem s_effect {n : Nat} (hn : 2 ≤ n) (s a0 a1 a2 : Int) {k : D → List D → Prop} (h : k (.bl (decide (fit s (a0, a1, a2)))) []) : semN T n fx_is_effect [.int s, .tup [.int a0, .int a1, .int a2]] k := by
  obtain ⟨n, rfl⟩ : ∃ m, n = m + 1 := ⟨n - 1, by omega⟩
  refine sem_succ 4 rfl rfl rfl ?_
  ((refine Go.p ?_; (with_reducible conv => (arg 1; whnf)); refine Go.mk ?_); repeat ((first | refine br_t rfl ?_ | refine br_f rfl ?_ | refine ⟨rfl, ?_⟩ | refine ⟨lt_sz (Nat.le_of_ble_eq_true rfl), ?_⟩ | refine ⟨Nat.le_of_lt (lt_sz (Nat.le_of_ble_eq_true rfl)), ?_⟩); (refine Go.p ?_; (with_reducible conv => (arg 1; whnf)); refine Go.mk ?_)))
  refine s_whole_int (by omega) _ ?_
  ((refine Go.p ?_; (with_reducible conv => (arg 1; whnf)); refine Go.mk ?_); repeat ((first | refine br_t rfl ?_ | refine br_f rfl ?_ | refine ⟨rfl, ?_⟩ | refine ⟨lt_sz (Nat.le_of_ble_eq_true rfl), ?_⟩ | refine ⟨Nat.le_of_lt (lt_sz (Nat.le_of_ble_eq_true rfl)), ?_⟩); (refine Go.p ?_; (with_reducible conv => (arg 1; whnf)); refine Go.mk ?_)))
  refine s_whole_int (by omega) _ ?_
  ((refine Go.p ?_; (with_reducible conv => (arg 1; whnf)); refine Go.mk ?_); repeat ((first | refine br_t rfl ?_ | refine br_f rfl ?_ | refine ⟨rfl, ?_⟩ | refine ⟨lt_sz (Nat.le_of_ble_eq_true rfl), ?_⟩ | refine ⟨Nat.le_of_lt (lt_sz (Nat.le_of_ble_eq_true rfl)), ?_⟩); (refine Go.p ?_; (with_reducible conv => (arg 1; whnf)); refine Go.mk ?_)))
  refine s_whole_int (by omega) _ ?_
  ((refine Go.p ?_; (with_reducible conv => (arg 1; whnf)); refine Go.mk ?_); repeat ((first | refine br_t rfl ?_ | refine br_f rfl ?_ | refine ⟨rfl, ?_⟩ | refine ⟨lt_sz (Nat.le_of_ble_eq_true rfl), ?_⟩ | refine ⟨Nat.le_of_lt (lt_sz (Nat.le_of_ble_eq_true rfl)), ?_⟩); (refine Go.p ?_; (with_reducible conv => (arg 1; whnf)); refine Go.mk ?_)))
  refine ⟨[true, true, true], rfl, ?_⟩
  ((refine Go.p ?_; (with_reducible conv => (arg 1; whnf)); refine Go.mk ?_); repeat' ((first | refine br_t rfl ?_ | refine br_f rfl ?_ | refine ⟨rfl, ?_⟩ | refine ⟨lt_sz (Nat.le_of_ble_eq_true rfl), ?_⟩ | refine br_d (fun c => ?_) (fun c => ?_) | refine br_nd (fun c => ?_) (fun c => ?_) | refine br_b (fun c => ?_) (fun c => ?_)) <;> (refine Go.p ?_; (with_reducible conv => (arg 1; whnf)); refine Go.mk ?_)))
  all_goals (refine fit_k h _ ?_; simp only [decide_eq_true_iff, Bool.false_eq_true, false_iff, true_iff, iff_true, not_and] at *; omega)
theorem s_row {n : Nat} (hn : 1 ≤ n) (dn up : Int) (b : Bool) {k : D → List D → Prop} (h : k (.lst (if b = true then [.int (-dn), .int up] else [.int up, .int (-dn)])) []) : semN T n fx__law_row [.tup [.int dn, .int up, .bl b]] k := by
  obtain ⟨n, rfl⟩ : ∃ m, n = m + 1 := ⟨n - 1, by omega⟩
  refine sem_succ 0 rfl rfl rfl ?_
  cases b <;> (((refine Go.p ?_; (with_reducible conv => (arg 1; whnf)); refine Go.mk ?_); repeat ((first | refine br_t rfl ?_ | refine br_f rfl ?_ | refine ⟨rfl, ?_⟩ | refine ⟨lt_sz (Nat.le_of_ble_eq_true rfl), ?_⟩ | refine ⟨Nat.le_of_lt (lt_sz (Nat.le_of_ble_eq_true rfl)), ?_⟩); (refine Go.p ?_; (with_reducible conv => (arg 1; whnf)); refine Go.mk ?_))); exact h)
/-- so many rounds -/
def rp (s : Int) (e : Ef) (t : Int) : Option Ef :=
  if 0 ≤ e.2.1 then (if 0 < t - 1 ∧ e.2.2 < e.1 then none else some (e.1, t * e.2.1, e.2.2))
  else if 0 < t - 1 ∧ e.2.2 + (t - 1 - 1) * e.2.1 < e.1 then none else some (e.1 - (t - 1) * e.2.1, t * e.2.1, e.2.2 + (t - 1) * e.2.1)
theorem small_of {i : Int} (h : -(2 ^ 300) < i ∧ i < 2 ^ 300) : Small i := by
  unfold Small
  have h1 : i.natAbs < 2 ^ 300 := by omega
  exact Nat.lt_of_lt_of_le h1 (Nat.pow_le_pow_right (by decide) (by decide))
theorem s_repeated {n : Nat} (hn : 1 ≤ n) (s a0 a1 a2 t : Int) (ht : 1 ≤ t ∧ t ≤ 2 ^ 200) (ha : -(2 ^ 200) < a1 ∧ a1 < 2 ^ 200) {k : D → List D → Prop} (h : k (oD (rp s (a0, a1, a2) t)) []) : semN T n fx_repeated [.int s, .tup [.int a0, .int a1, .int a2], .int t] k := by
  obtain ⟨n, rfl⟩ : ∃ m, n = m + 1 := ⟨n - 1, by omega⟩
  refine sem_succ 4 rfl rfl rfl ?_
  have m1 : Small t := small_of (by omega)
  have m2 : Small a1 := small_of (by omega)
  have m3 : Small (t - 1) := small_of (by omega)
  have m4 : Small (t - 1 - 1) := small_of (by omega)
  unfold rp at h
  simp only at h
  (refine Go.p ?_; (with_reducible conv => (arg 1; whnf)); refine Go.mk ?_)
  refine br_f (decide_eq_false (by omega)) ?_
  ((refine Go.p ?_; (with_reducible conv => (arg 1; whnf)); refine Go.mk ?_); repeat ((first | refine br_t rfl ?_ | refine br_f rfl ?_ | refine ⟨rfl, ?_⟩ | refine ⟨lt_sz (Nat.le_of_ble_eq_true rfl), ?_⟩ | refine ⟨Nat.le_of_lt (lt_sz (Nat.le_of_ble_eq_true rfl)), ?_⟩); (refine Go.p ?_; (with_reducible conv => (arg 1; whnf)); refine Go.mk ?_)))
  refine br_d (fun c => ?_) (fun c => ?_)
  · rw [if_pos c] at h
    ((refine Go.p ?_; (with_reducible conv => (arg 1; whnf)); refine Go.mk ?_); repeat ((first | refine br_t rfl ?_ | refine br_f rfl ?_ | refine ⟨rfl, ?_⟩ | refine ⟨lt_sz (Nat.le_of_ble_eq_true rfl), ?_⟩ | refine ⟨Nat.le_of_lt (lt_sz (Nat.le_of_ble_eq_true rfl)), ?_⟩); (refine Go.p ?_; (with_reducible conv => (arg 1; whnf)); refine Go.mk ?_)))
    refine br_d (fun c1 => ?_) (fun c1 => ?_)
    · ((refine Go.p ?_; (with_reducible conv => (arg 1; whnf)); refine Go.mk ?_); repeat ((first | refine br_t rfl ?_ | refine br_f rfl ?_ | refine ⟨rfl, ?_⟩ | refine ⟨lt_sz (Nat.le_of_ble_eq_true rfl), ?_⟩ | refine ⟨Nat.le_of_lt (lt_sz (Nat.le_of_ble_eq_true rfl)), ?_⟩); (refine Go.p ?_; (with_reducible conv => (arg 1; whnf)); refine Go.mk ?_)))
      refine br_d (fun c2 => ?_) (fun c2 => ?_)
      · ((refine Go.p ?_; (with_reducible conv => (arg 1; whnf)); refine Go.mk ?_); repeat ((first | refine br_t rfl ?_ | refine br_f rfl ?_ | refine ⟨rfl, ?_⟩ | refine ⟨lt_sz (Nat.le_of_ble_eq_true rfl), ?_⟩ | refine ⟨Nat.le_of_lt (lt_sz (Nat.le_of_ble_eq_true rfl)), ?_⟩); (refine Go.p ?_; (with_reducible conv => (arg 1; whnf)); refine Go.mk ?_)))
        rw [if_pos ⟨c1, c2⟩] at h
        exact h
      · ((refine Go.p ?_; (with_reducible conv => (arg 1; whnf)); refine Go.mk ?_); repeat ((first | refine br_t rfl ?_ | refine br_f rfl ?_ | refine ⟨rfl, ?_⟩ | refine ⟨lt_sz (Nat.le_of_ble_eq_true rfl), ?_⟩ | refine ⟨Nat.le_of_lt (lt_sz (Nat.le_of_ble_eq_true rfl)), ?_⟩); (refine Go.p ?_; (with_reducible conv => (arg 1; whnf)); refine Go.mk ?_)))
        rw [if_neg fun z => c2 z.2] at h
        refine ⟨m1, m2, ?_⟩
        ((refine Go.p ?_; (with_reducible conv => (arg 1; whnf)); refine Go.mk ?_); repeat ((first | refine br_t rfl ?_ | refine br_f rfl ?_ | refine ⟨rfl, ?_⟩ | refine ⟨lt_sz (Nat.le_of_ble_eq_true rfl), ?_⟩ | refine ⟨Nat.le_of_lt (lt_sz (Nat.le_of_ble_eq_true rfl)), ?_⟩); (refine Go.p ?_; (with_reducible conv => (arg 1; whnf)); refine Go.mk ?_)))
        exact h
    · ((refine Go.p ?_; (with_reducible conv => (arg 1; whnf)); refine Go.mk ?_); repeat ((first | refine br_t rfl ?_ | refine br_f rfl ?_ | refine ⟨rfl, ?_⟩ | refine ⟨lt_sz (Nat.le_of_ble_eq_true rfl), ?_⟩ | refine ⟨Nat.le_of_lt (lt_sz (Nat.le_of_ble_eq_true rfl)), ?_⟩); (refine Go.p ?_; (with_reducible conv => (arg 1; whnf)); refine Go.mk ?_)))
      rw [if_neg fun z => c1 z.1] at h
      refine ⟨m1, m2, ?_⟩
      ((refine Go.p ?_; (with_reducible conv => (arg 1; whnf)); refine Go.mk ?_); repeat ((first | refine br_t rfl ?_ | refine br_f rfl ?_ | refine ⟨rfl, ?_⟩ | refine ⟨lt_sz (Nat.le_of_ble_eq_true rfl), ?_⟩ | refine ⟨Nat.le_of_lt (lt_sz (Nat.le_of_ble_eq_true rfl)), ?_⟩); (refine Go.p ?_; (with_reducible conv => (arg 1; whnf)); refine Go.mk ?_)))
      exact h
  · rw [if_neg c] at h
    ((refine Go.p ?_; (with_reducible conv => (arg 1; whnf)); refine Go.mk ?_); repeat ((first | refine br_t rfl ?_ | refine br_f rfl ?_ | refine ⟨rfl, ?_⟩ | refine ⟨lt_sz (Nat.le_of_ble_eq_true rfl), ?_⟩ | refine ⟨Nat.le_of_lt (lt_sz (Nat.le_of_ble_eq_true rfl)), ?_⟩); (refine Go.p ?_; (with_reducible conv => (arg 1; whnf)); refine Go.mk ?_)))
    refine br_d (fun c1 => ?_) (fun c1 => ?_)
    · ((refine Go.p ?_; (with_reducible conv => (arg 1; whnf)); refine Go.mk ?_); repeat ((first | refine br_t rfl ?_ | refine br_f rfl ?_ | refine ⟨rfl, ?_⟩ | refine ⟨lt_sz (Nat.le_of_ble_eq_true rfl), ?_⟩ | refine ⟨Nat.le_of_lt (lt_sz (Nat.le_of_ble_eq_true rfl)), ?_⟩); (refine Go.p ?_; (with_reducible conv => (arg 1; whnf)); refine Go.mk ?_)))
      refine ⟨m4, m2, ?_⟩
      ((refine Go.p ?_; (with_reducible conv => (arg 1; whnf)); refine Go.mk ?_); repeat ((first | refine br_t rfl ?_ | refine br_f rfl ?_ | refine ⟨rfl, ?_⟩ | refine ⟨lt_sz (Nat.le_of_ble_eq_true rfl), ?_⟩ | refine ⟨Nat.le_of_lt (lt_sz (Nat.le_of_ble_eq_true rfl)), ?_⟩); (refine Go.p ?_; (with_reducible conv => (arg 1; whnf)); refine Go.mk ?_)))
      refine br_d (fun c2 => ?_) (fun c2 => ?_)
      · ((refine Go.p ?_; (with_reducible conv => (arg 1; whnf)); refine Go.mk ?_); repeat ((first | refine br_t rfl ?_ | refine br_f rfl ?_ | refine ⟨rfl, ?_⟩ | refine ⟨lt_sz (Nat.le_of_ble_eq_true rfl), ?_⟩ | refine ⟨Nat.le_of_lt (lt_sz (Nat.le_of_ble_eq_true rfl)), ?_⟩); (refine Go.p ?_; (with_reducible conv => (arg 1; whnf)); refine Go.mk ?_)))
        rw [if_pos ⟨c1, c2⟩] at h
        exact h
      · ((refine Go.p ?_; (with_reducible conv => (arg 1; whnf)); refine Go.mk ?_); repeat ((first | refine br_t rfl ?_ | refine br_f rfl ?_ | refine ⟨rfl, ?_⟩ | refine ⟨lt_sz (Nat.le_of_ble_eq_true rfl), ?_⟩ | refine ⟨Nat.le_of_lt (lt_sz (Nat.le_of_ble_eq_true rfl)), ?_⟩); (refine Go.p ?_; (with_reducible conv => (arg 1; whnf)); refine Go.mk ?_)))
        rw [if_neg fun z => c2 z.2] at h
        refine ⟨m3, m2, ?_⟩
        ((refine Go.p ?_; (with_reducible conv => (arg 1; whnf)); refine Go.mk ?_); repeat ((first | refine br_t rfl ?_ | refine br_f rfl ?_ | refine ⟨rfl, ?_⟩ | refine ⟨lt_sz (Nat.le_of_ble_eq_true rfl), ?_⟩ | refine ⟨Nat.le_of_lt (lt_sz (Nat.le_of_ble_eq_true rfl)), ?_⟩); (refine Go.p ?_; (with_reducible conv => (arg 1; whnf)); refine Go.mk ?_)))
        refine ⟨m1, m2, ?_⟩
        ((refine Go.p ?_; (with_reducible conv => (arg 1; whnf)); refine Go.mk ?_); repeat ((first | refine br_t rfl ?_ | refine br_f rfl ?_ | refine ⟨rfl, ?_⟩ | refine ⟨lt_sz (Nat.le_of_ble_eq_true rfl), ?_⟩ | refine ⟨Nat.le_of_lt (lt_sz (Nat.le_of_ble_eq_true rfl)), ?_⟩); (refine Go.p ?_; (with_reducible conv => (arg 1; whnf)); refine Go.mk ?_)))
        refine ⟨m3, m2, ?_⟩
        ((refine Go.p ?_; (with_reducible conv => (arg 1; whnf)); refine Go.mk ?_); repeat ((first | refine br_t rfl ?_ | refine br_f rfl ?_ | refine ⟨rfl, ?_⟩ | refine ⟨lt_sz (Nat.le_of_ble_eq_true rfl), ?_⟩ | refine ⟨Nat.le_of_lt (lt_sz (Nat.le_of_ble_eq_true rfl)), ?_⟩); (refine Go.p ?_; (with_reducible conv => (arg 1; whnf)); refine Go.mk ?_)))
        exact h
    · ((refine Go.p ?_; (with_reducible conv => (arg 1; whnf)); refine Go.mk ?_); repeat ((first | refine br_t rfl ?_ | refine br_f rfl ?_ | refine ⟨rfl, ?_⟩ | refine ⟨lt_sz (Nat.le_of_ble_eq_true rfl), ?_⟩ | refine ⟨Nat.le_of_lt (lt_sz (Nat.le_of_ble_eq_true rfl)), ?_⟩); (refine Go.p ?_; (with_reducible conv => (arg 1; whnf)); refine Go.mk ?_)))
      rw [if_neg fun z => c1 z.1] at h
      refine ⟨m3, m2, ?_⟩
      ((refine Go.p ?_; (with_reducible conv => (arg 1; whnf)); refine Go.mk ?_); repeat ((first | refine br_t rfl ?_ | refine br_f rfl ?_ | refine ⟨rfl, ?_⟩ | refine ⟨lt_sz (Nat.le_of_ble_eq_true rfl), ?_⟩ | refine ⟨Nat.le_of_lt (lt_sz (Nat.le_of_ble_eq_true rfl)), ?_⟩); (refine Go.p ?_; (with_reducible conv => (arg 1; whnf)); refine Go.mk ?_)))
      refine ⟨m1, m2, ?_⟩
      ((refine Go.p ?_; (with_reducible conv => (arg 1; whnf)); refine Go.mk ?_); repeat ((first | refine br_t rfl ?_ | refine br_f rfl ?_ | refine ⟨rfl, ?_⟩ | refine ⟨lt_sz (Nat.le_of_ble_eq_true rfl), ?_⟩ | refine ⟨Nat.le_of_lt (lt_sz (Nat.le_of_ble_eq_true rfl)), ?_⟩); (refine Go.p ?_; (with_reducible conv => (arg 1; whnf)); refine Go.mk ?_)))
      refine ⟨m3, m2, ?_⟩
      ((refine Go.p ?_; (with_reducible conv => (arg 1; whnf)); refine Go.mk ?_); repeat ((first | refine br_t rfl ?_ | refine br_f rfl ?_ | refine ⟨rfl, ?_⟩ | refine ⟨lt_sz (Nat.le_of_ble_eq_true rfl), ?_⟩ | refine ⟨Nat.le_of_lt (lt_sz (Nat.le_of_ble_eq_true rfl)), ?_⟩); (refine Go.p ?_; (with_reducible conv => (arg 1; whnf)); refine Go.mk ?_)))
      exact h
/-- the law's own telling of so many rounds -/
def cb (s dn up : Int) (b : Bool) (m : Int) : Option Ef :=
  if b = true then
    (if 0 < dn - up then (if dn + (m - 1) * (dn - up) ≤ s then some (dn + (m - 1) * (dn - up), m * (up - dn), s - m * (dn - up)) else none)
      else if dn ≤ s then some (dn, m * (up - dn), s) else none)
  else (if 0 < dn - up then (if 0 ≤ s - dn - (m - 1) * (dn - up) then some (m * (dn - up), m * (up - dn), s - dn - (m - 1) * (dn - up)) else none)
      else if dn ≤ s then some (0, m * (up - dn), s - dn) else none)
theorem s_comb {n : Nat} (hn : 1 ≤ n) (s dn up : Int) (b : Bool) (m : Int) (hm : -(2 ^ 200) < m ∧ m < 2 ^ 200) (hd : -(2 ^ 200) < dn ∧ dn < 2 ^ 200) (hu : -(2 ^ 200) < up ∧ up < 2 ^ 200) {k : D → List D → Prop} (h : k (oD (cb s dn up b m)) []) : semN T n fx__law_comb [.int s, .tup [.int dn, .int up, .bl b], .int m] k := by
  obtain ⟨n, rfl⟩ : ∃ m, n = m + 1 := ⟨n - 1, by omega⟩
  refine sem_succ 6 rfl rfl rfl ?_
  have m1 : Small m := small_of (by omega)
  have m2 : Small (up - dn) := small_of (by omega)
  have m3 : Small (m - 1) := small_of (by omega)
  have m4 : Small (dn - up) := small_of (by omega)
  unfold cb at h
  (refine Go.p ?_; (with_reducible conv => (arg 1; whnf)); refine Go.mk ?_)
  refine ⟨m1, m2, ?_⟩
  cases b with
  | true =>
    rw [if_pos rfl] at h
    ((refine Go.p ?_; (with_reducible conv => (arg 1; whnf)); refine Go.mk ?_); repeat ((first | refine br_t rfl ?_ | refine br_f rfl ?_ | refine ⟨rfl, ?_⟩ | refine ⟨lt_sz (Nat.le_of_ble_eq_true rfl), ?_⟩ | refine ⟨Nat.le_of_lt (lt_sz (Nat.le_of_ble_eq_true rfl)), ?_⟩); (refine Go.p ?_; (with_reducible conv => (arg 1; whnf)); refine Go.mk ?_)))
    refine br_d (fun c => ?_) (fun c => ?_)
    · rw [if_pos c] at h
      ((refine Go.p ?_; (with_reducible conv => (arg 1; whnf)); refine Go.mk ?_); repeat ((first | refine br_t rfl ?_ | refine br_f rfl ?_ | refine ⟨rfl, ?_⟩ | refine ⟨lt_sz (Nat.le_of_ble_eq_true rfl), ?_⟩ | refine ⟨Nat.le_of_lt (lt_sz (Nat.le_of_ble_eq_true rfl)), ?_⟩); (refine Go.p ?_; (with_reducible conv => (arg 1; whnf)); refine Go.mk ?_)))
      refine ⟨m3, m4, ?_⟩
      ((refine Go.p ?_; (with_reducible conv => (arg 1; whnf)); refine Go.mk ?_); repeat ((first | refine br_t rfl ?_ | refine br_f rfl ?_ | refine ⟨rfl, ?_⟩ | refine ⟨lt_sz (Nat.le_of_ble_eq_true rfl), ?_⟩ | refine ⟨Nat.le_of_lt (lt_sz (Nat.le_of_ble_eq_true rfl)), ?_⟩); (refine Go.p ?_; (with_reducible conv => (arg 1; whnf)); refine Go.mk ?_)))
      refine ⟨m1, m4, ?_⟩
      ((refine Go.p ?_; (with_reducible conv => (arg 1; whnf)); refine Go.mk ?_); repeat ((first | refine br_t rfl ?_ | refine br_f rfl ?_ | refine ⟨rfl, ?_⟩ | refine ⟨lt_sz (Nat.le_of_ble_eq_true rfl), ?_⟩ | refine ⟨Nat.le_of_lt (lt_sz (Nat.le_of_ble_eq_true rfl)), ?_⟩); (refine Go.p ?_; (with_reducible conv => (arg 1; whnf)); refine Go.mk ?_)))
      refine br_d (fun c1 => ?_) (fun c1 => ?_)
      · rw [if_pos c1] at h
        ((refine Go.p ?_; (with_reducible conv => (arg 1; whnf)); refine Go.mk ?_); repeat ((first | refine br_t rfl ?_ | refine br_f rfl ?_ | refine ⟨rfl, ?_⟩ | refine ⟨lt_sz (Nat.le_of_ble_eq_true rfl), ?_⟩ | refine ⟨Nat.le_of_lt (lt_sz (Nat.le_of_ble_eq_true rfl)), ?_⟩); (refine Go.p ?_; (with_reducible conv => (arg 1; whnf)); refine Go.mk ?_)))
        exact h
      · rw [if_neg c1] at h
        ((refine Go.p ?_; (with_reducible conv => (arg 1; whnf)); refine Go.mk ?_); repeat ((first | refine br_t rfl ?_ | refine br_f rfl ?_ | refine ⟨rfl, ?_⟩ | refine ⟨lt_sz (Nat.le_of_ble_eq_true rfl), ?_⟩ | refine ⟨Nat.le_of_lt (lt_sz (Nat.le_of_ble_eq_true rfl)), ?_⟩); (refine Go.p ?_; (with_reducible conv => (arg 1; whnf)); refine Go.mk ?_)))
        exact h
    · rw [if_neg c] at h
      ((refine Go.p ?_; (with_reducible conv => (arg 1; whnf)); refine Go.mk ?_); repeat ((first | refine br_t rfl ?_ | refine br_f rfl ?_ | refine ⟨rfl, ?_⟩ | refine ⟨lt_sz (Nat.le_of_ble_eq_true rfl), ?_⟩ | refine ⟨Nat.le_of_lt (lt_sz (Nat.le_of_ble_eq_true rfl)), ?_⟩); (refine Go.p ?_; (with_reducible conv => (arg 1; whnf)); refine Go.mk ?_)))
      refine br_d (fun c1 => ?_) (fun c1 => ?_)
      · rw [if_pos c1] at h
        ((refine Go.p ?_; (with_reducible conv => (arg 1; whnf)); refine Go.mk ?_); repeat ((first | refine br_t rfl ?_ | refine br_f rfl ?_ | refine ⟨rfl, ?_⟩ | refine ⟨lt_sz (Nat.le_of_ble_eq_true rfl), ?_⟩ | refine ⟨Nat.le_of_lt (lt_sz (Nat.le_of_ble_eq_true rfl)), ?_⟩); (refine Go.p ?_; (with_reducible conv => (arg 1; whnf)); refine Go.mk ?_)))
        exact h
      · rw [if_neg c1] at h
        ((refine Go.p ?_; (with_reducible conv => (arg 1; whnf)); refine Go.mk ?_); repeat ((first | refine br_t rfl ?_ | refine br_f rfl ?_ | refine ⟨rfl, ?_⟩ | refine ⟨lt_sz (Nat.le_of_ble_eq_true rfl), ?_⟩ | refine ⟨Nat.le_of_lt (lt_sz (Nat.le_of_ble_eq_true rfl)), ?_⟩); (refine Go.p ?_; (with_reducible conv => (arg 1; whnf)); refine Go.mk ?_)))
        exact h
  | false =>
    rw [if_neg Bool.false_ne_true] at h
    ((refine Go.p ?_; (with_reducible conv => (arg 1; whnf)); refine Go.mk ?_); repeat ((first | refine br_t rfl ?_ | refine br_f rfl ?_ | refine ⟨rfl, ?_⟩ | refine ⟨lt_sz (Nat.le_of_ble_eq_true rfl), ?_⟩ | refine ⟨Nat.le_of_lt (lt_sz (Nat.le_of_ble_eq_true rfl)), ?_⟩); (refine Go.p ?_; (with_reducible conv => (arg 1; whnf)); refine Go.mk ?_)))
    refine br_d (fun c => ?_) (fun c => ?_)
    · rw [if_pos c] at h
      ((refine Go.p ?_; (with_reducible conv => (arg 1; whnf)); refine Go.mk ?_); repeat ((first | refine br_t rfl ?_ | refine br_f rfl ?_ | refine ⟨rfl, ?_⟩ | refine ⟨lt_sz (Nat.le_of_ble_eq_true rfl), ?_⟩ | refine ⟨Nat.le_of_lt (lt_sz (Nat.le_of_ble_eq_true rfl)), ?_⟩); (refine Go.p ?_; (with_reducible conv => (arg 1; whnf)); refine Go.mk ?_)))
      refine ⟨m1, m4, ?_⟩
      ((refine Go.p ?_; (with_reducible conv => (arg 1; whnf)); refine Go.mk ?_); repeat ((first | refine br_t rfl ?_ | refine br_f rfl ?_ | refine ⟨rfl, ?_⟩ | refine ⟨lt_sz (Nat.le_of_ble_eq_true rfl), ?_⟩ | refine ⟨Nat.le_of_lt (lt_sz (Nat.le_of_ble_eq_true rfl)), ?_⟩); (refine Go.p ?_; (with_reducible conv => (arg 1; whnf)); refine Go.mk ?_)))
      refine ⟨m3, m4, ?_⟩
      ((refine Go.p ?_; (with_reducible conv => (arg 1; whnf)); refine Go.mk ?_); repeat ((first | refine br_t rfl ?_ | refine br_f rfl ?_ | refine ⟨rfl, ?_⟩ | refine ⟨lt_sz (Nat.le_of_ble_eq_true rfl), ?_⟩ | refine ⟨Nat.le_of_lt (lt_sz (Nat.le_of_ble_eq_true rfl)), ?_⟩); (refine Go.p ?_; (with_reducible conv => (arg 1; whnf)); refine Go.mk ?_)))
      refine br_d (fun c1 => ?_) (fun c1 => ?_)
      · rw [if_pos c1] at h
        ((refine Go.p ?_; (with_reducible conv => (arg 1; whnf)); refine Go.mk ?_); repeat ((first | refine br_t rfl ?_ | refine br_f rfl ?_ | refine ⟨rfl, ?_⟩ | refine ⟨lt_sz (Nat.le_of_ble_eq_true rfl), ?_⟩ | refine ⟨Nat.le_of_lt (lt_sz (Nat.le_of_ble_eq_true rfl)), ?_⟩); (refine Go.p ?_; (with_reducible conv => (arg 1; whnf)); refine Go.mk ?_)))
        exact h
      · rw [if_neg c1] at h
        ((refine Go.p ?_; (with_reducible conv => (arg 1; whnf)); refine Go.mk ?_); repeat ((first | refine br_t rfl ?_ | refine br_f rfl ?_ | refine ⟨rfl, ?_⟩ | refine ⟨lt_sz (Nat.le_of_ble_eq_true rfl), ?_⟩ | refine ⟨Nat.le_of_lt (lt_sz (Nat.le_of_ble_eq_true rfl)), ?_⟩); (refine Go.p ?_; (with_reducible conv => (arg 1; whnf)); refine Go.mk ?_)))
        exact h
    · rw [if_neg c] at h
      ((refine Go.p ?_; (with_reducible conv => (arg 1; whnf)); refine Go.mk ?_); repeat ((first | refine br_t rfl ?_ | refine br_f rfl ?_ | refine ⟨rfl, ?_⟩ | refine ⟨lt_sz (Nat.le_of_ble_eq_true rfl), ?_⟩ | refine ⟨Nat.le_of_lt (lt_sz (Nat.le_of_ble_eq_true rfl)), ?_⟩); (refine Go.p ?_; (with_reducible conv => (arg 1; whnf)); refine Go.mk ?_)))
      refine br_d (fun c1 => ?_) (fun c1 => ?_)
      · rw [if_pos c1] at h
        ((refine Go.p ?_; (with_reducible conv => (arg 1; whnf)); refine Go.mk ?_); repeat ((first | refine br_t rfl ?_ | refine br_f rfl ?_ | refine ⟨rfl, ?_⟩ | refine ⟨lt_sz (Nat.le_of_ble_eq_true rfl), ?_⟩ | refine ⟨Nat.le_of_lt (lt_sz (Nat.le_of_ble_eq_true rfl)), ?_⟩); (refine Go.p ?_; (with_reducible conv => (arg 1; whnf)); refine Go.mk ?_)))
        exact h
      · rw [if_neg c1] at h
        ((refine Go.p ?_; (with_reducible conv => (arg 1; whnf)); refine Go.mk ?_); repeat ((first | refine br_t rfl ?_ | refine br_f rfl ?_ | refine ⟨rfl, ?_⟩ | refine ⟨lt_sz (Nat.le_of_ble_eq_true rfl), ?_⟩ | refine ⟨Nat.le_of_lt (lt_sz (Nat.le_of_ble_eq_true rfl)), ?_⟩); (refine Go.p ?_; (with_reducible conv => (arg 1; whnf)); refine Go.mk ?_)))
        exact h
end Tr

set_option maxRecDepth 100000
set_option maxHeartbeats 8000000
set_option exponentiation.threshold 1000
/-! Loops: rows of changes, levels along them. -/
namespace Tr
open PySem
def il (l : List Int) : List D := l.map D.int
theorem il_len (l : List Int) : (il l).length = l.length := List.length_map ..
theorem il_get {l : List Int} {i : Nat} {d : D} (h : (il l)[i]? = some d) : ∃ c, l[i]? = some c ∧ d = .int c := by
  unfold il at h
  rw [List.getElem?_map] at h
  cases e : l[i]? with
  | none => rw [e] at h; cases h
  | some c => rw [e] at h; cases h; exact ⟨c, rfl, rfl⟩
theorem frz_il : ∀ l : List Int, frzL (il l) = true
  | [] => rfl
  | _ :: l => frz_il l
theorem il_snoc (l : List Int) (c : Int) : il l ++ [.int c] = il (l ++ [c]) := by unfold il; simp
theorem drop_get {l : List Int} {i : Nat} {c : Int} (h : l[i]? = some c) : l.drop i = c :: l.drop (i + 1) := by
  obtain ⟨hi, e⟩ := List.getElem?_eq_some_iff.mp h
  rw [List.drop_eq_getElem_cons hi, e]
theorem drop_end {α : Type} {l : List α} {i : Nat} (h : i = l.length) : l.drop i = [] := by rw [h, List.drop_length]
/-- one change -/
def one (s c : Int) : Ef := (max 0 (0 - c), c, min s (s + c))
def eoF (s : Int) : Ef → List Int → Option Ef
  | e, [] => some e
  | e, c :: cs => if s + c < 0 then none else (jn e (one s c)).bind fun e' => eoF s e' cs
def eo (s : Int) (cs : List Int) : Option Ef := eoF s (0, 0, s) cs
theorem s_effect_of {n : Nat} (hn : 2 ≤ n) (s : Int) (cs : List Int) {k : D → List D → Prop} (h : k (oD (eo s cs)) []) : semN T n fx_effect_of [.int s, .lst (il cs)] k := by
  obtain ⟨n, rfl⟩ : ∃ m, n = m + 1 := ⟨n - 1, by omega⟩
  refine sem_succ 2 rfl rfl rfl ?_
  (refine Go.p ?_; (with_reducible conv => (arg 1; whnf)); refine Go.mk ?_)
  refine forL_inv (fun i ρ => ∃ e x, ρ = [some (.int s), some (.lst (il cs)), some (Ef.d e), x] ∧ eoF s e (cs.drop i) = eo s cs) ?_ ?_ ⟨(0, 0, s), none, rfl, rfl⟩
  · rintro i d hd ρ ⟨e, x, rfl, he⟩ P hP
    obtain ⟨c, hc, rfl⟩ := il_get hd
    obtain ⟨e0, e1, e2⟩ := e
    rw [drop_get hc] at he
    unfold eoF at he
    unfold Ef.d
    ((refine Go.p ?_; (with_reducible conv => (arg 1; whnf)); refine Go.mk ?_); repeat ((first | refine br_t rfl ?_ | refine br_f rfl ?_ | refine ⟨rfl, ?_⟩ | refine ⟨lt_sz (Nat.le_of_ble_eq_true rfl), ?_⟩ | refine ⟨Nat.le_of_lt (lt_sz (Nat.le_of_ble_eq_true rfl)), ?_⟩); (refine Go.p ?_; (with_reducible conv => (arg 1; whnf)); refine Go.mk ?_)))
    refine br_d (fun c1 => ?_) (fun c1 => ?_)
    · ((refine Go.p ?_; (with_reducible conv => (arg 1; whnf)); refine Go.mk ?_); repeat ((first | refine br_t rfl ?_ | refine br_f rfl ?_ | refine ⟨rfl, ?_⟩ | refine ⟨lt_sz (Nat.le_of_ble_eq_true rfl), ?_⟩ | refine ⟨Nat.le_of_lt (lt_sz (Nat.le_of_ble_eq_true rfl)), ?_⟩); (refine Go.p ?_; (with_reducible conv => (arg 1; whnf)); refine Go.mk ?_)))
      rw [if_pos c1] at he
      rw [← he] at h
      exact h
    · ((refine Go.p ?_; (with_reducible conv => (arg 1; whnf)); refine Go.mk ?_); repeat ((first | refine br_t rfl ?_ | refine br_f rfl ?_ | refine ⟨rfl, ?_⟩ | refine ⟨lt_sz (Nat.le_of_ble_eq_true rfl), ?_⟩ | refine ⟨Nat.le_of_lt (lt_sz (Nat.le_of_ble_eq_true rfl)), ?_⟩); (refine Go.p ?_; (with_reducible conv => (arg 1; whnf)); refine Go.mk ?_)))
      rw [if_neg c1] at he
      simp only [maxP, minP]
      refine s_joined (by omega) _ _ _ _ _ _ ?_
      unfold one at he
      cases hj : jn (e0, e1, e2) (max 0 (0 - c), c, min s (s + c)) with
      | none =>
        rw [hj] at he
        have he : none = eo s cs := he
        rw [← he] at h
        simp only [oD]
        ((refine Go.p ?_; (with_reducible conv => (arg 1; whnf)); refine Go.mk ?_); repeat ((first | refine br_t rfl ?_ | refine br_f rfl ?_ | refine ⟨rfl, ?_⟩ | refine ⟨lt_sz (Nat.le_of_ble_eq_true rfl), ?_⟩ | refine ⟨Nat.le_of_lt (lt_sz (Nat.le_of_ble_eq_true rfl)), ?_⟩); (refine Go.p ?_; (with_reducible conv => (arg 1; whnf)); refine Go.mk ?_)))
        exact h
      | some e' =>
        rw [hj] at he
        obtain ⟨e0', e1', e2'⟩ := e'
        simp only [oD, Ef.d]
        ((refine Go.p ?_; (with_reducible conv => (arg 1; whnf)); refine Go.mk ?_); repeat ((first | refine br_t rfl ?_ | refine br_f rfl ?_ | refine ⟨rfl, ?_⟩ | refine ⟨lt_sz (Nat.le_of_ble_eq_true rfl), ?_⟩ | refine ⟨Nat.le_of_lt (lt_sz (Nat.le_of_ble_eq_true rfl)), ?_⟩); (refine Go.p ?_; (with_reducible conv => (arg 1; whnf)); refine Go.mk ?_)))
        exact hP _ ⟨(e0', e1', e2'), _, rfl, he⟩
  · rintro ρ ⟨e, x, rfl, he⟩
    obtain ⟨e0, e1, e2⟩ := e
    rw [drop_end (by rw [il_len])] at he
    have he : some (e0, e1, e2) = eo s cs := he
    rw [← he] at h
    unfold Ef.d
    ((refine Go.p ?_; (with_reducible conv => (arg 1; whnf)); refine Go.mk ?_); repeat ((first | refine br_t rfl ?_ | refine br_f rfl ?_ | refine ⟨rfl, ?_⟩ | refine ⟨lt_sz (Nat.le_of_ble_eq_true rfl), ?_⟩ | refine ⟨Nat.le_of_lt (lt_sz (Nat.le_of_ble_eq_true rfl)), ?_⟩); (refine Go.p ?_; (with_reducible conv => (arg 1; whnf)); refine Go.mk ?_)))
    exact h
def las (s : Int) : Int → List Int → List Int
  | l, [] => [l]
  | l, c :: cs => l :: (match stp s l c with | none => [] | some l' => las s l' cs)
theorem s_levels_along {n : Nat} (hn : 2 ≤ n) (s l : Int) (cs : List Int) (hl : cs.length ≤ 400) {k : D → List D → Prop} (h : k (.lst (il (las s l cs))) []) : semN T n fx_levels_along [.int s, .int l, .lst (il cs)] k := by
  obtain ⟨n, rfl⟩ : ∃ m, n = m + 1 := ⟨n - 1, by omega⟩
  generalize hW : las s l cs = W at h
  refine sem_succ 2 rfl rfl rfl ?_
  (refine Go.p ?_; (with_reducible conv => (arg 1; whnf)); refine Go.mk ?_)
  refine forL_inv (fun i ρ => ∃ l' acc x, ρ = [some (.int s), some (.int l'), some (.lst (il cs)), some (.mu (il (acc ++ [l']))), x] ∧ acc ++ las s l' (cs.drop i) = W ∧ acc.length ≤ i) ?_ ?_ ⟨l, [], none, rfl, hW, Nat.le_refl _⟩
  · rintro i d hd ρ ⟨l', acc, x, rfl, he, ha⟩ P hP
    obtain ⟨c, hc, rfl⟩ := il_get hd
    rw [drop_get hc] at he
    unfold las at he
    have hi := (List.getElem?_eq_some_iff.mp hc).1
    ((refine Go.p ?_; (with_reducible conv => (arg 1; whnf)); refine Go.mk ?_); repeat ((first | refine br_t rfl ?_ | refine br_f rfl ?_ | refine ⟨rfl, ?_⟩ | refine ⟨lt_sz (Nat.le_of_ble_eq_true rfl), ?_⟩ | refine ⟨Nat.le_of_lt (lt_sz (Nat.le_of_ble_eq_true rfl)), ?_⟩); (refine Go.p ?_; (with_reducible conv => (arg 1; whnf)); refine Go.mk ?_)))
    refine s_stepped (by omega) _ _ _ ?_
    cases hs : stp s l' c with
    | none =>
      rw [hs] at he
      simp only [oI]
      ((refine Go.p ?_; (with_reducible conv => (arg 1; whnf)); refine Go.mk ?_); repeat ((first | refine br_t rfl ?_ | refine br_f rfl ?_ | refine ⟨rfl, ?_⟩ | refine ⟨lt_sz (Nat.le_of_ble_eq_true rfl), ?_⟩ | refine ⟨Nat.le_of_lt (lt_sz (Nat.le_of_ble_eq_true rfl)), ?_⟩); (refine Go.p ?_; (with_reducible conv => (arg 1; whnf)); refine Go.mk ?_)))
      rw [frz_il]
      ((refine Go.p ?_; (with_reducible conv => (arg 1; whnf)); refine Go.mk ?_); repeat ((first | refine br_t rfl ?_ | refine br_f rfl ?_ | refine ⟨rfl, ?_⟩ | refine ⟨lt_sz (Nat.le_of_ble_eq_true rfl), ?_⟩ | refine ⟨Nat.le_of_lt (lt_sz (Nat.le_of_ble_eq_true rfl)), ?_⟩); (refine Go.p ?_; (with_reducible conv => (arg 1; whnf)); refine Go.mk ?_)))
      rw [he]
      exact h
    | some l2 =>
      rw [hs] at he
      simp only [oI]
      ((refine Go.p ?_; (with_reducible conv => (arg 1; whnf)); refine Go.mk ?_); repeat ((first | refine br_t rfl ?_ | refine br_f rfl ?_ | refine ⟨rfl, ?_⟩ | refine ⟨lt_sz (Nat.le_of_ble_eq_true rfl), ?_⟩ | refine ⟨Nat.le_of_lt (lt_sz (Nat.le_of_ble_eq_true rfl)), ?_⟩); (refine Go.p ?_; (with_reducible conv => (arg 1; whnf)); refine Go.mk ?_)))
      refine ⟨lt_sz (by rw [il_len]; simp; omega), ?_⟩
      ((refine Go.p ?_; (with_reducible conv => (arg 1; whnf)); refine Go.mk ?_); repeat ((first | refine br_t rfl ?_ | refine br_f rfl ?_ | refine ⟨rfl, ?_⟩ | refine ⟨lt_sz (Nat.le_of_ble_eq_true rfl), ?_⟩ | refine ⟨Nat.le_of_lt (lt_sz (Nat.le_of_ble_eq_true rfl)), ?_⟩); (refine Go.p ?_; (with_reducible conv => (arg 1; whnf)); refine Go.mk ?_)))
      rw [il_snoc]
      refine hP _ ⟨l2, acc ++ [l'], _, rfl, ?_, ?_⟩
      · rw [← he]; simp
      · simp; omega
  · rintro ρ ⟨l', acc, x, rfl, he, ha⟩
    rw [drop_end (by rw [il_len])] at he
    unfold las at he
    ((refine Go.p ?_; (with_reducible conv => (arg 1; whnf)); refine Go.mk ?_); repeat ((first | refine br_t rfl ?_ | refine br_f rfl ?_ | refine ⟨rfl, ?_⟩ | refine ⟨lt_sz (Nat.le_of_ble_eq_true rfl), ?_⟩ | refine ⟨Nat.le_of_lt (lt_sz (Nat.le_of_ble_eq_true rfl)), ?_⟩); (refine Go.p ?_; (with_reducible conv => (arg 1; whnf)); refine Go.mk ?_)))
    rw [frz_il]
    ((refine Go.p ?_; (with_reducible conv => (arg 1; whnf)); refine Go.mk ?_); repeat ((first | refine br_t rfl ?_ | refine br_f rfl ?_ | refine ⟨rfl, ?_⟩ | refine ⟨lt_sz (Nat.le_of_ble_eq_true rfl), ?_⟩ | refine ⟨Nat.le_of_lt (lt_sz (Nat.le_of_ble_eq_true rfl)), ?_⟩); (refine Go.p ?_; (with_reducible conv => (arg 1; whnf)); refine Go.mk ?_)))
    rw [he]
    exact h
theorem s_along {n : Nat} (hn : 1 ≤ n) (s l : Int) (cs : List Int) (hl : cs.length ≤ 400) {k : D → List D → Prop} (h : k (.lst (il (las s l cs))) []) : semN T n fx__law_along [.int s, .int l, .lst (il cs)] k := by
  obtain ⟨n, rfl⟩ : ∃ m, n = m + 1 := ⟨n - 1, by omega⟩
  generalize hW : las s l cs = W at h
  refine sem_succ 2 rfl rfl rfl ?_
  (refine Go.p ?_; (with_reducible conv => (arg 1; whnf)); refine Go.mk ?_)
  refine forL_inv (fun i ρ => ∃ l' acc x, ρ = [some (.int s), some (.int l), some (.lst (il cs)), some (.mu (il (acc ++ [l']))), x] ∧ acc ++ las s l' (cs.drop i) = W ∧ acc.length ≤ i) ?_ ?_ ⟨l, [], none, rfl, hW, Nat.le_refl _⟩
  · rintro i d hd ρ ⟨l', acc, x, rfl, he, ha⟩ P hP
    obtain ⟨c, hc, rfl⟩ := il_get hd
    rw [drop_get hc] at he
    unfold las stp at he
    have hi := (List.getElem?_eq_some_iff.mp hc).1
    have hat : L2.atI (il (acc ++ [l'])) (-1) = some (.int l') := by rw [← il_snoc]; exact L2.atI_last _ _
    (refine Go.p ?_; (with_reducible conv => (arg 1; whnf)); refine Go.mk ?_)
    rw [hat]
    ((refine Go.p ?_; (with_reducible conv => (arg 1; whnf)); refine Go.mk ?_); repeat ((first | refine br_t rfl ?_ | refine br_f rfl ?_ | refine ⟨rfl, ?_⟩ | refine ⟨lt_sz (Nat.le_of_ble_eq_true rfl), ?_⟩ | refine ⟨Nat.le_of_lt (lt_sz (Nat.le_of_ble_eq_true rfl)), ?_⟩); (refine Go.p ?_; (with_reducible conv => (arg 1; whnf)); refine Go.mk ?_)))
    refine br_d (fun c1 => ?_) (fun c1 => ?_)
    · rw [if_pos c1] at he
      ((refine Go.p ?_; (with_reducible conv => (arg 1; whnf)); refine Go.mk ?_); repeat ((first | refine br_t rfl ?_ | refine br_f rfl ?_ | refine ⟨rfl, ?_⟩ | refine ⟨lt_sz (Nat.le_of_ble_eq_true rfl), ?_⟩ | refine ⟨Nat.le_of_lt (lt_sz (Nat.le_of_ble_eq_true rfl)), ?_⟩); (refine Go.p ?_; (with_reducible conv => (arg 1; whnf)); refine Go.mk ?_)))
      rw [frz_il]
      ((refine Go.p ?_; (with_reducible conv => (arg 1; whnf)); refine Go.mk ?_); repeat ((first | refine br_t rfl ?_ | refine br_f rfl ?_ | refine ⟨rfl, ?_⟩ | refine ⟨lt_sz (Nat.le_of_ble_eq_true rfl), ?_⟩ | refine ⟨Nat.le_of_lt (lt_sz (Nat.le_of_ble_eq_true rfl)), ?_⟩); (refine Go.p ?_; (with_reducible conv => (arg 1; whnf)); refine Go.mk ?_)))
      rw [he]
      exact h
    · rw [if_neg c1] at he
      ((refine Go.p ?_; (with_reducible conv => (arg 1; whnf)); refine Go.mk ?_); repeat ((first | refine br_t rfl ?_ | refine br_f rfl ?_ | refine ⟨rfl, ?_⟩ | refine ⟨lt_sz (Nat.le_of_ble_eq_true rfl), ?_⟩ | refine ⟨Nat.le_of_lt (lt_sz (Nat.le_of_ble_eq_true rfl)), ?_⟩); (refine Go.p ?_; (with_reducible conv => (arg 1; whnf)); refine Go.mk ?_)))
      rw [hat]
      ((refine Go.p ?_; (with_reducible conv => (arg 1; whnf)); refine Go.mk ?_); repeat ((first | refine br_t rfl ?_ | refine br_f rfl ?_ | refine ⟨rfl, ?_⟩ | refine ⟨lt_sz (Nat.le_of_ble_eq_true rfl), ?_⟩ | refine ⟨Nat.le_of_lt (lt_sz (Nat.le_of_ble_eq_true rfl)), ?_⟩); (refine Go.p ?_; (with_reducible conv => (arg 1; whnf)); refine Go.mk ?_)))
      refine ⟨lt_sz (by rw [il_len]; simp; omega), ?_⟩
      ((refine Go.p ?_; (with_reducible conv => (arg 1; whnf)); refine Go.mk ?_); repeat ((first | refine br_t rfl ?_ | refine br_f rfl ?_ | refine ⟨rfl, ?_⟩ | refine ⟨lt_sz (Nat.le_of_ble_eq_true rfl), ?_⟩ | refine ⟨Nat.le_of_lt (lt_sz (Nat.le_of_ble_eq_true rfl)), ?_⟩); (refine Go.p ?_; (with_reducible conv => (arg 1; whnf)); refine Go.mk ?_)))
      simp only [minP]
      rw [il_snoc]
      refine hP _ ⟨min s (l' + c), acc ++ [l'], _, rfl, ?_, ?_⟩
      · rw [← he]; simp
      · simp; omega
  · rintro ρ ⟨l', acc, x, rfl, he, ha⟩
    rw [drop_end (by rw [il_len])] at he
    unfold las at he
    ((refine Go.p ?_; (with_reducible conv => (arg 1; whnf)); refine Go.mk ?_); repeat ((first | refine br_t rfl ?_ | refine br_f rfl ?_ | refine ⟨rfl, ?_⟩ | refine ⟨lt_sz (Nat.le_of_ble_eq_true rfl), ?_⟩ | refine ⟨Nat.le_of_lt (lt_sz (Nat.le_of_ble_eq_true rfl)), ?_⟩); (refine Go.p ?_; (with_reducible conv => (arg 1; whnf)); refine Go.mk ?_)))
    rw [frz_il]
    ((refine Go.p ?_; (with_reducible conv => (arg 1; whnf)); refine Go.mk ?_); repeat ((first | refine br_t rfl ?_ | refine br_f rfl ?_ | refine ⟨rfl, ?_⟩ | refine ⟨lt_sz (Nat.le_of_ble_eq_true rfl), ?_⟩ | refine ⟨Nat.le_of_lt (lt_sz (Nat.le_of_ble_eq_true rfl)), ?_⟩); (refine Go.p ?_; (with_reducible conv => (arg 1; whnf)); refine Go.mk ?_)))
    rw [he]
    exact h
end Tr

set_option maxRecDepth 100000
set_option maxHeartbeats 8000000
set_option exponentiation.threshold 1000
/-! The bag of draws. -/
namespace Tr
open PySem
theorem il_drop (l : List Int) (n : Nat) : (il l).drop n = il (l.drop n) := by unfold il; rw [List.map_drop]
theorem il_take (l : List Int) (n : Nat) : (il l).take n = il (l.take n) := by unfold il; rw [List.map_take]
def Bag (f : Nat) (d : D) : Prop := ∃ (a b c : Int) (cs : List Int), d = .mu [.int a, .int b, .int c, .mu (il cs)] ∧ 0 ≤ a ∧ 0 ≤ b ∧ b < 2 ^ 31 ∧ 0 ≤ c ∧ c + f ≤ 2 ^ 40 ∧ cs.length ≤ 63 ∧ ∀ x ∈ cs, (0 : Int) ≤ x
theorem Bag.weak {f g : Nat} {d : D} (h : Bag f d) (hg : g ≤ f) : Bag g d := by
  obtain ⟨a, b, c, cs, e, h1, h2, h3, h4, h5, h6⟩ := h
  exact ⟨a, b, c, cs, e, h1, h2, h3, h4, by omega, h6⟩
theorem s_bag {n : Nat} (hn : 1 ≤ n) (ns : List Int) (hl : ns.length ≤ 63) {k : D → List D → Prop} (h : ∀ d, Bag (2 ^ 39) d → k d []) : semN T n fx__law_bag [.scr (il ns)] k := by
  obtain ⟨n, rfl⟩ : ∃ m, n = m + 1 := ⟨n - 1, by omega⟩
  refine sem_succ 1 rfl rfl rfl ?_
  (refine Go.p ?_; (with_reducible conv => (arg 1; whnf)); refine Go.mk ?_)
  rw [il_drop, il_take, frz_il]
  (refine Go.p ?_; (with_reducible conv => (arg 1; whnf)); refine Go.mk ?_)
  refine compL_inv (fun i ρ acc => ρ = [some (.scr (il ns)), none] ∧ ∃ cs : List Int, acc = il cs ∧ cs.length ≤ i ∧ ∀ x ∈ cs, (0 : Int) ≤ x) ?_ ?_ ?_ ?_ ⟨rfl, [], rfl, Nat.le_refl _, fun _ z => nomatch z⟩
  · rw [il_len, List.length_take, List.length_drop]
    omega
  · rintro i d hd ρ acc ⟨rfl, cs, rfl, hc, hp⟩ hz P hP
    obtain ⟨c, hc', rfl⟩ := il_get hd
    ((refine Go.p ?_; (with_reducible conv => (arg 1; whnf)); refine Go.mk ?_); repeat ((first | refine br_t rfl ?_ | refine br_f rfl ?_ | refine ⟨rfl, ?_⟩ | refine ⟨lt_sz (Nat.le_of_ble_eq_true rfl), ?_⟩ | refine ⟨Nat.le_of_lt (lt_sz (Nat.le_of_ble_eq_true rfl)), ?_⟩); (refine Go.p ?_; (with_reducible conv => (arg 1; whnf)); refine Go.mk ?_)))
    refine ⟨hz, ?_⟩
    ((refine Go.p ?_; (with_reducible conv => (arg 1; whnf)); refine Go.mk ?_); repeat ((first | refine br_t rfl ?_ | refine br_f rfl ?_ | refine ⟨rfl, ?_⟩ | refine ⟨lt_sz (Nat.le_of_ble_eq_true rfl), ?_⟩ | refine ⟨Nat.le_of_lt (lt_sz (Nat.le_of_ble_eq_true rfl)), ?_⟩); (refine Go.p ?_; (with_reducible conv => (arg 1; whnf)); refine Go.mk ?_)))
    rw [il_snoc]
    refine hP _ _ ⟨rfl, _, rfl, by simp; omega, fun x hx => ?_⟩
    rcases List.mem_append.mp hx with hx | hx
    · exact hp x hx
    · rw [List.mem_singleton.mp hx]
      split <;> omega
  · rintro i ρ acc ⟨_, cs, rfl, hc, _⟩
    rw [il_len]; exact hc
  · rintro ρ acc ⟨rfl, cs, rfl, hc, hp⟩
    rw [il_len, List.length_take, List.length_drop] at hc
    ((refine Go.p ?_; (with_reducible conv => (arg 1; whnf)); refine Go.mk ?_); repeat ((first | refine br_t rfl ?_ | refine br_f rfl ?_ | refine ⟨rfl, ?_⟩ | refine ⟨lt_sz (Nat.le_of_ble_eq_true rfl), ?_⟩ | refine ⟨Nat.le_of_lt (lt_sz (Nat.le_of_ble_eq_true rfl)), ?_⟩); (refine Go.p ?_; (with_reducible conv => (arg 1; whnf)); refine Go.mk ?_)))
    exact h _ ⟨_, _, _, cs, rfl, by omega, by omega, by omega, by omega, by omega, by omega, hp⟩
theorem s_take {n f : Nat} {bag : D} (hn : 1 ≤ n) (hb : Bag (f + 1) bag) {m : Int} (hm : 0 < m) (sm : Small m) {k : D → List D → Prop} (h : ∀ r bag', 0 ≤ r → r < m → Bag f bag' → k (.int r) [bag']) : semN T n fx__law_take [bag, .int m] k := by
  obtain ⟨n, rfl⟩ : ∃ m, n = m + 1 := ⟨n - 1, by omega⟩
  obtain ⟨a, b, c, cs, rfl, ha, hb1, hb2, hc, hcf, hcl, hcs⟩ := hb
  refine sem_succ 5 rfl rfl rfl ?_
  have fin : ∀ (v a' b' c' : Int), 0 ≤ a' → 0 ≤ b' → b' < 2 ^ 31 → 0 ≤ c' → c' ≤ c + 1 → k (.int (v % m)) [.mu [.int a', .int b', .int c', .mu (il cs)]] := fun v a' b' c' h1 h2 h3 h4 h5 =>
    h _ _ (Int.emod_nonneg _ (by omega)) (Int.emod_lt_of_pos _ hm) ⟨a', b', c', cs, rfl, h1, h2, h3, h4, by omega, hcl, hcs⟩
  have sN : ∀ i : Int, 0 ≤ i → i < 2 ^ 200 → Small i := fun i h1 h2 => small_of (by omega)
  have b0 : ∀ v : Int, 0 ≤ v % 2147483647 := fun v => Int.emod_nonneg _ (by decide)
  have b1 : ∀ v : Int, v % 2147483647 < 2 ^ 31 := fun v => Int.lt_of_lt_of_le (Int.emod_lt_of_pos _ (by decide)) (by decide)
  have d0 : ∀ v : Int, 0 ≤ v → 0 ≤ v / m := fun v h => Int.ediv_nonneg h (Int.le_of_lt hm)
  have sB : ∀ v : Int, 0 ≤ v → v < 2 ^ 31 → Small v ∧ Small (v + 1) ∧ Small ((v + 1) * 39373 % 1000000007) ∧ ∀ w : Int, Small (w % 998244353) := fun v h1 h2 => ⟨sN _ (by omega) (by omega), sN _ (by omega) (by omega), sN _ (by omega) (by omega), fun w => sN _ (by omega) (by omega)⟩
  have sW : ∀ w : Int, Small (w % 998244353) := fun w => sN _ (by omega) (by omega)
  have sc : Small (c + 1) := sN _ (by omega) (by omega)
  have k1 : Small 48271 := sN _ (by omega) (by omega)
  have k2 : Small 7919 := sN _ (by omega) (by omega)
  have k3 : Small 39373 := sN _ (by omega) (by omega)
  have k4 : Small 30011 := sN _ (by omega) (by omega)
  have k5 : Small 7 := sN _ (by omega) (by omega)
  obtain ⟨L, hL, hLp, hLl⟩ : ∃ L, List.take (HT.sIx (il cs).length (il cs).length none - HT.sIx (il cs).length 0 (some c)) (List.drop (HT.sIx (il cs).length 0 (some c)) cs) = L ∧ (∀ x ∈ L, (0 : Int) ≤ x) ∧ L.length ≤ 63 := by
    refine ⟨_, rfl, fun x hx => hcs x (List.mem_of_mem_drop (List.mem_of_mem_take hx)), ?_⟩
    rw [List.length_take, List.length_drop]; omega
  obtain ⟨x, hx, hx0⟩ : ∃ x, nth (il L ++ [.int 0]) 0 = some (.int x) ∧ 0 ≤ x := by
    cases L with
    | nil => exact ⟨0, rfl, by omega⟩
    | cons y L => exact ⟨y, rfl, hLp y List.mem_cons_self⟩
  have c0 : 0 ≤ c + 1 := by omega
  have cc : c ≤ c + 1 := by omega
  (refine Go.p ?_; (with_reducible conv => (arg 1; whnf)); refine Go.mk ?_)
  refine br_d (fun c1 => ?_) (fun c1 => ?_)
  · (refine Go.p ?_; (with_reducible conv => (arg 1; whnf)); refine Go.mk ?_)
    rw [frz_il]
    (refine Go.p ?_; (with_reducible conv => (arg 1; whnf)); refine Go.mk ?_)
    rw [il_drop, il_take, frz_il]
    (refine Go.p ?_; (with_reducible conv => (arg 1; whnf)); refine Go.mk ?_)
    rw [hL]
    refine ⟨Nat.le_of_lt (lt_sz (by rw [il_len]; simp; omega)), ?_⟩
    (refine Go.p ?_; (with_reducible conv => (arg 1; whnf)); refine Go.mk ?_)
    rw [hx]
    (refine Go.p ?_; (with_reducible conv => (arg 1; whnf)); refine Go.mk ?_)
    refine ⟨by decide, by decide, by decide, ?_⟩
    (refine Go.p ?_; (with_reducible conv => (arg 1; whnf)); refine Go.mk ?_)
    refine br_d (fun c2 => ?_) (fun c2 => ?_)
    · clear c2
      (refine Go.p ?_; (with_reducible conv => (arg 1; whnf)); refine Go.mk ?_)
      refine ⟨(sB b hb1 hb2).1, k1, ?_⟩
      (refine Go.p ?_; (with_reducible conv => (arg 1; whnf)); refine Go.mk ?_)
      refine ⟨by decide, ?_⟩
      (refine Go.p ?_; (with_reducible conv => (arg 1; whnf)); refine Go.mk ?_)
      refine ⟨k2, sc, ?_⟩
      (refine Go.p ?_; (with_reducible conv => (arg 1; whnf)); refine Go.mk ?_)
      refine ⟨by decide, ?_⟩
      (refine Go.p ?_; (with_reducible conv => (arg 1; whnf)); refine Go.mk ?_)
      refine br_d (fun c3 => ?_) (fun c3 => ?_)
      · clear c3
        (refine Go.p ?_; (with_reducible conv => (arg 1; whnf)); refine Go.mk ?_)
        refine ⟨hm, ?_⟩
        (refine Go.p ?_; (with_reducible conv => (arg 1; whnf)); refine Go.mk ?_)
        refine ⟨hm, sm, ?_⟩
        (refine Go.p ?_; (with_reducible conv => (arg 1; whnf)); refine Go.mk ?_)
        exact fin _ _ _ _ (d0 _ hx0) (b0 _) (b1 _) c0 (Int.le_refl _)
      · clear c3
        (refine Go.p ?_; (with_reducible conv => (arg 1; whnf)); refine Go.mk ?_)
        refine ⟨(sB _ (b0 _) (b1 _)).2.1, k3, ?_⟩
        (refine Go.p ?_; (with_reducible conv => (arg 1; whnf)); refine Go.mk ?_)
        refine ⟨by decide, ?_⟩
        (refine Go.p ?_; (with_reducible conv => (arg 1; whnf)); refine Go.mk ?_)
        refine ⟨(sB _ (b0 _) (b1 _)).2.2.1, (sB _ (b0 _) (b1 _)).2.2.1, ?_⟩
        (refine Go.p ?_; (with_reducible conv => (arg 1; whnf)); refine Go.mk ?_)
        refine ⟨by decide, ?_⟩
        (refine Go.p ?_; (with_reducible conv => (arg 1; whnf)); refine Go.mk ?_)
        refine ⟨sW _, k4, ?_⟩
        (refine Go.p ?_; (with_reducible conv => (arg 1; whnf)); refine Go.mk ?_)
        refine ⟨by decide, ?_⟩
        (refine Go.p ?_; (with_reducible conv => (arg 1; whnf)); refine Go.mk ?_)
        refine ⟨by decide, k5, ?_⟩
        (refine Go.p ?_; (with_reducible conv => (arg 1; whnf)); refine Go.mk ?_)
        refine ⟨hm, ?_⟩
        (refine Go.p ?_; (with_reducible conv => (arg 1; whnf)); refine Go.mk ?_)
        exact fin _ _ _ _ hx0 (b0 _) (b1 _) c0 (Int.le_refl _)
    · clear c2
      (refine Go.p ?_; (with_reducible conv => (arg 1; whnf)); refine Go.mk ?_)
      refine ⟨(sB b hb1 hb2).1, k1, ?_⟩
      (refine Go.p ?_; (with_reducible conv => (arg 1; whnf)); refine Go.mk ?_)
      refine ⟨by decide, ?_⟩
      (refine Go.p ?_; (with_reducible conv => (arg 1; whnf)); refine Go.mk ?_)
      refine ⟨k2, sc, ?_⟩
      (refine Go.p ?_; (with_reducible conv => (arg 1; whnf)); refine Go.mk ?_)
      refine ⟨by decide, ?_⟩
      (refine Go.p ?_; (with_reducible conv => (arg 1; whnf)); refine Go.mk ?_)
      refine br_f rfl ?_
      (refine Go.p ?_; (with_reducible conv => (arg 1; whnf)); refine Go.mk ?_)
      refine ⟨(sB _ (b0 _) (b1 _)).2.1, k3, ?_⟩
      (refine Go.p ?_; (with_reducible conv => (arg 1; whnf)); refine Go.mk ?_)
      refine ⟨by decide, ?_⟩
      (refine Go.p ?_; (with_reducible conv => (arg 1; whnf)); refine Go.mk ?_)
      refine ⟨(sB _ (b0 _) (b1 _)).2.2.1, (sB _ (b0 _) (b1 _)).2.2.1, ?_⟩
      (refine Go.p ?_; (with_reducible conv => (arg 1; whnf)); refine Go.mk ?_)
      refine ⟨by decide, ?_⟩
      (refine Go.p ?_; (with_reducible conv => (arg 1; whnf)); refine Go.mk ?_)
      refine ⟨sW _, k4, ?_⟩
      (refine Go.p ?_; (with_reducible conv => (arg 1; whnf)); refine Go.mk ?_)
      refine ⟨by decide, ?_⟩
      (refine Go.p ?_; (with_reducible conv => (arg 1; whnf)); refine Go.mk ?_)
      refine ⟨by decide, k5, ?_⟩
      (refine Go.p ?_; (with_reducible conv => (arg 1; whnf)); refine Go.mk ?_)
      refine ⟨hm, ?_⟩
      (refine Go.p ?_; (with_reducible conv => (arg 1; whnf)); refine Go.mk ?_)
      exact fin _ _ _ _ (Int.le_refl _) (b0 _) (b1 _) c0 (Int.le_refl _)
  · (refine Go.p ?_; (with_reducible conv => (arg 1; whnf)); refine Go.mk ?_)
    refine br_d (fun c3 => ?_) (fun c3 => ?_)
    · clear c3
      (refine Go.p ?_; (with_reducible conv => (arg 1; whnf)); refine Go.mk ?_)
      refine ⟨hm, ?_⟩
      (refine Go.p ?_; (with_reducible conv => (arg 1; whnf)); refine Go.mk ?_)
      refine ⟨hm, sm, ?_⟩
      (refine Go.p ?_; (with_reducible conv => (arg 1; whnf)); refine Go.mk ?_)
      exact fin _ _ _ _ (d0 _ ha) hb1 hb2 hc cc
    · clear c3
      (refine Go.p ?_; (with_reducible conv => (arg 1; whnf)); refine Go.mk ?_)
      refine ⟨(sB _ hb1 hb2).2.1, k3, ?_⟩
      (refine Go.p ?_; (with_reducible conv => (arg 1; whnf)); refine Go.mk ?_)
      refine ⟨by decide, ?_⟩
      (refine Go.p ?_; (with_reducible conv => (arg 1; whnf)); refine Go.mk ?_)
      refine ⟨(sB _ hb1 hb2).2.2.1, (sB _ hb1 hb2).2.2.1, ?_⟩
      (refine Go.p ?_; (with_reducible conv => (arg 1; whnf)); refine Go.mk ?_)
      refine ⟨by decide, ?_⟩
      (refine Go.p ?_; (with_reducible conv => (arg 1; whnf)); refine Go.mk ?_)
      refine ⟨sW _, k4, ?_⟩
      (refine Go.p ?_; (with_reducible conv => (arg 1; whnf)); refine Go.mk ?_)
      refine ⟨by decide, ?_⟩
      (refine Go.p ?_; (with_reducible conv => (arg 1; whnf)); refine Go.mk ?_)
      refine ⟨by decide, k5, ?_⟩
      (refine Go.p ?_; (with_reducible conv => (arg 1; whnf)); refine Go.mk ?_)
      refine ⟨hm, ?_⟩
      (refine Go.p ?_; (with_reducible conv => (arg 1; whnf)); refine Go.mk ?_)
      exact fin _ _ _ _ ha hb1 hb2 hc cc
theorem fzK_frz {d : D} {k : D → Prop} (h : frz d = true) (hk : k d) : fzK d k := by
  cases d with
  | tup l =>
    have h : frzL l = true := h
    show (match frzL l with | true => k (.tup l) | false => k (.tup (freezeL l)))
    rw [h]; exact hk
  | hole => cases h
  | mu l => cases h
  | _ => exact hk
theorem s_some {n f : Nat} {bag : D} (hn : 2 ≤ n) (hb : Bag (f + 1) bag) {l : List D} (hl : 0 < l.length) (hl2 : l.length < 1000) (hf : frzL l = true) {k : D → List D → Prop} (h : ∀ x bag', x ∈ l → Bag f bag' → k x [bag']) : semN T n fx__law_some [bag, .lst l] k := by
  obtain ⟨n, rfl⟩ : ∃ m, n = m + 1 := ⟨n - 1, by omega⟩
  refine sem_succ 0 rfl rfl rfl ?_
  (refine Go.p ?_; (with_reducible conv => (arg 1; whnf)); refine Go.mk ?_)
  refine s_take (by omega) hb (by omega) (small_of (by omega)) fun r bag' h0 h1 hb' => ?_
  obtain ⟨i, rfl⟩ : ∃ i : Nat, r = i := ⟨r.toNat, by omega⟩
  have hi : i < l.length := by omega
  have hat : L2.atI l (i : Int) = some l[i] := L2.atI_nat (List.getElem?_eq_getElem hi)
  (refine Go.p ?_; (with_reducible conv => (arg 1; whnf)); refine Go.mk ?_)
  rw [hat]
  have hfi : frz l[i] = true := (frzL_all l).mp hf _ (List.getElem_mem hi)
  (refine Go.p ?_; (with_reducible conv => (arg 1; whnf)); refine Go.mk ?_)
  rw [hfi]
  (refine Go.p ?_; (with_reducible conv => (arg 1; whnf)); refine Go.mk ?_)
  exact fzK_frz hfi (h _ _ (List.getElem_mem hi) hb')
theorem s_number {n f : Nat} {bag : D} (hn : 2 ≤ n) (hb : Bag (f + 3) bag) {m : Int} (hm0 : 0 ≤ m) {k : D → List D → Prop} (h : ∀ r bag', 0 ≤ r → r ≤ m → Bag f bag' → k (.int r) [bag']) : semN T n fx__law_number [bag, .int m] k := by
  obtain ⟨n, rfl⟩ : ∃ m, n = m + 1 := ⟨n - 1, by omega⟩
  refine sem_succ 2 rfl rfl rfl ?_
  have hm : 0 < m + 1 := by omega
  have e8 : (10 : Int) ^ Int.toNat 8 = 100000000 := by decide
  have k1 : Small 100000007 := small_of (by omega)
  have k8 : Small 100000000 := small_of (by omega)
  (refine Go.p ?_; (with_reducible conv => (arg 1; whnf)); refine Go.mk ?_)
  refine ⟨by decide, by decide, by decide, ?_⟩
  (refine Go.p ?_; (with_reducible conv => (arg 1; whnf)); refine Go.mk ?_)
  rw [e8]
  refine s_take (f := f + 2) (by omega) hb (by decide) k8 fun r bag1 h0 h1 hb1 => ?_
  (refine Go.p ?_; (with_reducible conv => (arg 1; whnf)); refine Go.mk ?_)
  refine ⟨by decide, ?_⟩
  (refine Go.p ?_; (with_reducible conv => (arg 1; whnf)); refine Go.mk ?_)
  refine forL_inv (fun i ρ => ∃ bag2 v x, ρ = [some bag2, some (.int m), some (.int v), x] ∧ Bag (f + 2 - i) bag2 ∧ 0 ≤ v ∧ ((i = 0 ∧ v < 10 ^ 8) ∨ (i = 1 ∧ v < 10 ^ 17) ∨ (i = 2 ∧ v < 10 ^ 26))) ?_ ?_ ⟨bag1, r, none, rfl, hb1, h0, .inl ⟨rfl, by omega⟩⟩
  · rintro i d hd ρ ⟨bag2, v, x, rfl, hb2, hv0, hv⟩ P hP
    have hi : i < 2 := by
      have := (List.getElem?_eq_some_iff.mp hd).1
      rw [rangeL_len] at this
      exact this
    have sv : Small v := small_of (by omega)
    (refine Go.p ?_; (with_reducible conv => (arg 1; whnf)); refine Go.mk ?_)
    refine ⟨sv, k1, ?_⟩
    (refine Go.p ?_; (with_reducible conv => (arg 1; whnf)); refine Go.mk ?_)
    refine ⟨by decide, by decide, by decide, ?_⟩
    (refine Go.p ?_; (with_reducible conv => (arg 1; whnf)); refine Go.mk ?_)
    rw [e8]
    refine s_take (f := f + 1 - i) (by omega) (hb2.weak (by omega)) (by decide) k8 fun r' bag3 h0' h1' hb3 => ?_
    (refine Go.p ?_; (with_reducible conv => (arg 1; whnf)); refine Go.mk ?_)
    refine hP _ ⟨bag3, _, _, rfl, hb3.weak (by omega), by omega, ?_⟩
    rcases hv with ⟨rfl, hv⟩ | ⟨rfl, hv⟩ | ⟨rfl, hv⟩
    · exact .inr (.inl ⟨rfl, by omega⟩)
    · exact .inr (.inr ⟨rfl, by omega⟩)
    · omega
  · rintro ρ ⟨bag2, v, x, rfl, hb2, hv0, hv⟩
    rw [rangeL_len] at hb2
    (refine Go.p ?_; (with_reducible conv => (arg 1; whnf)); refine Go.mk ?_)
    refine ⟨hm, ?_⟩
    (refine Go.p ?_; (with_reducible conv => (arg 1; whnf)); refine Go.mk ?_)
    exact h _ _ (Int.emod_nonneg _ (by omega)) (by have := Int.emod_lt_of_pos v hm; omega) hb2
end Tr

set_option maxRecDepth 100000
set_option maxHeartbeats 8000000
set_option exponentiation.threshold 1000
/-! Equal data are alike. -/
namespace Tr
open PySem
theorem lt_sz2 {n : Nat} (h : n ≤ 10000) : n < sizeLine := Nat.lt_of_le_of_lt h (by decide)
def kindOf : D → Int
  | .bl _ => 0 | .int _ => 1 | .str _ => 2 | .tup _ => 3 | .lst _ => 4 | .mu _ => 4
  | _ => -1
mutual
def okD : D → Bool
  | .non => true | .bl _ => true | .int _ => true
  | .tup l => okL l | .lst l => okL l
  | .hole => false | .str _ => false | .mu _ => false | .scr _ => false
def okL : List D → Bool
  | [] => true
  | d :: l => okD d && okL l
end
mutual
def szD : D → Nat
  | .tup l => 1 + szL l | .lst l => 1 + szL l
  | .non => 1 | .bl _ => 1 | .int _ => 1 | .hole => 1 | .str _ => 1 | .mu _ => 1 | .scr _ => 1
def szL : List D → Nat
  | [] => 0
  | d :: l => szD d + szL l
end
mutual
theorem okD_frz : ∀ d : D, okD d = true → frz d = true
  | .non, _ => rfl | .bl _, _ => rfl | .int _, _ => rfl | .lst _, _ => rfl
  | .tup l, h => okL_frz l h
  | .hole, h => nomatch h | .str _, h => nomatch h | .mu _, h => nomatch h | .scr _, h => nomatch h
theorem okL_frz : ∀ l : List D, okL l = true → frzL l = true
  | [], _ => rfl
  | d :: l, h => by
    have h : (okD d && okL l) = true := h
    rw [Bool.and_eq_true] at h
    exact frzL_cons.mpr ⟨okD_frz d h.1, okL_frz l h.2⟩
end
theorem okL_mem : ∀ {l : List D} {d : D}, okL l = true → d ∈ l → okD d = true
  | e :: l, d, h, hd => by
    have h : (okD e && okL l) = true := h
    rw [Bool.and_eq_true] at h
    rcases List.mem_cons.mp hd with rfl | hd
    · exact h.1
    · exact okL_mem h.2 hd
theorem okL_app : ∀ {l m : List D}, okL l = true → okL m = true → okL (l ++ m) = true
  | [], _, _, h => h
  | e :: l, m, h, h2 => by
    have h : (okD e && okL l) = true := h
    rw [Bool.and_eq_true] at h
    show (okD e && okL (l ++ m)) = true
    rw [h.1, okL_app h.2 h2]; rfl
theorem szL_app : ∀ (l m : List D), szL (l ++ m) = szL l + szL m
  | [], m => by show szL m = 0 + szL m; omega
  | e :: l, m => by show szD e + szL (l ++ m) = szD e + szL l + szL m; rw [szL_app l m]; omega
theorem szD_pos (e : D) : 1 ≤ szD e := by cases e <;> (simp only [szD]; omega)
theorem szL_len : ∀ l : List D, l.length ≤ szL l
  | [] => Nat.le_refl _
  | e :: l => by
    have := szL_len l
    have h1 := szD_pos e
    show l.length + 1 ≤ szD e + szL l
    omega
theorem s_kind {n : Nat} (hn : 1 ≤ n) (x : D) (hx : okD x = true) {k : D → List D → Prop} (h : k (.int (kindOf x)) []) : semN T n fx__law_kind [x] k := by
  obtain ⟨n, rfl⟩ : ∃ m, n = m + 1 := ⟨n - 1, by omega⟩
  refine sem_succ 1 rfl rfl rfl ?_
  cases x with
  | non => ((refine Go.p ?_; (with_reducible conv => (arg 1; whnf)); refine Go.mk ?_); repeat ((first | refine br_t rfl ?_ | refine br_f rfl ?_ | refine ⟨rfl, ?_⟩ | refine ⟨lt_sz (Nat.le_of_ble_eq_true rfl), ?_⟩ | refine ⟨Nat.le_of_lt (lt_sz (Nat.le_of_ble_eq_true rfl)), ?_⟩); (refine Go.p ?_; (with_reducible conv => (arg 1; whnf)); refine Go.mk ?_))); exact h
  | bl b =>
    ((refine Go.p ?_; (with_reducible conv => (arg 1; whnf)); refine Go.mk ?_); repeat ((first | refine br_t rfl ?_ | refine br_f rfl ?_ | refine ⟨rfl, ?_⟩ | refine ⟨lt_sz (Nat.le_of_ble_eq_true rfl), ?_⟩ | refine ⟨Nat.le_of_lt (lt_sz (Nat.le_of_ble_eq_true rfl)), ?_⟩); (refine Go.p ?_; (with_reducible conv => (arg 1; whnf)); refine Go.mk ?_)))
    refine ⟨0, .bl true, rfl, rfl, fun i z' hi e => absurd hi (by omega), ?_⟩
    ((refine Go.p ?_; (with_reducible conv => (arg 1; whnf)); refine Go.mk ?_); repeat ((first | refine br_t rfl ?_ | refine br_f rfl ?_ | refine ⟨rfl, ?_⟩ | refine ⟨lt_sz (Nat.le_of_ble_eq_true rfl), ?_⟩ | refine ⟨Nat.le_of_lt (lt_sz (Nat.le_of_ble_eq_true rfl)), ?_⟩); (refine Go.p ?_; (with_reducible conv => (arg 1; whnf)); refine Go.mk ?_)))
    exact h
  | int i =>
    ((refine Go.p ?_; (with_reducible conv => (arg 1; whnf)); refine Go.mk ?_); repeat ((first | refine br_t rfl ?_ | refine br_f rfl ?_ | refine ⟨rfl, ?_⟩ | refine ⟨lt_sz (Nat.le_of_ble_eq_true rfl), ?_⟩ | refine ⟨Nat.le_of_lt (lt_sz (Nat.le_of_ble_eq_true rfl)), ?_⟩); (refine Go.p ?_; (with_reducible conv => (arg 1; whnf)); refine Go.mk ?_)))
    refine ⟨1, .bl true, rfl, rfl, fun i z' hi e => by
      have : i = 0 := by omega
      subst this
      cases e; rfl, ?_⟩
    ((refine Go.p ?_; (with_reducible conv => (arg 1; whnf)); refine Go.mk ?_); repeat ((first | refine br_t rfl ?_ | refine br_f rfl ?_ | refine ⟨rfl, ?_⟩ | refine ⟨lt_sz (Nat.le_of_ble_eq_true rfl), ?_⟩ | refine ⟨Nat.le_of_lt (lt_sz (Nat.le_of_ble_eq_true rfl)), ?_⟩); (refine Go.p ?_; (with_reducible conv => (arg 1; whnf)); refine Go.mk ?_)))
    exact h
  | tup l =>
    ((refine Go.p ?_; (with_reducible conv => (arg 1; whnf)); refine Go.mk ?_); repeat ((first | refine br_t rfl ?_ | refine br_f rfl ?_ | refine ⟨rfl, ?_⟩ | refine ⟨lt_sz (Nat.le_of_ble_eq_true rfl), ?_⟩ | refine ⟨Nat.le_of_lt (lt_sz (Nat.le_of_ble_eq_true rfl)), ?_⟩); (refine Go.p ?_; (with_reducible conv => (arg 1; whnf)); refine Go.mk ?_)))
    refine ⟨3, .bl true, rfl, rfl, fun i z' hi e => by
      have : i = 0 ∨ i = 1 ∨ i = 2 := by omega
      rcases this with rfl | rfl | rfl <;> (cases e; rfl), ?_⟩
    ((refine Go.p ?_; (with_reducible conv => (arg 1; whnf)); refine Go.mk ?_); repeat ((first | refine br_t rfl ?_ | refine br_f rfl ?_ | refine ⟨rfl, ?_⟩ | refine ⟨lt_sz (Nat.le_of_ble_eq_true rfl), ?_⟩ | refine ⟨Nat.le_of_lt (lt_sz (Nat.le_of_ble_eq_true rfl)), ?_⟩); (refine Go.p ?_; (with_reducible conv => (arg 1; whnf)); refine Go.mk ?_)))
    exact h
  | lst l =>
    ((refine Go.p ?_; (with_reducible conv => (arg 1; whnf)); refine Go.mk ?_); repeat ((first | refine br_t rfl ?_ | refine br_f rfl ?_ | refine ⟨rfl, ?_⟩ | refine ⟨lt_sz (Nat.le_of_ble_eq_true rfl), ?_⟩ | refine ⟨Nat.le_of_lt (lt_sz (Nat.le_of_ble_eq_true rfl)), ?_⟩); (refine Go.p ?_; (with_reducible conv => (arg 1; whnf)); refine Go.mk ?_)))
    refine ⟨4, .bl true, rfl, rfl, fun i z' hi e => by
      have : i = 0 ∨ i = 1 ∨ i = 2 ∨ i = 3 := by omega
      rcases this with rfl | rfl | rfl | rfl <;> (cases e; rfl), ?_⟩
    ((refine Go.p ?_; (with_reducible conv => (arg 1; whnf)); refine Go.mk ?_); repeat ((first | refine br_t rfl ?_ | refine br_f rfl ?_ | refine ⟨rfl, ?_⟩ | refine ⟨lt_sz (Nat.le_of_ble_eq_true rfl), ?_⟩ | refine ⟨Nat.le_of_lt (lt_sz (Nat.le_of_ble_eq_true rfl)), ?_⟩); (refine Go.p ?_; (with_reducible conv => (arg 1; whnf)); refine Go.mk ?_)))
    exact h
  | _ => cases hx
@[reducible] def pr (y : D) : D := .tup [y, y]
theorem zip_pr : ∀ l : List D, zipL l l = l.map pr
  | [] => rfl
  | d :: l => by show pr d :: zipL l l = _; rw [zip_pr l]; rfl
theorem alike_go {n : Nat} (hn : 1 ≤ n) {kk : K} (x0 : Option D) (hk : ∀ ρ, kk.nx ρ) : ∀ (m : Nat) (l : List D) (i : Nat) (x4 x5 x6 : Option D), i ≤ l.length → okL l = true → szL (l.drop i) ≤ m → i + szL (l.drop i) ≤ 900 →
    whlN (evE (semN T n) (.cmp .lt (.var 3) (.bi .len (.cons (.var 2) .nil)))) (evSs (semN T n) (match fn__law_alike.body with | .cons _ (.cons (.whl _ b) _) => b | _ => .nil)) (m + 1) [x0, x0, some (.mu (l.map pr)), some (.int i), x4, x5, x6] kk := by
  intro m
  induction m with
  | zero =>
    intro l i x4 x5 x6 hi ho hs hl
    have : i = l.length := by
      have := szL_len (l.drop i)
      rw [List.length_drop] at this
      omega
    unfold whlN
    (refine Go.p ?_; (with_reducible conv => (arg 1; whnf)); refine Go.mk ?_)
    refine br_f (decide_eq_false (by rw [List.length_map]; omega)) (hk _)
  | succ m ih =>
    intro l i x4 x5 x6 hi ho hs hl
    unfold whlN
    (refine Go.p ?_; (with_reducible conv => (arg 1; whnf)); refine Go.mk ?_)
    refine br_d (fun c1 => ?_) (fun c1 => ?_)
    · have hi' : i < l.length := by rw [List.length_map] at c1; omega
      have hy : okD l[i] = true := okL_mem ho (List.getElem_mem hi')
      have hd : l.drop i = l[i] :: l.drop (i + 1) := List.drop_eq_getElem_cons hi'
      have hat : L2.atI (l.map pr) (i : Int) = some (pr l[i]) := L2.atI_nat (by rw [List.getElem?_map, List.getElem?_eq_getElem hi']; rfl)
      have e1 : (i : Int) + 1 = ((i + 1 : Nat) : Int) := by omega
      rw [hd] at hs hl
      generalize l[i] = y at hy hd hat hs hl
      have hf := okD_frz y hy
      have hs : szD y + szL (l.drop (i + 1)) ≤ m + 1 := hs
      have hl : i + (szD y + szL (l.drop (i + 1))) ≤ 900 := hl
      have hll : l.length ≤ 900 := by
        have := szL_len (l.drop (i + 1))
        rw [List.length_drop] at this
        have := szD_pos y
        omega
      have hfp : frz (pr y) = true := by
        show (match frz y with | true => (match frz y with | true => true | false => false) | false => false) = true
        rw [hf]
      (refine Go.p ?_; (with_reducible conv => (arg 1; whnf)); refine Go.mk ?_)
      rw [hat]
      (refine Go.p ?_; (with_reducible conv => (arg 1; whnf)); refine Go.mk ?_)
      rw [hfp]
      have next : ∀ (l' : List D) x4 x5 x6, okL l' = true → szL l' + 1 ≤ szD y → whlN (evE (semN T n) (.cmp .lt (.var 3) (.bi .len (.cons (.var 2) .nil)))) (evSs (semN T n) (match fn__law_alike.body with | .cons _ (.cons (.whl _ b) _) => b | _ => .nil)) (m + 1) [x0, x0, some (.mu ((l ++ l').map pr)), some (.int ((i : Int) + 1)), x4, x5, x6] kk := fun l' x4 x5 x6 h1 h2 => by
        rw [e1]
        have ed : (l ++ l').drop (i + 1) = l.drop (i + 1) ++ l' := List.drop_append_of_le_length hi'
        have := szL_len l'
        refine ih (l ++ l') (i + 1) _ _ _ (by simp; omega) (okL_app ho h1) ?_ ?_
        · rw [ed, szL_app]; omega
        · rw [ed, szL_app]; omega
      have same : ∀ x4 x5 x6, whlN (evE (semN T n) (.cmp .lt (.var 3) (.bi .len (.cons (.var 2) .nil)))) (evSs (semN T n) (match fn__law_alike.body with | .cons _ (.cons (.whl _ b) _) => b | _ => .nil)) (m + 1) [x0, x0, some (.mu (l.map pr)), some (.int ((i : Int) + 1)), x4, x5, x6] kk := fun x4 x5 x6 => by
        have q := next [] x4 x5 x6 rfl (by have := szD_pos y; show 0 + 1 ≤ szD y; omega)
        rw [List.append_nil] at q
        exact q
      cases y with
      | non =>
        (refine Go.p ?_; (with_reducible conv => (arg 1; whnf)); refine Go.mk ?_)
        refine s_kind hn _ rfl ?_
        (refine Go.p ?_; (with_reducible conv => (arg 1; whnf)); refine Go.mk ?_)
        refine s_kind hn _ rfl ?_
        (refine Go.p ?_; (with_reducible conv => (arg 1; whnf)); refine Go.mk ?_)
        refine br_nd (fun z => absurd rfl z) (fun _ => ?_)
        ((refine Go.p ?_; (with_reducible conv => (arg 1; whnf)); refine Go.mk ?_); repeat ((first | refine br_t rfl ?_ | refine br_f rfl ?_ | refine ⟨rfl, ?_⟩ | refine ⟨lt_sz (Nat.le_of_ble_eq_true rfl), ?_⟩ | refine ⟨Nat.le_of_lt (lt_sz (Nat.le_of_ble_eq_true rfl)), ?_⟩); (refine Go.p ?_; (with_reducible conv => (arg 1; whnf)); refine Go.mk ?_)))
        exact same _ _ _
      | bl b =>
        (refine Go.p ?_; (with_reducible conv => (arg 1; whnf)); refine Go.mk ?_)
        refine s_kind hn _ rfl ?_
        (refine Go.p ?_; (with_reducible conv => (arg 1; whnf)); refine Go.mk ?_)
        refine s_kind hn _ rfl ?_
        (refine Go.p ?_; (with_reducible conv => (arg 1; whnf)); refine Go.mk ?_)
        refine br_nd (fun z => absurd rfl z) (fun _ => ?_)
        ((refine Go.p ?_; (with_reducible conv => (arg 1; whnf)); refine Go.mk ?_); repeat ((first | refine br_t rfl ?_ | refine br_f rfl ?_ | refine ⟨rfl, ?_⟩ | refine ⟨lt_sz (Nat.le_of_ble_eq_true rfl), ?_⟩ | refine ⟨Nat.le_of_lt (lt_sz (Nat.le_of_ble_eq_true rfl)), ?_⟩); (refine Go.p ?_; (with_reducible conv => (arg 1; whnf)); refine Go.mk ?_)))
        refine br_nd (fun z => absurd rfl z) (fun _ => ?_)
        ((refine Go.p ?_; (with_reducible conv => (arg 1; whnf)); refine Go.mk ?_); repeat ((first | refine br_t rfl ?_ | refine br_f rfl ?_ | refine ⟨rfl, ?_⟩ | refine ⟨lt_sz (Nat.le_of_ble_eq_true rfl), ?_⟩ | refine ⟨Nat.le_of_lt (lt_sz (Nat.le_of_ble_eq_true rfl)), ?_⟩); (refine Go.p ?_; (with_reducible conv => (arg 1; whnf)); refine Go.mk ?_)))
        exact same _ _ _
      | int b =>
        (refine Go.p ?_; (with_reducible conv => (arg 1; whnf)); refine Go.mk ?_)
        refine s_kind hn _ rfl ?_
        (refine Go.p ?_; (with_reducible conv => (arg 1; whnf)); refine Go.mk ?_)
        refine s_kind hn _ rfl ?_
        (refine Go.p ?_; (with_reducible conv => (arg 1; whnf)); refine Go.mk ?_)
        refine br_nd (fun z => absurd rfl z) (fun _ => ?_)
        ((refine Go.p ?_; (with_reducible conv => (arg 1; whnf)); refine Go.mk ?_); repeat ((first | refine br_t rfl ?_ | refine br_f rfl ?_ | refine ⟨rfl, ?_⟩ | refine ⟨lt_sz (Nat.le_of_ble_eq_true rfl), ?_⟩ | refine ⟨Nat.le_of_lt (lt_sz (Nat.le_of_ble_eq_true rfl)), ?_⟩); (refine Go.p ?_; (with_reducible conv => (arg 1; whnf)); refine Go.mk ?_)))
        refine br_nd (fun z => absurd rfl z) (fun _ => ?_)
        ((refine Go.p ?_; (with_reducible conv => (arg 1; whnf)); refine Go.mk ?_); repeat ((first | refine br_t rfl ?_ | refine br_f rfl ?_ | refine ⟨rfl, ?_⟩ | refine ⟨lt_sz (Nat.le_of_ble_eq_true rfl), ?_⟩ | refine ⟨Nat.le_of_lt (lt_sz (Nat.le_of_ble_eq_true rfl)), ?_⟩); (refine Go.p ?_; (with_reducible conv => (arg 1; whnf)); refine Go.mk ?_)))
        exact same _ _ _
      | tup q =>
        have hq : okL q = true := hy
        have hfq : frzL q = true := hf
        (refine Go.p ?_; (with_reducible conv => (arg 1; whnf)); refine Go.mk ?_)
        rw [hfq]
        (refine Go.p ?_; (with_reducible conv => (arg 1; whnf)); refine Go.mk ?_)
        rw [hfq]
        (refine Go.p ?_; (with_reducible conv => (arg 1; whnf)); refine Go.mk ?_)
        refine s_kind hn _ hy ?_
        (refine Go.p ?_; (with_reducible conv => (arg 1; whnf)); refine Go.mk ?_)
        rw [hfq]
        (refine Go.p ?_; (with_reducible conv => (arg 1; whnf)); refine Go.mk ?_)
        rw [hfq]
        (refine Go.p ?_; (with_reducible conv => (arg 1; whnf)); refine Go.mk ?_)
        refine s_kind hn _ hy ?_
        (refine Go.p ?_; (with_reducible conv => (arg 1; whnf)); refine Go.mk ?_)
        refine br_nd (fun z => absurd rfl z) (fun _ => ?_)
        ((refine Go.p ?_; (with_reducible conv => (arg 1; whnf)); refine Go.mk ?_); repeat ((first | refine br_t rfl ?_ | refine br_f rfl ?_ | refine ⟨rfl, ?_⟩ | refine ⟨lt_sz (Nat.le_of_ble_eq_true rfl), ?_⟩ | refine ⟨Nat.le_of_lt (lt_sz (Nat.le_of_ble_eq_true rfl)), ?_⟩); (refine Go.p ?_; (with_reducible conv => (arg 1; whnf)); refine Go.mk ?_)))
        refine br_nd (fun z => absurd rfl z) (fun _ => ?_)
        (refine Go.p ?_; (with_reducible conv => (arg 1; whnf)); refine Go.mk ?_)
        rw [hfq]
        (refine Go.p ?_; (with_reducible conv => (arg 1; whnf)); refine Go.mk ?_)
        rw [hfq]
        (refine Go.p ?_; (with_reducible conv => (arg 1; whnf)); refine Go.mk ?_)
        rw [hfq]
        (refine Go.p ?_; (with_reducible conv => (arg 1; whnf)); refine Go.mk ?_)
        rw [hfq]
        (refine Go.p ?_; (with_reducible conv => (arg 1; whnf)); refine Go.mk ?_)
        rw [hfq]
        (refine Go.p ?_; (with_reducible conv => (arg 1; whnf)); refine Go.mk ?_)
        rw [hfq]
        (refine Go.p ?_; (with_reducible conv => (arg 1; whnf)); refine Go.mk ?_)
        rw [zip_pr]
        refine ⟨by rw [List.length_map, List.length_map]; exact Nat.le_of_lt (lt_sz2 (by have := szL_len q; simp only [szD] at hl; omega)), ?_⟩
        (refine Go.p ?_; (with_reducible conv => (arg 1; whnf)); refine Go.mk ?_)
        rw [← List.map_append]
        exact next q _ _ _ hq (by simp only [szD]; omega)
      | lst q =>
        have hq : okL q = true := hy
        have hfq : frzL q = true := okL_frz q hq
        (refine Go.p ?_; (with_reducible conv => (arg 1; whnf)); refine Go.mk ?_)
        refine s_kind hn _ hy ?_
        (refine Go.p ?_; (with_reducible conv => (arg 1; whnf)); refine Go.mk ?_)
        refine s_kind hn _ hy ?_
        (refine Go.p ?_; (with_reducible conv => (arg 1; whnf)); refine Go.mk ?_)
        refine br_nd (fun z => absurd rfl z) (fun _ => ?_)
        ((refine Go.p ?_; (with_reducible conv => (arg 1; whnf)); refine Go.mk ?_); repeat ((first | refine br_t rfl ?_ | refine br_f rfl ?_ | refine ⟨rfl, ?_⟩ | refine ⟨lt_sz (Nat.le_of_ble_eq_true rfl), ?_⟩ | refine ⟨Nat.le_of_lt (lt_sz (Nat.le_of_ble_eq_true rfl)), ?_⟩); (refine Go.p ?_; (with_reducible conv => (arg 1; whnf)); refine Go.mk ?_)))
        refine br_nd (fun z => absurd rfl z) (fun _ => ?_)
        (refine Go.p ?_; (with_reducible conv => (arg 1; whnf)); refine Go.mk ?_)
        rw [zip_pr]
        refine ⟨by rw [List.length_map, List.length_map]; exact Nat.le_of_lt (lt_sz2 (by have := szL_len q; simp only [szD] at hl; omega)), ?_⟩
        (refine Go.p ?_; (with_reducible conv => (arg 1; whnf)); refine Go.mk ?_)
        rw [← List.map_append]
        exact next q _ _ _ hq (by simp only [szD]; omega)
      | _ => cases hy
    · exact hk _
theorem s_alike {n : Nat} (hn : 2 ≤ n) (x : D) (hx : okD x = true) (hs : szD x ≤ 800) {k : D → List D → Prop} (h : k (.bl true) []) : semN T n fx__law_alike [x, x] k := by
  obtain ⟨n, rfl⟩ : ∃ m, n = m + 1 := ⟨n - 1, by omega⟩
  refine sem_succ 5 rfl rfl rfl ?_
  have go : ∀ (x0 : Option D) (kk : K), (∀ ρ, kk.nx ρ) → ∀ x4 x5 x6, whlK (evE (semN T n) (.cmp .lt (.var 3) (.bi .len (.cons (.var 2) .nil)))) (evSs (semN T n) (match fn__law_alike.body with | .cons _ (.cons (.whl _ b) _) => b | _ => .nil)) [x0, x0, some (.mu [pr x]), some (.int 0), x4, x5, x6] kk := fun x0 kk hk x4 x5 x6 =>
    ⟨_, alike_go (n := n) (by omega) x0 hk (szD x) [x] 0 x4 x5 x6 (by simp) (by show (okD x && true) = true; rw [hx]; rfl) (by show szD x + 0 ≤ _; omega) (by show 0 + (szD x + 0) ≤ _; omega)⟩
  cases x with
  | non => (refine Go.p ?_; (with_reducible conv => (arg 1; whnf)); refine Go.mk ?_); exact go _ _ (fun ρ => h) _ _ _
  | bl b => (refine Go.p ?_; (with_reducible conv => (arg 1; whnf)); refine Go.mk ?_); exact go _ _ (fun ρ => h) _ _ _
  | int b => (refine Go.p ?_; (with_reducible conv => (arg 1; whnf)); refine Go.mk ?_); exact go _ _ (fun ρ => h) _ _ _
  | lst q => (refine Go.p ?_; (with_reducible conv => (arg 1; whnf)); refine Go.mk ?_); exact go _ _ (fun ρ => h) _ _ _
  | tup q =>
    have hfq : frzL q = true := okL_frz q hx
    (refine Go.p ?_; (with_reducible conv => (arg 1; whnf)); refine Go.mk ?_)
    rw [hfq]
    (refine Go.p ?_; (with_reducible conv => (arg 1; whnf)); refine Go.mk ?_)
    rw [hfq]
    (refine Go.p ?_; (with_reducible conv => (arg 1; whnf)); refine Go.mk ?_)
    exact go _ _ (fun ρ => h) _ _ _
  | _ => cases hx
end Tr

set_option maxRecDepth 100000
set_option maxHeartbeats 8000000
set_option exponentiation.threshold 1000
/-! Levels, an effect that is right. -/
namespace Tr
open PySem
theorem okL_il : ∀ l : List Int, okL (il l) = true
  | [] => rfl
  | _ :: l => okL_il l
theorem szL_il : ∀ l : List Int, szL (il l) = l.length
  | [] => rfl
  | c :: l => by show 1 + szL (il l) = l.length + 1; rw [szL_il l]; omega
theorem filter_go {n : Nat} {s : Int} {bag x2 x3 x4 : Option D} {ls : List Int} (hl : ls.length ≤ 100) {k : List D → Env → Prop} (h : ∀ fs : List Int, fs.length ≤ ls.length → (∀ x ∈ fs, 0 ≤ x ∧ x ≤ s) → k (il fs) [bag, some (.int s), x2, x3, x4, none]) :
    compL [5] (bindK (.nm 5)) (fun ρ' kb => evCond (semN T n) (.some (.chain .le .le (.cst (.int 0)) (.var 5) (.var 1))) ρ' kb) (toV (.var 5) (evE (semN T n) (.var 5))) (il ls) [bag, some (.int s), x2, x3, x4, none] [] k := by
  refine compL_inv (fun i ρ acc => ρ = [bag, some (.int s), x2, x3, x4, none] ∧ ∃ fs : List Int, acc = il fs ∧ fs.length ≤ i ∧ ∀ x ∈ fs, 0 ≤ x ∧ x ≤ s) (by rw [il_len]; omega) ?_ ?_ ?_ ⟨rfl, [], rfl, Nat.le_refl _, fun _ z => nomatch z⟩
  · rintro i d hd ρ acc ⟨rfl, fs, rfl, hc, hp⟩ hz P hP
    obtain ⟨c, hc', rfl⟩ := il_get hd
    (refine Go.p ?_; (with_reducible conv => (arg 1; whnf)); refine Go.mk ?_)
    refine br_d (fun c1 => ?_) (fun c1 => ?_)
    · (refine Go.p ?_; (with_reducible conv => (arg 1; whnf)); refine Go.mk ?_)
      refine br_d (fun c2 => ?_) (fun c2 => ?_)
      · (refine Go.p ?_; (with_reducible conv => (arg 1; whnf)); refine Go.mk ?_)
        refine ⟨hz, ?_⟩
        (refine Go.p ?_; (with_reducible conv => (arg 1; whnf)); refine Go.mk ?_)
        rw [il_snoc]
        refine hP _ _ ⟨rfl, _, rfl, by simp; omega, fun x hx => ?_⟩
        rcases List.mem_append.mp hx with hx | hx
        · exact hp x hx
        · rw [List.mem_singleton.mp hx]; exact ⟨c1, c2⟩
      · (refine Go.p ?_; (with_reducible conv => (arg 1; whnf)); refine Go.mk ?_)
        exact hP _ _ ⟨rfl, _, rfl, by omega, hp⟩
    · (refine Go.p ?_; (with_reducible conv => (arg 1; whnf)); refine Go.mk ?_)
      refine br_f rfl ?_
      (refine Go.p ?_; (with_reducible conv => (arg 1; whnf)); refine Go.mk ?_)
      exact hP _ _ ⟨rfl, _, rfl, by omega, hp⟩
  · rintro i ρ acc ⟨_, fs, rfl, hc, _⟩
    rw [il_len]; exact hc
  · rintro ρ acc ⟨rfl, fs, rfl, hc, hp⟩
    rw [il_len] at hc
    exact h fs hc hp
theorem s_levels {n f : Nat} {bag : D} (hn : 3 ≤ n) (hb : Bag (f + 3) bag) {s : Int} (hs : 0 ≤ s) (e : Option Ef) {k : D → List D → Prop} (h : ∀ ls : List Int, ∀ bag', ls.length ≤ 12 → (∀ x ∈ ls, 0 ≤ x ∧ x ≤ s) → Bag f bag' → k (.lst (il ls)) [bag']) : semN T n fx__law_levels [bag, .int s, oD e] k := by
  obtain ⟨n, rfl⟩ : ∃ m, n = m + 1 := ⟨n - 1, by omega⟩
  refine sem_succ 3 rfl rfl rfl ?_
  (refine Go.p ?_; (with_reducible conv => (arg 1; whnf)); refine Go.mk ?_)
  refine s_number (by omega) hb hs fun r bag' h0 h1 hb' => ?_
  cases e with
  | none =>
    simp only [oD]
    (refine Go.p ?_; (with_reducible conv => (arg 1; whnf)); refine Go.mk ?_)
    refine ⟨rfl, ?_⟩
    (refine Go.p ?_; (with_reducible conv => (arg 1; whnf)); refine Go.mk ?_)
    refine br_f rfl ?_
    (refine Go.p ?_; (with_reducible conv => (arg 1; whnf)); refine Go.mk ?_)
    refine filter_go (ls := [0, s, r]) (by simp) fun fs hf hp => ?_
    (refine Go.p ?_; (with_reducible conv => (arg 1; whnf)); refine Go.mk ?_)
    rw [frz_il]
    (refine Go.p ?_; (with_reducible conv => (arg 1; whnf)); refine Go.mk ?_)
    exact h fs bag' (by simp at hf; omega) hp hb'
  | some e =>
    obtain ⟨e0, e1, e2⟩ := e
    simp only [oD, Ef.d]
    (refine Go.p ?_; (with_reducible conv => (arg 1; whnf)); refine Go.mk ?_)
    refine ⟨rfl, ?_⟩
    (refine Go.p ?_; (with_reducible conv => (arg 1; whnf)); refine Go.mk ?_)
    refine br_t rfl ?_
    (refine Go.p ?_; (with_reducible conv => (arg 1; whnf)); refine Go.mk ?_)
    refine ⟨Nat.le_of_lt (lt_sz (Nat.le_of_ble_eq_true rfl)), ?_⟩
    (refine Go.p ?_; (with_reducible conv => (arg 1; whnf)); refine Go.mk ?_)
    refine ⟨Nat.le_of_lt (lt_sz (Nat.le_of_ble_eq_true rfl)), ?_⟩
    (refine Go.p ?_; (with_reducible conv => (arg 1; whnf)); refine Go.mk ?_)
    refine ⟨Nat.le_of_lt (lt_sz (Nat.le_of_ble_eq_true rfl)), ?_⟩
    (refine Go.p ?_; (with_reducible conv => (arg 1; whnf)); refine Go.mk ?_)
    refine filter_go (ls := [0, s, r, e0 - 1, e0, e0 + 1, e1 - 1, e1, e1 + 1, e2 - 1, e2, e2 + 1]) (by simp) fun fs hf hp => ?_
    (refine Go.p ?_; (with_reducible conv => (arg 1; whnf)); refine Go.mk ?_)
    rw [frz_il]
    (refine Go.p ?_; (with_reducible conv => (arg 1; whnf)); refine Go.mk ?_)
    exact h fs bag' (by simp at hf; omega) hp hb'
end Tr

set_option maxRecDepth 100000
set_option maxHeartbeats 8000000
set_option exponentiation.threshold 1000
/-! An effect that is right. -/
namespace Tr
open PySem
theorem eo_row {s d0 d1 d2 : Int} (h : fit s (d0, d1, d2)) : eo s [-d0, d1 + d0 + s - d2, d2 - s] = some (d0, d1, d2) := by
  unfold fit at h
  simp only at h
  have e1 : jn (0, 0, s) (one s (-d0)) = some (d0, -d0, s - d0) := by
    unfold jn one
    simp only
    rw [if_neg (by omega)]
    simp only [Option.some.injEq, Prod.mk.injEq]
    omega
  have e2 : jn (d0, -d0, s - d0) (one s (d1 + d0 + s - d2)) = some (d0, d1 + s - d2, s) := by
    unfold jn one
    simp only
    rw [if_neg (by omega)]
    simp only [Option.some.injEq, Prod.mk.injEq]
    omega
  have e3 : jn (d0, d1 + s - d2, s) (one s (d2 - s)) = some (d0, d1, d2) := by
    unfold jn one
    simp only
    rw [if_neg (by omega)]
    simp only [Option.some.injEq, Prod.mk.injEq]
    omega
  unfold eo
  show eoF s (0, 0, s) (-d0 :: _) = _
  unfold eoF
  rw [if_neg (by omega), e1]
  show eoF s (d0, -d0, s - d0) (_ :: _) = _
  unfold eoF
  rw [if_neg (by omega), e2]
  show eoF s (d0, d1 + s - d2, s) (_ :: _) = _
  unfold eoF
  rw [if_neg (by omega), e3]
  rfl
theorem okD_ef (e : Ef) : okD e.d = true := rfl
@[reducible] def dropS : Nat → Ss → Ss
  | 0, s => s
  | n + 1, .cons _ s => dropS n s
  | _ + 1, .nil => .nil
theorem comp_map {n : Nat} {env : Env} {ls : List Int} {e : E} (g : Int → D) (hl : ls.length ≤ 100) (he : ∀ (c : Int) (P : D → Env → Prop), P (g c) (env ++ [some (.int c)]) → toV e (evE (semN T n) e) (env ++ [some (.int c)]) P) (h10 : env.length = 10) {k : List D → Env → Prop} (h : k (ls.map g) (env ++ [none])) :
    compL [10] (bindK (.nm 10)) (fun ρ' kb => evCond (semN T n) .none ρ' kb) (toV e (evE (semN T n) e)) (il ls) (env ++ [none]) [] k := by
  have hs : ∀ (x y : Option D) (k : Env → Prop), k (env ++ [y]) → setK (env ++ [x]) 10 y k := fun x y k h => by
    rw [setK_eq]
    have : (env ++ [x]).set 10 y = env ++ [y] := by rw [List.set_append_right _ _ (by omega), h10]; rfl
    rw [this]; exact h
  refine compL_inv (fun i ρ acc => ρ = env ++ [none] ∧ acc = (ls.take i).map g) (by rw [il_len]; omega) ?_ ?_ ?_ ⟨rfl, rfl⟩
  · rintro i d hd ρ acc ⟨rfl, rfl⟩ hz P hP
    obtain ⟨c, hc, rfl⟩ := il_get hd
    refine hs _ _ _ (br_t rfl (he c _ ⟨hz, ?_⟩))
    refine hs _ _ _ (hP _ _ ⟨rfl, ?_⟩)
    rw [List.take_succ, hc]
    simp
  · rintro i ρ acc ⟨_, rfl⟩
    rw [List.length_map, List.length_take]; omega
  · rintro ρ acc ⟨rfl, rfl⟩
    rw [il_len, List.take_length]
    exact h
theorem okL_map {g : Int → D} (h : ∀ c, okD (g c) = true) : ∀ l : List Int, okL (l.map g) = true
  | [] => rfl
  | c :: l => by show (okD (g c) && okL (l.map g)) = true; rw [h c, okL_map h l]; rfl
theorem szL_map {g : Int → D} (h : ∀ c, szD (g c) = 1) : ∀ l : List Int, szL (l.map g) = l.length
  | [] => rfl
  | c :: l => by show szD (g c) + szL (l.map g) = l.length + 1; rw [h c, szL_map h l]; omega
theorem okD_oI (o : Option Int) : okD (oI o) = true := by cases o <;> rfl
theorem szD_oI (o : Option Int) : szD (oI o) = 1 := by cases o <;> rfl
theorem right_tail {n f : Nat} {bag : D} (hn : 4 ≤ n) (hb : Bag (f + 3) bag) {s : Int} (hs0 : 0 ≤ s) (d0 d1 d2 w0 w1 w2 : Int) {x3 x4 x5 x6 x7 : Option D} {kk : K} (hk : ∀ bag' ρ, Bag f bag' → kk.rt (.bl true) (some bag' :: ρ)) :
    evSs (semN T n) (dropS 8 fn__law_effect_right.body) [some bag, some (.int s), some (.tup [.int d0, .int d1, .int d2]), x3, x4, x5, x6, x7, some (.tup [.int w0, .int w1, .int w2]), none, none] kk := by
  (refine Go.p ?_; (with_reducible conv => (arg 1; whnf)); refine Go.mk ?_)
  refine s_levels (n := n) (f := f) (by omega) hb hs0 (some (d0, d1, d2)) fun ls bag' hl hp hb' => ?_
  (refine Go.p ?_; (with_reducible conv => (arg 1; whnf)); refine Go.mk ?_)
  refine s_effect (by omega) _ _ _ _ ?_
  (refine Go.p ?_; (with_reducible conv => (arg 1; whnf)); refine Go.mk ?_)
  refine s_effect_lst (by omega) _ _ ?_
  (refine Go.p ?_; (with_reducible conv => (arg 1; whnf)); refine Go.mk ?_)
  refine comp_map (env := [some bag', some (.int s), some (.tup [.int d0, .int d1, .int d2]), x3, x4, x5, x6, x7, some (.tup [.int w0, .int w1, .int w2]), some (.lst (il ls))]) (fun c => oI (ps (d0, d1, d2) c)) (by omega) ?_ rfl ?_
  · intro c P hP
    simp only [List.cons_append, List.nil_append] at hP ⊢
    (refine Go.p ?_; (with_reducible conv => (arg 1; whnf)); refine Go.mk ?_)
    refine s_passed (by omega) _ _ _ _ ?_
    (refine Go.p ?_; (with_reducible conv => (arg 1; whnf)); refine Go.mk ?_)
    exact hP
  simp only [List.cons_append, List.nil_append]
  have hfz : frzL (ls.map fun c => oI (ps (d0, d1, d2) c)) = true := okL_frz _ (okL_map (fun c => okD_oI _) ls)
  (refine Go.p ?_; (with_reducible conv => (arg 1; whnf)); refine Go.mk ?_)
  rw [hfz]
  refine ⟨Nat.le_of_lt (lt_sz (by rw [List.length_map]; simp; omega)), ?_⟩
  have hok : okL ([D.bl (decide (fit s (w0, w1, w2))), D.bl false] ++ ls.map fun c => oI (ps (d0, d1, d2) c)) = true := okL_app rfl (okL_map (fun c => okD_oI _) ls)
  have hfz2 := okL_frz _ hok
  (refine Go.p ?_; (with_reducible conv => (arg 1; whnf)); refine Go.mk ?_)
  rw [hfz2]
  (refine Go.p ?_; (with_reducible conv => (arg 1; whnf)); refine Go.mk ?_)
  refine s_fits (by omega) _ _ _ _ ?_
  (refine Go.p ?_; (with_reducible conv => (arg 1; whnf)); refine Go.mk ?_)
  refine comp_map (env := [some bag', some (.int s), some (.tup [.int d0, .int d1, .int d2]), x3, x4, some (.lst ([D.bl (decide (fit s (w0, w1, w2))), D.bl false] ++ ls.map fun c => oI (ps (d0, d1, d2) c))), x6, x7, some (.tup [.int w0, .int w1, .int w2]), some (.lst (il ls))]) (fun c => oI (ps (d0, d1, d2) c)) (by omega) ?_ rfl ?_
  · intro c P hP
    simp only [List.cons_append, List.nil_append] at hP ⊢
    (refine Go.p ?_; (with_reducible conv => (arg 1; whnf)); refine Go.mk ?_)
    refine s_past (by omega) (some (d0, d1, d2)) _ ?_
    (refine Go.p ?_; (with_reducible conv => (arg 1; whnf)); refine Go.mk ?_)
    exact hP
  simp only [List.cons_append, List.nil_append]
  (refine Go.p ?_; (with_reducible conv => (arg 1; whnf)); refine Go.mk ?_)
  rw [hfz]
  refine ⟨Nat.le_of_lt (lt_sz (by rw [List.length_map]; simp; omega)), ?_⟩
  (refine Go.p ?_; (with_reducible conv => (arg 1; whnf)); refine Go.mk ?_)
  rw [show frzL ([D.bl (decide (fit s (w0, w1, w2))), D.bl false] ++ List.map (fun c => oI (ps (d0, d1, d2) c)) ls) = true from hfz2]
  (refine Go.p ?_; (with_reducible conv => (arg 1; whnf)); refine Go.mk ?_)
  refine s_alike (by omega) (.lst ([D.bl (decide (fit s (w0, w1, w2))), D.bl false] ++ ls.map fun c => oI (ps (d0, d1, d2) c))) hok ?_ ?_
  · show 1 + (1 + (1 + szL (ls.map fun c => oI (ps (d0, d1, d2) c)))) ≤ 800
    rw [szL_map (fun c => szD_oI _)]
    omega
  (refine Go.p ?_; (with_reducible conv => (arg 1; whnf)); refine Go.mk ?_)
  exact hk _ _ hb'
theorem s_effect_right {n f : Nat} {bag : D} (hn : 5 ≤ n) (hb : Bag (f + 5) bag) {s : Int} (hs0 : 0 ≤ s) (due : Option Ef) (hfit : ∀ e, due = some e → fit s e) {k : D → List D → Prop} (h : ∀ bag', Bag f bag' → k (.bl true) [bag']) : semN T n fx__law_effect_right [bag, .int s, oD due, oD due] k := by
  obtain ⟨n, rfl⟩ : ∃ m, n = m + 1 := ⟨n - 1, by omega⟩
  refine sem_succ 7 rfl rfl rfl ?_
  cases due with
  | none =>
    simp only [oD]
    (refine Go.p ?_; (with_reducible conv => (arg 1; whnf)); refine Go.mk ?_)
    refine s_alike (by omega) _ rfl (by decide) ?_
    (refine Go.p ?_; (with_reducible conv => (arg 1; whnf)); refine Go.mk ?_)
    refine br_f rfl ?_
    (refine Go.p ?_; (with_reducible conv => (arg 1; whnf)); refine Go.mk ?_)
    refine ⟨rfl, ?_⟩
    (refine Go.p ?_; (with_reducible conv => (arg 1; whnf)); refine Go.mk ?_)
    refine br_t rfl ?_
    (refine Go.p ?_; (with_reducible conv => (arg 1; whnf)); refine Go.mk ?_)
    exact h _ (hb.weak (by omega))
  | some d =>
    obtain ⟨d0, d1, d2⟩ := d
    have hf := hfit _ rfl
    have hr := eo_row hf
    simp only [oD, Ef.d]
    (refine Go.p ?_; (with_reducible conv => (arg 1; whnf)); refine Go.mk ?_)
    refine s_alike (by omega) _ rfl (by show (1 + (1 + (1 + (1 + 0)))) ≤ 800; decide) ?_
    (refine Go.p ?_; (with_reducible conv => (arg 1; whnf)); refine Go.mk ?_)
    refine br_f rfl ?_
    (refine Go.p ?_; (with_reducible conv => (arg 1; whnf)); refine Go.mk ?_)
    refine ⟨rfl, ?_⟩
    (refine Go.p ?_; (with_reducible conv => (arg 1; whnf)); refine Go.mk ?_)
    refine br_f rfl ?_
    (refine Go.p ?_; (with_reducible conv => (arg 1; whnf)); refine Go.mk ?_)
    refine s_effect (by omega) _ _ _ _ ?_
    rw [decide_eq_true hf]
    (refine Go.p ?_; (with_reducible conv => (arg 1; whnf)); refine Go.mk ?_)
    refine s_mirrored (by omega) _ _ _ _ ?_
    (refine Go.p ?_; (with_reducible conv => (arg 1; whnf)); refine Go.mk ?_)
    refine s_mirrored (by omega) _ _ _ _ ?_
    rw [show s - (s - d0) = d0 by omega, show s - (s - d2) = d2 by omega]
    (refine Go.p ?_; (with_reducible conv => (arg 1; whnf)); refine Go.mk ?_)
    refine s_changes (by omega) _ _ _ _ ?_
    rw [show 0 - d0 = -d0 by omega]
    (refine Go.p ?_; (with_reducible conv => (arg 1; whnf)); refine Go.mk ?_)
    refine s_effect_of (by omega) _ [-d0, d1 + d0 + s - d2, d2 - s] ?_
    rw [hr]
    simp only [oD, Ef.d]
    (refine Go.p ?_; (with_reducible conv => (arg 1; whnf)); refine Go.mk ?_)
    refine ⟨Nat.le_of_lt (lt_sz (Nat.le_of_ble_eq_true rfl)), ?_⟩
    (refine Go.p ?_; (with_reducible conv => (arg 1; whnf)); refine Go.mk ?_)
    refine s_alike (by omega) _ rfl (Nat.le_of_ble_eq_true rfl) ?_
    (refine Go.p ?_; (with_reducible conv => (arg 1; whnf)); refine Go.mk ?_)
    refine br_f rfl ?_
    (refine Go.p ?_; (with_reducible conv => (arg 1; whnf)); refine Go.mk ?_)
    refine s_take (f := f + 4) (by omega) hb (by decide) (small_of (by decide)) fun r bag1 h0 h1 hb1 => ?_
    have hr3 : r = 0 ∨ r = 1 ∨ r = 2 := by omega
    rcases hr3 with rfl | rfl | rfl
    · (refine Go.p ?_; (with_reducible conv => (arg 1; whnf)); refine Go.mk ?_)
      rw [show List.take (HT.sIx [D.int d0, D.int d1, D.int d2].length [D.int d0, D.int d1, D.int d2].length (some 0) - HT.sIx [D.int d0, D.int d1, D.int d2].length 0 none) (List.drop (HT.sIx [D.int d0, D.int d1, D.int d2].length 0 none) [D.int d0, D.int d1, D.int d2]) = [] from rfl]
      (refine Go.p ?_; (with_reducible conv => (arg 1; whnf)); refine Go.mk ?_)
      rw [show L2.atI [D.int d0, D.int d1, D.int d2] 0 = some (.int d0) from rfl]
      (refine Go.p ?_; (with_reducible conv => (arg 1; whnf)); refine Go.mk ?_)
      refine s_some (by omega) hb1 (l := [.int (-1), .int 1, .int s, .int (-s)]) (Nat.le_of_ble_eq_true rfl) (Nat.le_of_ble_eq_true rfl) rfl fun x bag2 hx hb2 => ?_
      obtain ⟨y, rfl⟩ : ∃ y, x = .int y := by
        simp only [List.mem_cons, List.not_mem_nil, or_false] at hx
        rcases hx with rfl | rfl | rfl | rfl <;> exact ⟨_, rfl⟩
      (refine Go.p ?_; (with_reducible conv => (arg 1; whnf)); refine Go.mk ?_)
      refine ⟨Nat.le_of_lt (lt_sz (Nat.le_of_ble_eq_true rfl)), ?_⟩
      simp only [List.nil_append, List.cons_append]
      (refine Go.p ?_; (with_reducible conv => (arg 1; whnf)); refine Go.mk ?_)
      rw [show List.take (HT.sIx [D.int d0, D.int d1, D.int d2].length [D.int d0, D.int d1, D.int d2].length none - HT.sIx [D.int d0, D.int d1, D.int d2].length 0 (some (0 + 1))) (List.drop (HT.sIx [D.int d0, D.int d1, D.int d2].length 0 (some (0 + 1))) [D.int d0, D.int d1, D.int d2]) = [D.int d1, D.int d2] from rfl]
      (refine Go.p ?_; (with_reducible conv => (arg 1; whnf)); refine Go.mk ?_)
      refine ⟨Nat.le_of_lt (lt_sz (Nat.le_of_ble_eq_true rfl)), ?_⟩
      refine right_tail (f := f) (by omega) hb2 hs0 d0 d1 d2 (d0 + y) d1 d2 (fun bag' ρ hb' => ?_)
      exact h _ hb'
    · (refine Go.p ?_; (with_reducible conv => (arg 1; whnf)); refine Go.mk ?_)
      rw [show List.take (HT.sIx [D.int d0, D.int d1, D.int d2].length [D.int d0, D.int d1, D.int d2].length (some 1) - HT.sIx [D.int d0, D.int d1, D.int d2].length 0 none) (List.drop (HT.sIx [D.int d0, D.int d1, D.int d2].length 0 none) [D.int d0, D.int d1, D.int d2]) = [D.int d0] from rfl]
      (refine Go.p ?_; (with_reducible conv => (arg 1; whnf)); refine Go.mk ?_)
      rw [show L2.atI [D.int d0, D.int d1, D.int d2] 1 = some (.int d1) from rfl]
      (refine Go.p ?_; (with_reducible conv => (arg 1; whnf)); refine Go.mk ?_)
      refine s_some (by omega) hb1 (l := [.int (-1), .int 1, .int s, .int (-s)]) (Nat.le_of_ble_eq_true rfl) (Nat.le_of_ble_eq_true rfl) rfl fun x bag2 hx hb2 => ?_
      obtain ⟨y, rfl⟩ : ∃ y, x = .int y := by
        simp only [List.mem_cons, List.not_mem_nil, or_false] at hx
        rcases hx with rfl | rfl | rfl | rfl <;> exact ⟨_, rfl⟩
      (refine Go.p ?_; (with_reducible conv => (arg 1; whnf)); refine Go.mk ?_)
      refine ⟨Nat.le_of_lt (lt_sz (Nat.le_of_ble_eq_true rfl)), ?_⟩
      simp only [List.nil_append, List.cons_append]
      (refine Go.p ?_; (with_reducible conv => (arg 1; whnf)); refine Go.mk ?_)
      rw [show List.take (HT.sIx [D.int d0, D.int d1, D.int d2].length [D.int d0, D.int d1, D.int d2].length none - HT.sIx [D.int d0, D.int d1, D.int d2].length 0 (some (1 + 1))) (List.drop (HT.sIx [D.int d0, D.int d1, D.int d2].length 0 (some (1 + 1))) [D.int d0, D.int d1, D.int d2]) = [D.int d2] from rfl]
      (refine Go.p ?_; (with_reducible conv => (arg 1; whnf)); refine Go.mk ?_)
      refine ⟨Nat.le_of_lt (lt_sz (Nat.le_of_ble_eq_true rfl)), ?_⟩
      refine right_tail (f := f) (by omega) hb2 hs0 d0 d1 d2 d0 (d1 + y) d2 (fun bag' ρ hb' => ?_)
      exact h _ hb'
    · (refine Go.p ?_; (with_reducible conv => (arg 1; whnf)); refine Go.mk ?_)
      rw [show List.take (HT.sIx [D.int d0, D.int d1, D.int d2].length [D.int d0, D.int d1, D.int d2].length (some 2) - HT.sIx [D.int d0, D.int d1, D.int d2].length 0 none) (List.drop (HT.sIx [D.int d0, D.int d1, D.int d2].length 0 none) [D.int d0, D.int d1, D.int d2]) = [D.int d0, D.int d1] from rfl]
      (refine Go.p ?_; (with_reducible conv => (arg 1; whnf)); refine Go.mk ?_)
      rw [show L2.atI [D.int d0, D.int d1, D.int d2] 2 = some (.int d2) from rfl]
      (refine Go.p ?_; (with_reducible conv => (arg 1; whnf)); refine Go.mk ?_)
      refine s_some (by omega) hb1 (l := [.int (-1), .int 1, .int s, .int (-s)]) (Nat.le_of_ble_eq_true rfl) (Nat.le_of_ble_eq_true rfl) rfl fun x bag2 hx hb2 => ?_
      obtain ⟨y, rfl⟩ : ∃ y, x = .int y := by
        simp only [List.mem_cons, List.not_mem_nil, or_false] at hx
        rcases hx with rfl | rfl | rfl | rfl <;> exact ⟨_, rfl⟩
      (refine Go.p ?_; (with_reducible conv => (arg 1; whnf)); refine Go.mk ?_)
      refine ⟨Nat.le_of_lt (lt_sz (Nat.le_of_ble_eq_true rfl)), ?_⟩
      simp only [List.nil_append, List.cons_append]
      (refine Go.p ?_; (with_reducible conv => (arg 1; whnf)); refine Go.mk ?_)
      rw [show List.take (HT.sIx [D.int d0, D.int d1, D.int d2].length [D.int d0, D.int d1, D.int d2].length none - HT.sIx [D.int d0, D.int d1, D.int d2].length 0 (some (2 + 1))) (List.drop (HT.sIx [D.int d0, D.int d1, D.int d2].length 0 (some (2 + 1))) [D.int d0, D.int d1, D.int d2]) = [] from rfl]
      (refine Go.p ?_; (with_reducible conv => (arg 1; whnf)); refine Go.mk ?_)
      refine ⟨Nat.le_of_lt (lt_sz (Nat.le_of_ble_eq_true rfl)), ?_⟩
      refine right_tail (f := f) (by omega) hb2 hs0 d0 d1 d2 d0 d1 (d2 + y) (fun bag' ρ hb' => ?_)
      exact h _ hb'
end Tr

set_option maxRecDepth 100000
set_option maxHeartbeats 8000000
set_option exponentiation.threshold 1000
/-! The mathematics of rounds: down and up again and again. -/
namespace Tr
def rowL (dn up : Int) (b : Bool) : List Int := if b = true then [-dn, up] else [up, -dn]
/-- two changes behind an effect -/
theorem eoF_two (s : Int) (e : Ef) (x y : Int) : eoF s e [x, y] = if s + x < 0 then none else (jn e (one s x)).bind fun e' => if s + y < 0 then none else jn e' (one s y) := by
  unfold eoF
  split
  · rfl
  · congr 1
    funext e'
    unfold eoF
    split
    · rfl
    · cases jn e' (one s y) <;> rfl
theorem two_ok {s e0 e1 e2 x y r0 r1 r2 : Int} (h1 : 0 ≤ s + x) (h2 : max 0 (0 - x) ≤ e2) (h3 : 0 ≤ s + y) (h4 : max 0 (0 - y) ≤ min (e2 + x) (min s (s + x))) (q0 : r0 = max (max e0 (max 0 (0 - x) - e1)) (max 0 (0 - y) - (e1 + x))) (q1 : r1 = e1 + x + y) (q2 : r2 = min (min (e2 + x) (min s (s + x)) + y) (min s (s + y))) :
    eoF s (e0, e1, e2) [x, y] = some (r0, r1, r2) := by
  rw [eoF_two, if_neg (by omega)]
  unfold jn one
  simp only
  rw [if_neg (by omega)]
  simp only [Option.bind_some]
  rw [if_neg (by omega), if_neg (by omega), q0, q1, q2]
theorem two_no {s e0 e1 e2 x y : Int} (h : s + x < 0 ∨ e2 < max 0 (0 - x) ∨ s + y < 0 ∨ min (e2 + x) (min s (s + x)) < max 0 (0 - y)) : eoF s (e0, e1, e2) [x, y] = none := by
  rw [eoF_two]
  unfold jn one
  simp only
  split
  · rfl
  · split
    · rfl
    · simp only [Option.bind_some]
      split
      · rfl
      · rw [if_pos (by omega)]
theorem cb_succ {s dn up m : Int} (b : Bool) (hs : 0 ≤ s) (hd : 0 ≤ dn) (hu : 0 ≤ up) (hm : 1 ≤ m) : ((cb s dn up b m).bind fun e => eoF s e (rowL dn up b)) = cb s dn up b (m + 1) := by
  have e1 : (m + 1 - 1) * (dn - up) = (m - 1) * (dn - up) + (dn - up) := by rw [show m + 1 - 1 = (m - 1) + 1 by omega, Int.add_mul]; omega
  have e2 : (m + 1) * (dn - up) = m * (dn - up) + (dn - up) := by rw [Int.add_mul]; omega
  have e3 : (m + 1) * (up - dn) = m * (up - dn) + (up - dn) := by rw [Int.add_mul]; omega
  have e4 : m * (dn - up) = (m - 1) * (dn - up) + (dn - up) := by rw [Int.sub_mul]; omega
  have e5 : m * (up - dn) = -(m * (dn - up)) := by rw [← Int.mul_neg]; congr 1; omega
  have pos : 0 < dn - up → 0 ≤ (m - 1) * (dn - up) := fun h => Int.mul_nonneg (by omega) (by omega)
  have neg : ¬ 0 < dn - up → (m - 1) * (dn - up) ≤ 0 := fun h => Int.mul_nonpos_of_nonneg_of_nonpos (by omega) (by omega)
  unfold cb rowL
  rw [e1, e2, e3, e5, e4]
  generalize (m - 1) * (dn - up) = p at *
  cases b with
  | true =>
    simp only [if_true]
    by_cases c : 0 < dn - up
    · have := pos c
      simp only [c, if_true]
      by_cases c1 : dn + p ≤ s
      · simp only [c1, if_true, Option.bind_some]
        by_cases c2 : dn + (p + (dn - up)) ≤ s
        · rw [if_pos c2]
          exact two_ok (by omega) (by omega) (by omega) (by omega) (by omega) (by omega) (by omega)
        · rw [if_neg c2]
          exact two_no (by omega)
      · rw [if_neg c1, if_neg (by omega)]
        rfl
    · have := neg c
      simp only [c, if_false]
      by_cases c1 : dn ≤ s
      · simp only [c1, if_true, Option.bind_some]
        exact two_ok (by omega) (by omega) (by omega) (by omega) (by omega) (by omega) (by omega)
      · simp only [c1, if_false]
        rfl
  | false =>
    simp only [Bool.false_eq_true, if_false]
    by_cases c : 0 < dn - up
    · have := pos c
      simp only [c, if_true]
      by_cases c1 : 0 ≤ s - dn - p
      · simp only [c1, if_true, Option.bind_some]
        by_cases c2 : 0 ≤ s - dn - (p + (dn - up))
        · rw [if_pos c2]
          exact two_ok (by omega) (by omega) (by omega) (by omega) (by omega) (by omega) (by omega)
        · rw [if_neg c2]
          exact two_no (by omega)
      · rw [if_neg c1, if_neg (by omega)]
        rfl
    · have := neg c
      simp only [c, if_false]
      by_cases c1 : dn ≤ s
      · simp only [c1, if_true, Option.bind_some]
        exact two_ok (by omega) (by omega) (by omega) (by omega) (by omega) (by omega) (by omega)
      · simp only [c1, if_false]
        rfl
end Tr

set_option maxRecDepth 100000
set_option maxHeartbeats 8000000
set_option exponentiation.threshold 1000
/-! More of rounds. -/
namespace Tr
theorem cb_one {s dn up : Int} (b : Bool) (hs : 0 ≤ s) (hd : 0 ≤ dn) (hu : 0 ≤ up) : eo s (rowL dn up b) = cb s dn up b 1 := by
  unfold eo cb rowL
  simp only [Int.sub_self, Int.zero_mul, Int.one_mul, Int.add_zero, Int.sub_zero]
  cases b with
  | true =>
    simp only [if_true]
    by_cases c : 0 < dn - up
    · simp only [c, if_true]
      by_cases c1 : dn ≤ s
      · rw [if_pos c1]
        exact two_ok (by omega) (by omega) (by omega) (by omega) (by omega) (by omega) (by omega)
      · rw [if_neg c1]
        exact two_no (by omega)
    · simp only [c, if_false]
      by_cases c1 : dn ≤ s
      · rw [if_pos c1]
        exact two_ok (by omega) (by omega) (by omega) (by omega) (by omega) (by omega) (by omega)
      · rw [if_neg c1]
        exact two_no (by omega)
  | false =>
    simp only [Bool.false_eq_true, if_false]
    by_cases c : 0 < dn - up
    · simp only [c, if_true]
      by_cases c1 : 0 ≤ s - dn
      · rw [if_pos c1]
        exact two_ok (by omega) (by omega) (by omega) (by omega) (by omega) (by omega) (by omega)
      · rw [if_neg c1]
        exact two_no (by omega)
    · simp only [c, if_false]
      by_cases c1 : dn ≤ s
      · rw [if_pos c1]
        exact two_ok (by omega) (by omega) (by omega) (by omega) (by omega) (by omega) (by omega)
      · rw [if_neg c1]
        exact two_no (by omega)
theorem eoF_app (s : Int) : ∀ (l m : List Int) (e : Ef), eoF s e (l ++ m) = (eoF s e l).bind fun e' => eoF s e' m
  | [], m, e => rfl
  | c :: l, m, e => by
    show (if s + c < 0 then none else (jn e (one s c)).bind fun e' => eoF s e' (l ++ m)) = (if s + c < 0 then none else (jn e (one s c)).bind fun e' => eoF s e' l).bind fun e' => eoF s e' m
    split
    · rfl
    · cases jn e (one s c) with
      | none => rfl
      | some e' => exact eoF_app s l m e'
def rows (l : List Int) : Nat → List Int
  | 0 => []
  | n + 1 => rows l n ++ l
theorem cb_rows {s dn up : Int} (b : Bool) (hs : 0 ≤ s) (hd : 0 ≤ dn) (hu : 0 ≤ up) : ∀ n : Nat, eo s (rows (rowL dn up b) (n + 1)) = cb s dn up b ((n + 1 : Nat) : Int)
  | 0 => by
    show eo s ([] ++ rowL dn up b) = _
    rw [List.nil_append]
    exact cb_one b hs hd hu
  | n + 1 => by
    show eoF s (0, 0, s) (rows (rowL dn up b) (n + 1) ++ rowL dn up b) = _
    rw [eoF_app]
    have ih := cb_rows b hs hd hu n
    unfold eo at ih
    rw [ih]
    exact cb_succ b hs hd hu (by omega)
end Tr

set_option maxRecDepth 100000
set_option maxHeartbeats 8000000
set_option exponentiation.threshold 1000
/-! Repeated, mirrored. -/
namespace Tr
theorem ef_eq {a b c a' b' c' : Int} (h1 : a = a') (h2 : b = b') (h3 : c = c') : some ((a, b, c) : Ef) = some (a', b', c') := by rw [h1, h2, h3]
theorem mir_cb (s dn up m : Int) (b : Bool) : (cb s dn up b m).map (mir s) = cb s dn up (!b) m := by
  unfold cb mir
  cases b with
  | true =>
    simp only [if_true, Bool.not_true, Bool.false_eq_true, if_false]
    by_cases c : 0 < dn - up
    · simp only [c, if_true]
      by_cases c1 : dn + (m - 1) * (dn - up) ≤ s
      · rw [if_pos c1, if_pos (by omega)]
        exact ef_eq (by first | omega | (simp only <;> omega) | simp only) rfl (by first | omega | (simp only <;> omega) | simp only)
      · rw [if_neg c1, if_neg (by omega)]
        rfl
    · simp only [c, if_false]
      by_cases c1 : dn ≤ s
      · simp only [c1, if_true, Option.map_some]
        exact ef_eq (by first | omega | (simp only <;> omega) | simp only) rfl (by first | omega | (simp only <;> omega) | simp only)
      · simp only [c1, if_false, Option.map_none]
  | false =>
    simp only [if_true, Bool.not_false, Bool.false_eq_true, if_false]
    by_cases c : 0 < dn - up
    · simp only [c, if_true]
      by_cases c1 : 0 ≤ s - dn - (m - 1) * (dn - up)
      · rw [if_pos c1, if_pos (by omega)]
        exact ef_eq (by first | omega | (simp only <;> omega) | simp only) rfl (by first | omega | (simp only <;> omega) | simp only)
      · rw [if_neg c1, if_neg (by omega)]
        rfl
    · simp only [c, if_false]
      by_cases c1 : dn ≤ s
      · simp only [c1, if_true, Option.map_some]
        exact ef_eq (by first | omega | (simp only <;> omega) | simp only) rfl (by first | omega | (simp only <;> omega) | simp only)
      · simp only [c1, if_false, Option.map_none]
end Tr

set_option maxRecDepth 100000
set_option maxHeartbeats 8000000
set_option exponentiation.threshold 1000
/-! Repeated; a monoid with a mirror. -/
namespace Tr
theorem rp_cb {s dn up t : Int} (b : Bool) (hs : 0 ≤ s) (hd : 0 ≤ dn) (hu : 0 ≤ up) (ht : 1 ≤ t) : ((cb s dn up b 1).bind fun e => rp s e t) = cb s dn up b t := by
  have e1 : t * (dn - up) = (t - 1) * (dn - up) + (dn - up) := by rw [Int.sub_mul]; omega
  have e2 : t * (up - dn) = -(t * (dn - up)) := by rw [← Int.mul_neg]; congr 1; omega
  have e3 : (t - 1) * (up - dn) = -((t - 1) * (dn - up)) := by rw [← Int.mul_neg]; congr 1; omega
  have e4 : (t - 1 - 1) * (up - dn) = -((t - 1) * (dn - up)) + (dn - up) := by rw [Int.sub_mul (t - 1) 1, e3]; omega
  have pos : 0 < dn - up → 0 ≤ (t - 1) * (dn - up) := fun h => Int.mul_nonneg (by omega) (by omega)
  have neg : ¬ 0 < dn - up → (t - 1) * (dn - up) ≤ 0 := fun h => Int.mul_nonpos_of_nonneg_of_nonpos (by omega) (by omega)
  have t1 : ¬ 0 < t - 1 → (t - 1) * (dn - up) = 0 := fun h => by rw [show t - 1 = 0 by omega, Int.zero_mul]
  unfold cb rp
  simp only [Int.sub_self, Int.zero_mul, Int.one_mul, Int.add_zero, Int.sub_zero]
  rw [e2, e1]
  cases b with
  | true =>
    simp only [if_true]
    by_cases c : 0 < dn - up
    · have := pos c
      simp only [c, if_true]
      by_cases c1 : dn ≤ s
      · simp only [c1, if_true, Option.bind_some]
        rw [if_neg (by omega), e3, e4, e2, e1]
        generalize (t - 1) * (dn - up) = p at *
        by_cases c2 : dn + p ≤ s
        · rw [if_pos c2, if_neg (by omega)]
          exact ef_eq (by omega) rfl (by omega)
        · rw [if_neg c2, if_pos (by omega)]
      · simp only [c1, if_false, Option.bind_none]
        rw [if_neg (by omega)]
    · have := neg c
      simp only [c, if_false]
      by_cases c1 : dn ≤ s
      · simp only [c1, if_true, Option.bind_some]
        rw [if_pos (by omega), if_neg (by omega), e2, e1]
      · simp only [c1, if_false, Option.bind_none]
  | false =>
    simp only [Bool.false_eq_true, if_false]
    by_cases c : 0 < dn - up
    · have := pos c
      simp only [c, if_true]
      by_cases c1 : 0 ≤ s - dn
      · simp only [c1, if_true, Option.bind_some]
        rw [if_neg (by omega), e3, e4, e2, e1]
        generalize (t - 1) * (dn - up) = p at *
        by_cases c2 : 0 ≤ s - dn - p
        · rw [if_pos c2, if_neg (by omega)]
          exact ef_eq (by omega) rfl (by omega)
        · rw [if_neg c2, if_pos (by omega)]
      · simp only [c1, if_false, Option.bind_none]
        rw [if_neg (by omega)]
    · have := neg c
      simp only [c, if_false]
      by_cases c1 : dn ≤ s
      · simp only [c1, if_true, Option.bind_some]
        rw [if_pos (by omega), if_neg (by omega), e2, e1]
      · simp only [c1, if_false, Option.bind_none]
theorem fit_cb {s dn up m : Int} {b : Bool} (hs : 0 ≤ s) (hd : 0 ≤ dn) (hu : 0 ≤ up) (hm : 1 ≤ m) {e : Ef} (h : cb s dn up b m = some e) : fit s e := by
  have e1 : m * (dn - up) = (m - 1) * (dn - up) + (dn - up) := by rw [Int.sub_mul]; omega
  have e2 : m * (up - dn) = -(m * (dn - up)) := by rw [← Int.mul_neg]; congr 1; omega
  have pos : 0 < dn - up → 0 ≤ (m - 1) * (dn - up) := fun h => Int.mul_nonneg (by omega) (by omega)
  have neg : ¬ 0 < dn - up → (m - 1) * (dn - up) ≤ 0 := fun h => Int.mul_nonpos_of_nonneg_of_nonpos (by omega) (by omega)
  unfold cb at h
  rw [e2, e1] at h
  generalize (m - 1) * (dn - up) = p at *
  split at h
  · split at h
    · split at h
      · have := pos (by assumption)
        cases h; unfold fit; simp only; omega
      · cases h
    · split at h
      · have := neg (by assumption)
        cases h; unfold fit; simp only; omega
      · cases h
  · split at h
    · split at h
      · have := pos (by assumption)
        cases h; unfold fit; simp only; omega
      · cases h
    · split at h
      · have := neg (by assumption)
        cases h; unfold fit; simp only; omega
      · cases h
theorem fit_jn {s : Int} {a b c : Ef} (ha : fit s a) (hb : fit s b) (h : jn a b = some c) : fit s c := by
  obtain ⟨a0, a1, a2⟩ := a
  obtain ⟨b0, b1, b2⟩ := b
  unfold jn at h
  unfold fit at *
  simp only at h ha hb
  split at h
  · cases h
  · cases h; simp only; omega
theorem mir_jn (s : Int) (a b : Ef) : (jn a b).map (mir s) = jn (mir s b) (mir s a) := by
  obtain ⟨a0, a1, a2⟩ := a
  obtain ⟨b0, b1, b2⟩ := b
  unfold jn mir
  simp only
  by_cases c : a2 < b0
  · rw [if_pos c, if_pos (by omega)]; rfl
  · rw [if_neg c, if_neg (by omega)]
    exact ef_eq (by simp only; omega) (by simp only; omega) (by simp only; omega)
theorem jn_assoc (a b c : Ef) : ((jn a b).bind fun e => jn e c) = (jn b c).bind fun e => jn a e := by
  obtain ⟨a0, a1, a2⟩ := a
  obtain ⟨b0, b1, b2⟩ := b
  obtain ⟨c0, c1, c2⟩ := c
  unfold jn
  simp only
  by_cases p : a2 < b0
  · rw [if_pos p, Option.bind_none]
    by_cases q : b2 < c0
    · rw [if_pos q]; rfl
    · rw [if_neg q, Option.bind_some]; simp only
      rw [if_pos (by omega)]
  · rw [if_neg p, Option.bind_some]
    by_cases q : b2 < c0
    · rw [if_pos q, Option.bind_none]; simp only
      rw [if_pos (by omega)]
    · rw [if_neg q, Option.bind_some]; simp only
      by_cases r : a2 + b1 < c0
      · rw [if_pos (by omega), if_pos (by omega)]
      · rw [if_neg (by omega), if_neg (by omega)]
        exact ef_eq (by omega) (by omega) (by omega)
theorem jn_unit_l {s : Int} {e : Ef} (h : fit s e) : jn (0, 0, s) e = some e := by
  obtain ⟨a0, a1, a2⟩ := e
  unfold fit at h
  unfold jn
  simp only at *
  rw [if_neg (by omega)]
  exact ef_eq (by omega) (by omega) (by omega)
theorem jn_unit_r {s : Int} {e : Ef} (h : fit s e) : jn e (0, 0, s) = some e := by
  obtain ⟨a0, a1, a2⟩ := e
  unfold fit at h
  unfold jn
  simp only at *
  rw [if_neg (by omega)]
  exact ef_eq (by omega) (by omega) (by omega)
/-- an effect that fits, or none -/
def okO (s : Int) (o : Option Ef) : Prop := ∀ e, o = some e → fit s e
theorem okO_bo {s : Int} {a b : Option Ef} (ha : okO s a) (hb : okO s b) : okO s (bo a b) := by
  intro e he
  unfold bo at he
  cases a with
  | none => cases he
  | some a => cases b with
    | none => cases he
    | some b => exact fit_jn (ha a rfl) (hb b rfl) he
theorem bo_assoc (a b c : Option Ef) : bo (bo a b) c = bo a (bo b c) := by
  cases a with
  | none => rfl
  | some a => cases b with
    | none => rfl
    | some b => cases c with
      | none => show bo (jn a b) none = bo (some a) none; cases jn a b <;> rfl
      | some c =>
        show ((jn a b).bind fun x => (some c).bind fun y => jn x y) = ((jn b c).bind fun y => jn a y)
        exact jn_assoc a b c
theorem mir_bo (s : Int) (a b : Option Ef) : (bo a b).map (mir s) = bo (b.map (mir s)) (a.map (mir s)) := by
  cases a with
  | none => cases b <;> rfl
  | some a => cases b with
    | none => rfl
    | some b => exact mir_jn s a b
theorem bo_l {s : Int} {a : Option Ef} (h : okO s a) : bo (some (0, 0, s)) a = a := by
  cases a with
  | none => rfl
  | some a => exact jn_unit_l (h a rfl)
theorem bo_r {s : Int} {a : Option Ef} (h : okO s a) : bo a (some (0, 0, s)) = a := by
  cases a with
  | none => rfl
  | some a => exact jn_unit_r (h a rfl)
theorem mir_okO {s : Int} {a : Option Ef} (h : okO s a) : okO s (a.map (mir s)) := by
  intro e he
  cases a with
  | none => cases he
  | some a =>
    have := h a rfl
    cases he
    unfold fit mir at *
    simp only at *
    omega
/-- one behind the other -/
def fo (s : Int) (l : List (Option Ef)) : Option Ef := l.foldl bo (some (0, 0, s))
theorem fo_snoc (s : Int) (l : List (Option Ef)) (x : Option Ef) : fo s (l ++ [x]) = bo (fo s l) x := by unfold fo; rw [List.foldl_append]; rfl
theorem okO_fo {s : Int} (hs : 0 ≤ s) : ∀ (l : List (Option Ef)) (a : Option Ef), okO s a → (∀ x ∈ l, okO s x) → okO s (l.foldl bo a)
  | [], a, ha, _ => ha
  | x :: l, a, ha, h => okO_fo hs l (bo a x) (okO_bo ha (h x List.mem_cons_self)) fun y hy => h y (List.mem_cons_of_mem _ hy)
theorem okO_u {s : Int} (hs : 0 ≤ s) : okO s (some (0, 0, s)) := by
  intro e he; cases he; unfold fit; simp only; omega
theorem fo_acc {s : Int} (hs : 0 ≤ s) : ∀ (l : List (Option Ef)) (a : Option Ef), okO s a → (∀ x ∈ l, okO s x) → l.foldl bo a = bo a (fo s l)
  | [], a, h, _ => (bo_r h).symm
  | x :: l, a, h, hx => by
    have hl : ∀ y ∈ l, okO s y := fun y hy => hx y (List.mem_cons_of_mem _ hy)
    have h1 := hx x List.mem_cons_self
    show l.foldl bo (bo a x) = bo a (l.foldl bo (bo (some (0, 0, s)) x))
    rw [bo_l h1, fo_acc hs l _ (okO_bo h h1) hl, fo_acc hs l x h1 hl, bo_assoc]
theorem fo_mir {s : Int} (hs : 0 ≤ s) : ∀ l : List (Option Ef), (∀ x ∈ l, okO s x) → fo s ((l.map (Option.map (mir s))).reverse) = (fo s l).map (mir s)
  | [], _ => by
    show some (0, 0, s) = some (mir s (0, 0, s))
    unfold mir
    exact ef_eq (by simp only; omega) rfl (by simp only; omega)
  | x :: l, hx => by
    have hl : ∀ y ∈ l, okO s y := fun y hy => hx y (List.mem_cons_of_mem _ hy)
    have h1 := hx x List.mem_cons_self
    rw [List.map_cons, List.reverse_cons, fo_snoc, fo_mir hs l hl, ← mir_bo]
    congr 1
    show _ = l.foldl bo (bo (some (0, 0, s)) x)
    rw [bo_l h1, fo_acc hs l x h1 hl]
end Tr

set_option maxRecDepth 100000
set_option maxHeartbeats 8000000
set_option exponentiation.threshold 1000
/-! So many rounds are told rightly. -/
namespace Tr
open PySem
theorem varK_frz {i : Nat} {ρ : Env} {d : D} {k : D → Env → Prop} (h : frz d = true) (hk : k d ρ) : varK i ρ d k := by
  cases d with
  | tup l =>
    have h : frzL l = true := h
    show (match frzL l with | true => k (.tup l) ρ | false => setK ρ i (some (.tup (freezeL l))) fun ρ' => k (.tup (freezeL l)) ρ')
    rw [h]; exact hk
  | hole => cases h
  | mu l => cases h
  | _ => exact hk
theorem frz_oD (o : Option Ef) : frz (oD o) = true := by cases o <;> rfl
theorem frz_oI (o : Option Int) : frz (oI o) = true := by cases o <;> rfl
theorem row_il (dn up : Int) (b : Bool) : (if b = true then [D.int (-dn), D.int up] else [D.int up, D.int (-dn)]) = il (rowL dn up b) := by cases b <;> rfl
theorem row_two (dn up : Int) (b : Bool) : ∃ r0 r1, rowL dn up b = [r0, r1] := by cases b <;> exact ⟨_, _, rfl⟩
theorem rows_cons (l : List Int) : ∀ n, rows l (n + 1) = l ++ rows l n
  | 0 => by show [] ++ l = l ++ []; simp
  | n + 1 => by show rows l (n + 1) ++ l = l ++ (rows l n ++ l); rw [rows_cons l n, List.append_assoc]
theorem rep_rows (l : List Int) : ∀ n, (List.replicate n (il l)).flatten = il (rows l n)
  | 0 => rfl
  | n + 1 => by
    rw [List.replicate_succ, List.flatten_cons, rep_rows l n, rows_cons]
    unfold il
    rw [List.map_append]
theorem rows_len (l : List Int) : ∀ n, (rows l n).length = n * l.length
  | 0 => by simp [rows]
  | n + 1 => by show (rows l n ++ l).length = _; rw [List.length_append, rows_len l n, Nat.succ_mul]
theorem las_len (s : Int) : ∀ (cs : List Int) (l : Int), (las s l cs).length ≤ cs.length + 1
  | [], l => Nat.le_refl _
  | c :: cs, l => by
    unfold las
    cases stp s l c with
    | none => simp
    | some l' =>
      have := las_len s cs l'
      simp; omega
theorem cb_gain {s dn up m : Int} {b : Bool} {e : Ef} (h : cb s dn up b m = some e) : e.2.1 = m * (up - dn) := by
  unfold cb at h
  repeat' split at h
  all_goals first | (cases h; rfl) | cases h
theorem s_comb_right {n f : Nat} {bag : D} (hn : 7 ≤ n) (hb : Bag (f + 19) bag) {s dn up m : Int} {b : Bool} (hs : 0 ≤ s ∧ s ≤ 10 ^ 20) (hd : 0 ≤ dn ∧ dn ≤ 10 ^ 18) (hu : 0 ≤ up ∧ up ≤ 10 ^ 18) (hm : 1 ≤ m ∧ m ≤ 10 ^ 24) {k : D → List D → Prop} (h : ∀ bag', Bag f bag' → k (.bl true) [bag']) : semN T n fx__law_comb_right [bag, .int s, .tup [.int dn, .int up, .bl b], .int m] k := by
  obtain ⟨n, rfl⟩ : ∃ m, n = m + 1 := ⟨n - 1, by omega⟩
  refine sem_succ 9 rfl rfl rfl ?_
  obtain ⟨r0, r1, hr⟩ := row_two dn up b
  have fits : ∀ t : Int, 1 ≤ t → ∀ e, cb s dn up b t = some e → fit s e := fun t ht e he => fit_cb hs.1 hd.1 hu.1 ht he
  have rest : ∀ bag, Bag (f + 14) bag → evSs (semN T n) (dropS 4 fn__law_comb_right.body) [some bag, some (.int s), some (.tup [.int dn, .int up, .bl b]), some (.int m), some (oD (cb s dn up b 1)), some (oD (cb s dn up b m)), none, none, none, none, none, some (.lst (il [r0, r1])), some (oD (cb s dn up b m))] { nx := fun ρ => outK fn__law_comb_right.io ρ fun outs => k .non outs, rt := fun d ρ => fzK d fun d' => outK fn__law_comb_right.io ρ fun outs => k d' outs, bk := fun _ => False, ct := fun _ => False } := by
    intro bag hb1
    ((refine Go.p ?_; (with_reducible conv => (arg 1; whnf)); refine Go.mk ?_); repeat ((first | refine varK_frz (frz_oD _) ?_ | refine fzK_frz (frz_oD _) ?_ | refine varK_frz (frz_oI _) ?_ | refine fzK_frz (frz_oI _) ?_ | refine br_f rfl ?_ | refine br_t rfl ?_); (refine Go.p ?_; (with_reducible conv => (arg 1; whnf)); refine Go.mk ?_)))
    refine s_effect_right (f := f + 9) (by omega) hb1 hs.1 (cb s dn up b m) (fits m (by omega)) fun bag1 hb1 => ?_
    ((refine Go.p ?_; (with_reducible conv => (arg 1; whnf)); refine Go.mk ?_); repeat ((first | refine varK_frz (frz_oD _) ?_ | refine fzK_frz (frz_oD _) ?_ | refine varK_frz (frz_oI _) ?_ | refine fzK_frz (frz_oI _) ?_ | refine br_f rfl ?_ | refine br_t rfl ?_); (refine Go.p ?_; (with_reducible conv => (arg 1; whnf)); refine Go.mk ?_)))
    refine s_take (f := f + 8) (by omega) hb1 (by decide) (small_of (by decide)) fun r bag2 h0 h1 hb2 => ?_
    ((refine Go.p ?_; (with_reducible conv => (arg 1; whnf)); refine Go.mk ?_); repeat ((first | refine varK_frz (frz_oD _) ?_ | refine fzK_frz (frz_oD _) ?_ | refine varK_frz (frz_oI _) ?_ | refine fzK_frz (frz_oI _) ?_ | refine br_f rfl ?_ | refine br_t rfl ?_); (refine Go.p ?_; (with_reducible conv => (arg 1; whnf)); refine Go.mk ?_)))
    obtain ⟨fw, rfl⟩ : ∃ j : Nat, r = j := ⟨r.toNat, by omega⟩
    have e40 : (1 + (fw : Int)).toNat = fw + 1 := by omega
    have len : (rows [r0, r1] (fw + 1)).length ≤ 80 := by rw [rows_len]; simp; omega
    refine ⟨by omega, by omega, ?_, ?_⟩
    · rw [e40, il_len]
      exact Nat.le_of_lt (lt_sz (by simp; omega))
    rw [e40, rep_rows]
    (refine Go.p ?_; (with_reducible conv => (arg 1; whnf)); refine Go.mk ?_)
    refine s_comb (by omega) s dn up b _ (by omega) (by omega) (by omega) ?_
    ((refine Go.p ?_; (with_reducible conv => (arg 1; whnf)); refine Go.mk ?_); repeat ((first | refine varK_frz (frz_oD _) ?_ | refine fzK_frz (frz_oD _) ?_ | refine varK_frz (frz_oI _) ?_ | refine fzK_frz (frz_oI _) ?_ | refine br_f rfl ?_ | refine br_t rfl ?_); (refine Go.p ?_; (with_reducible conv => (arg 1; whnf)); refine Go.mk ?_)))
    rw [frz_il]
    ((refine Go.p ?_; (with_reducible conv => (arg 1; whnf)); refine Go.mk ?_); repeat ((first | refine varK_frz (frz_oD _) ?_ | refine fzK_frz (frz_oD _) ?_ | refine varK_frz (frz_oI _) ?_ | refine fzK_frz (frz_oI _) ?_ | refine br_f rfl ?_ | refine br_t rfl ?_); (refine Go.p ?_; (with_reducible conv => (arg 1; whnf)); refine Go.mk ?_)))
    refine s_effect_of (by omega) s (rows [r0, r1] (fw + 1)) ?_
    rw [← hr, cb_rows b hs.1 hd.1 hu.1 fw, show ((fw + 1 : Nat) : Int) = 1 + fw by omega]
    ((refine Go.p ?_; (with_reducible conv => (arg 1; whnf)); refine Go.mk ?_); repeat ((first | refine varK_frz (frz_oD _) ?_ | refine fzK_frz (frz_oD _) ?_ | refine varK_frz (frz_oI _) ?_ | refine fzK_frz (frz_oI _) ?_ | refine br_f rfl ?_ | refine br_t rfl ?_); (refine Go.p ?_; (with_reducible conv => (arg 1; whnf)); refine Go.mk ?_)))
    refine s_effect_right (f := f + 3) (by omega) hb2 hs.1 (cb s dn up b (1 + fw)) (fits _ (by omega)) fun bag3 hb3 => ?_
    ((refine Go.p ?_; (with_reducible conv => (arg 1; whnf)); refine Go.mk ?_); repeat ((first | refine varK_frz (frz_oD _) ?_ | refine fzK_frz (frz_oD _) ?_ | refine varK_frz (frz_oI _) ?_ | refine fzK_frz (frz_oI _) ?_ | refine br_f rfl ?_ | refine br_t rfl ?_); (refine Go.p ?_; (with_reducible conv => (arg 1; whnf)); refine Go.mk ?_)))
    refine s_number (f := f) (by omega) hb3 hs.1 fun l bag4 h0 h1 hb4 => ?_
    ((refine Go.p ?_; (with_reducible conv => (arg 1; whnf)); refine Go.mk ?_); repeat ((first | refine varK_frz (frz_oD _) ?_ | refine fzK_frz (frz_oD _) ?_ | refine varK_frz (frz_oI _) ?_ | refine fzK_frz (frz_oI _) ?_ | refine br_f rfl ?_ | refine br_t rfl ?_); (refine Go.p ?_; (with_reducible conv => (arg 1; whnf)); refine Go.mk ?_)))
    rw [hr]
    refine s_levels_along (by omega) s l (rows [r0, r1] (fw + 1)) (by omega) ?_
    ((refine Go.p ?_; (with_reducible conv => (arg 1; whnf)); refine Go.mk ?_); repeat ((first | refine varK_frz (frz_oD _) ?_ | refine fzK_frz (frz_oD _) ?_ | refine varK_frz (frz_oI _) ?_ | refine fzK_frz (frz_oI _) ?_ | refine br_f rfl ?_ | refine br_t rfl ?_); (refine Go.p ?_; (with_reducible conv => (arg 1; whnf)); refine Go.mk ?_)))
    refine s_along (by omega) s l (rows [r0, r1] (fw + 1)) (by omega) ?_
    ((refine Go.p ?_; (with_reducible conv => (arg 1; whnf)); refine Go.mk ?_); repeat ((first | refine varK_frz (frz_oD _) ?_ | refine fzK_frz (frz_oD _) ?_ | refine varK_frz (frz_oI _) ?_ | refine fzK_frz (frz_oI _) ?_ | refine br_f rfl ?_ | refine br_t rfl ?_); (refine Go.p ?_; (with_reducible conv => (arg 1; whnf)); refine Go.mk ?_)))
    have ll := las_len s (rows [r0, r1] (fw + 1)) l
    refine s_alike (by omega) (.lst (il (las s l (rows [r0, r1] (fw + 1))))) (okL_il _) ?_ ?_
    · show 1 + szL (il (las s l (rows [r0, r1] (fw + 1)))) ≤ 800
      rw [szL_il]; omega
    ((refine Go.p ?_; (with_reducible conv => (arg 1; whnf)); refine Go.mk ?_); repeat ((first | refine varK_frz (frz_oD _) ?_ | refine fzK_frz (frz_oD _) ?_ | refine varK_frz (frz_oI _) ?_ | refine fzK_frz (frz_oI _) ?_ | refine br_f rfl ?_ | refine br_t rfl ?_); (refine Go.p ?_; (with_reducible conv => (arg 1; whnf)); refine Go.mk ?_)))
    refine s_stepped (by omega) s l r0 ?_
    ((refine Go.p ?_; (with_reducible conv => (arg 1; whnf)); refine Go.mk ?_); repeat ((first | refine varK_frz (frz_oD _) ?_ | refine fzK_frz (frz_oD _) ?_ | refine varK_frz (frz_oI _) ?_ | refine fzK_frz (frz_oI _) ?_ | refine br_f rfl ?_ | refine br_t rfl ?_); (refine Go.p ?_; (with_reducible conv => (arg 1; whnf)); refine Go.mk ?_)))
    unfold stp
    refine br_d (fun c => ?_) (fun c => ?_)
    · ((refine Go.p ?_; (with_reducible conv => (arg 1; whnf)); refine Go.mk ?_); repeat ((first | refine varK_frz (frz_oD _) ?_ | refine fzK_frz (frz_oD _) ?_ | refine varK_frz (frz_oI _) ?_ | refine fzK_frz (frz_oI _) ?_ | refine br_f rfl ?_ | refine br_t rfl ?_); (refine Go.p ?_; (with_reducible conv => (arg 1; whnf)); refine Go.mk ?_)))
      rw [if_neg (by omega), minP]
      refine s_alike (by omega) (.int (min s (l + r0))) rfl (Nat.le_of_ble_eq_true rfl) ?_
      ((refine Go.p ?_; (with_reducible conv => (arg 1; whnf)); refine Go.mk ?_); repeat ((first | refine varK_frz (frz_oD _) ?_ | refine fzK_frz (frz_oD _) ?_ | refine varK_frz (frz_oI _) ?_ | refine fzK_frz (frz_oI _) ?_ | refine br_f rfl ?_ | refine br_t rfl ?_); (refine Go.p ?_; (with_reducible conv => (arg 1; whnf)); refine Go.mk ?_)))
      exact h _ hb4
    · ((refine Go.p ?_; (with_reducible conv => (arg 1; whnf)); refine Go.mk ?_); repeat ((first | refine varK_frz (frz_oD _) ?_ | refine fzK_frz (frz_oD _) ?_ | refine varK_frz (frz_oI _) ?_ | refine fzK_frz (frz_oI _) ?_ | refine br_f rfl ?_ | refine br_t rfl ?_); (refine Go.p ?_; (with_reducible conv => (arg 1; whnf)); refine Go.mk ?_)))
      rw [if_pos (by omega)]
      refine s_alike (by omega) .non rfl (by decide) ?_
      ((refine Go.p ?_; (with_reducible conv => (arg 1; whnf)); refine Go.mk ?_); repeat ((first | refine varK_frz (frz_oD _) ?_ | refine fzK_frz (frz_oD _) ?_ | refine varK_frz (frz_oI _) ?_ | refine fzK_frz (frz_oI _) ?_ | refine br_f rfl ?_ | refine br_t rfl ?_); (refine Go.p ?_; (with_reducible conv => (arg 1; whnf)); refine Go.mk ?_)))
      exact h _ hb4
  (refine Go.p ?_; (with_reducible conv => (arg 1; whnf)); refine Go.mk ?_)
  refine s_row (by omega) dn up b ?_
  rw [row_il, hr]
  (refine Go.p ?_; (with_reducible conv => (arg 1; whnf)); refine Go.mk ?_)
  refine s_comb (by omega) s dn up b m (by omega) (by omega) (by omega) ?_
  (refine Go.p ?_; (with_reducible conv => (arg 1; whnf)); refine Go.mk ?_)
  refine s_effect_of (by omega) s [r0, r1] ?_
  rw [← hr, cb_one b hs.1 hd.1 hu.1]
  (refine Go.p ?_; (with_reducible conv => (arg 1; whnf)); refine Go.mk ?_)
  refine s_comb (by omega) s dn up b 1 (by omega) (by omega) (by omega) ?_
  ((refine Go.p ?_; (with_reducible conv => (arg 1; whnf)); refine Go.mk ?_); repeat ((first | refine varK_frz (frz_oD _) ?_ | refine fzK_frz (frz_oD _) ?_ | refine varK_frz (frz_oI _) ?_ | refine fzK_frz (frz_oI _) ?_ | refine br_f rfl ?_ | refine br_t rfl ?_); (refine Go.p ?_; (with_reducible conv => (arg 1; whnf)); refine Go.mk ?_)))
  refine s_effect_right (f := f + 14) (by omega) hb hs.1 (cb s dn up b 1) (fits 1 (by omega)) fun bag1 hb1 => ?_
  ((refine Go.p ?_; (with_reducible conv => (arg 1; whnf)); refine Go.mk ?_); repeat ((first | refine varK_frz (frz_oD _) ?_ | refine fzK_frz (frz_oD _) ?_ | refine varK_frz (frz_oI _) ?_ | refine fzK_frz (frz_oI _) ?_ | refine br_f rfl ?_ | refine br_t rfl ?_); (refine Go.p ?_; (with_reducible conv => (arg 1; whnf)); refine Go.mk ?_)))
  have q := rp_cb (s := s) (dn := dn) (up := up) (t := m) b hs.1 hd.1 hu.1 hm.1
  have rest := rest bag1 hb1
  cases e1 : cb s dn up b 1 with
  | none =>
    rw [e1] at q rest
    rw [← show none = cb s dn up b m from q] at rest ⊢
    rw [hr]
    ((refine Go.p ?_; (with_reducible conv => (arg 1; whnf)); refine Go.mk ?_); repeat ((first | refine br_t rfl ?_ | refine br_f rfl ?_ | refine ⟨rfl, ?_⟩ | refine ⟨lt_sz (Nat.le_of_ble_eq_true rfl), ?_⟩ | refine ⟨Nat.le_of_lt (lt_sz (Nat.le_of_ble_eq_true rfl)), ?_⟩); (refine Go.p ?_; (with_reducible conv => (arg 1; whnf)); refine Go.mk ?_)))
    exact rest
  | some e =>
    obtain ⟨e0, g, e2⟩ := e
    rw [e1] at q rest
    rw [hr]
    ((refine Go.p ?_; (with_reducible conv => (arg 1; whnf)); refine Go.mk ?_); repeat ((first | refine br_t rfl ?_ | refine br_f rfl ?_ | refine ⟨rfl, ?_⟩ | refine ⟨lt_sz (Nat.le_of_ble_eq_true rfl), ?_⟩ | refine ⟨Nat.le_of_lt (lt_sz (Nat.le_of_ble_eq_true rfl)), ?_⟩); (refine Go.p ?_; (with_reducible conv => (arg 1; whnf)); refine Go.mk ?_)))
    refine s_repeated (by omega) s e0 g e2 m (by omega) ?_ ?_
    · have := cb_gain e1
      simp only at this
      omega
    rw [show rp s (e0, g, e2) m = cb s dn up b m from q]
    (refine Go.p ?_; (with_reducible conv => (arg 1; whnf)); refine Go.mk ?_)
    exact rest
end Tr

set_option maxRecDepth 100000
set_option maxHeartbeats 8000000
set_option exponentiation.threshold 1000
/-! Trips: what the defs of trips tell. -/
namespace Tr
open PySem
abbrev Way := Int × Int × Int
@[reducible] def wayD (w : Way) : D := .tup [.int w.1, .int w.2.1, .int w.2.2]
@[reducible] def landD (m : Int) (ws : List Way) : D := .tup [.int m, .lst (ws.map wayD)]
@[reducible] def partD (p : List Int × Int) : D := .tup [.lst (il p.1), .int p.2]
theorem nohole_il : ∀ l : List Int, noholeL (il l) = true
  | [] => rfl
  | _ :: l => nohole_il l
theorem can_il : ∀ l : List Int, PyData.canLayAll0 (toPyL (il l)) = true
  | [] => rfl
  | _ :: l => can_il l
theorem dep_il : ∀ l : List Int, PyData.depthAll (toPyL (il l)) = 0
  | [] => rfl
  | _ :: l => by show max 0 (PyData.depthAll (toPyL (il l))) = 0; rw [dep_il l]; rfl
theorem shaped_il (l : List Int) : SeqAt.shaped (toPy (.lst (il l))) = true := by
  show (PyData.canLayAll0 (toPyL (il l)) && decide (PyData.depthAll (toPyL (il l)) + 1 ≤ 64)) = true
  rw [can_il, dep_il]; rfl
def walkTo (ws : List Way) : Int → List Int → Option Int
  | p, [] => some p
  | p, n :: ns => if 0 ≤ n ∧ n < ws.length then
      match ws[n.toNat]? with
      | some w => if w.1 = p then walkTo ws w.2.1 ns else none
      | none => none
    else none
def partEnd (ws : List Way) (p : Int) (ns : List Int) (t : Int) : Option Int :=
  if ns = [] ∨ ¬ (1 ≤ t ∧ t ≤ 1000000000000000000000000) then none else
    match walkTo ws p ns with
    | none => none
    | some e => if 1 < t ∧ e ≠ p then none else some e
theorem s_part_end {n : Nat} (hn : 1 ≤ n) (m : Int) (ws : List Way) (p : Int) (ns : List Int) (t : Int) {k : D → List D → Prop} (h : k (oI (partEnd ws p ns t)) []) : semN T n fx_part_end [landD m ws, .int p, .tup [.lst (il ns), .int t]] k := by
  obtain ⟨n, rfl⟩ : ∃ m, n = m + 1 := ⟨n - 1, by omega⟩
  generalize hR : partEnd ws p ns t = R at h
  unfold partEnd at hR
  refine sem_succ 4 rfl rfl rfl ?_
  (refine Go.p ?_; (with_reducible conv => (arg 1; whnf)); refine Go.mk ?_)
  refine ⟨nohole_il ns, rfl, shaped_il ns, rfl, ?_⟩
  cases ns with
  | nil =>
    simp only [true_or, if_true] at hR
    subst hR
    refine br_t (b := true) rfl ?_
    ((refine Go.p ?_; (with_reducible conv => (arg 1; whnf)); refine Go.mk ?_); repeat ((first | refine varK_frz (frz_oD _) ?_ | refine fzK_frz (frz_oD _) ?_ | refine varK_frz (frz_oI _) ?_ | refine fzK_frz (frz_oI _) ?_ | refine br_f rfl ?_ | refine br_t rfl ?_); (refine Go.p ?_; (with_reducible conv => (arg 1; whnf)); refine Go.mk ?_)))
    exact h
  | cons n0 ns =>
    refine br_f (b := false) rfl ?_
    (refine Go.p ?_; (with_reducible conv => (arg 1; whnf)); refine Go.mk ?_)
    generalize hW : walkTo ws p (n0 :: ns) = W at hR
    refine br_d (fun c1 => ?_) (fun c1 => ?_)
    · (refine Go.p ?_; (with_reducible conv => (arg 1; whnf)); refine Go.mk ?_)
      (first | refine br_d (fun c2 => ?_) (fun c2 => ?_) | refine br_nd (fun c2 => ?_) (fun c2 => ?_) | refine br_b (fun c2 => ?_) (fun c2 => ?_))
      · rw [if_pos (.inr (by omega))] at hR
        subst hR
        ((refine Go.p ?_; (with_reducible conv => (arg 1; whnf)); refine Go.mk ?_); repeat ((first | refine varK_frz (frz_oD _) ?_ | refine fzK_frz (frz_oD _) ?_ | refine varK_frz (frz_oI _) ?_ | refine fzK_frz (frz_oI _) ?_ | refine br_f rfl ?_ | refine br_t rfl ?_); (refine Go.p ?_; (with_reducible conv => (arg 1; whnf)); refine Go.mk ?_)))
        exact h
      · rw [if_neg (by intro z; rcases z with z | z; exact nomatch z; omega)] at hR
        ((refine Go.p ?_; (with_reducible conv => (arg 1; whnf)); refine Go.mk ?_); repeat ((first | refine varK_frz (frz_oD _) ?_ | refine fzK_frz (frz_oD _) ?_ | refine varK_frz (frz_oI _) ?_ | refine fzK_frz (frz_oI _) ?_ | refine br_f rfl ?_ | refine br_t rfl ?_); (refine Go.p ?_; (with_reducible conv => (arg 1; whnf)); refine Go.mk ?_)))
        refine forL_inv (fun i ρ => ∃ e x, ρ = [some (landD m ws), some (.int p), some (.tup [.lst (il (n0 :: ns)), .int t]), some (.int e), x, some (.lst (il (n0 :: ns))), some (.int t)] ∧ walkTo ws e ((n0 :: ns).drop i) = W) ?_ ?_ ⟨p, none, rfl, hW⟩
        · rintro i d hd ρ ⟨e, x, rfl, he⟩ P hP
          obtain ⟨c, hc, rfl⟩ := il_get hd
          rw [drop_get hc] at he
          unfold walkTo at he
          (refine Go.p ?_; (with_reducible conv => (arg 1; whnf)); refine Go.mk ?_)
          refine br_d (fun c3 => ?_) (fun c3 => ?_)
          · (refine Go.p ?_; (with_reducible conv => (arg 1; whnf)); refine Go.mk ?_)
            (first | refine br_d (fun c4 => ?_) (fun c4 => ?_) | refine br_nd (fun c4 => ?_) (fun c4 => ?_) | refine br_b (fun c4 => ?_) (fun c4 => ?_))
            · rw [if_neg (by rw [List.length_map] at c4; omega)] at he
              ((refine Go.p ?_; (with_reducible conv => (arg 1; whnf)); refine Go.mk ?_); repeat ((first | refine varK_frz (frz_oD _) ?_ | refine fzK_frz (frz_oD _) ?_ | refine varK_frz (frz_oI _) ?_ | refine fzK_frz (frz_oI _) ?_ | refine br_f rfl ?_ | refine br_t rfl ?_); (refine Go.p ?_; (with_reducible conv => (arg 1; whnf)); refine Go.mk ?_)))
              subst he
              subst hR
              exact h
            · rw [List.length_map] at c4
              obtain ⟨j, rfl⟩ : ∃ j : Nat, c = j := ⟨c.toNat, by omega⟩
              have hj : j < ws.length := by omega
              rw [if_pos ⟨c3, c4⟩, Int.toNat_natCast, List.getElem?_eq_getElem hj] at he
              simp only at he
              have hat : L2.atI (ws.map wayD) (j : Int) = some (wayD ws[j]) := L2.atI_nat (by rw [List.getElem?_map, List.getElem?_eq_getElem hj]; rfl)
              (refine Go.p ?_; (with_reducible conv => (arg 1; whnf)); refine Go.mk ?_)
              rw [hat]
              (refine Go.p ?_; (with_reducible conv => (arg 1; whnf)); refine Go.mk ?_)
              (first | refine br_d (fun c5 => ?_) (fun c5 => ?_) | refine br_nd (fun c5 => ?_) (fun c5 => ?_) | refine br_b (fun c5 => ?_) (fun c5 => ?_))
              · rw [if_neg c5] at he
                ((refine Go.p ?_; (with_reducible conv => (arg 1; whnf)); refine Go.mk ?_); repeat ((first | refine varK_frz (frz_oD _) ?_ | refine fzK_frz (frz_oD _) ?_ | refine varK_frz (frz_oI _) ?_ | refine fzK_frz (frz_oI _) ?_ | refine br_f rfl ?_ | refine br_t rfl ?_); (refine Go.p ?_; (with_reducible conv => (arg 1; whnf)); refine Go.mk ?_)))
                subst he
                subst hR
                exact h
              · rw [if_pos c5] at he
                ((refine Go.p ?_; (with_reducible conv => (arg 1; whnf)); refine Go.mk ?_); repeat ((first | refine varK_frz (frz_oD _) ?_ | refine fzK_frz (frz_oD _) ?_ | refine varK_frz (frz_oI _) ?_ | refine fzK_frz (frz_oI _) ?_ | refine br_f rfl ?_ | refine br_t rfl ?_); (refine Go.p ?_; (with_reducible conv => (arg 1; whnf)); refine Go.mk ?_)))
                rw [hat]
                ((refine Go.p ?_; (with_reducible conv => (arg 1; whnf)); refine Go.mk ?_); repeat ((first | refine varK_frz (frz_oD _) ?_ | refine fzK_frz (frz_oD _) ?_ | refine varK_frz (frz_oI _) ?_ | refine fzK_frz (frz_oI _) ?_ | refine br_f rfl ?_ | refine br_t rfl ?_); (refine Go.p ?_; (with_reducible conv => (arg 1; whnf)); refine Go.mk ?_)))
                exact hP _ ⟨_, _, rfl, he⟩
          · rw [if_neg (by omega)] at he
            ((refine Go.p ?_; (with_reducible conv => (arg 1; whnf)); refine Go.mk ?_); repeat ((first | refine varK_frz (frz_oD _) ?_ | refine fzK_frz (frz_oD _) ?_ | refine varK_frz (frz_oI _) ?_ | refine fzK_frz (frz_oI _) ?_ | refine br_f rfl ?_ | refine br_t rfl ?_); (refine Go.p ?_; (with_reducible conv => (arg 1; whnf)); refine Go.mk ?_)))
            subst he
            subst hR
            exact h
        · rintro ρ ⟨e, x, rfl, he⟩
          rw [drop_end (by rw [il_len])] at he
          have he : some e = W := he
          subst he
          simp only at hR
          (refine Go.p ?_; (with_reducible conv => (arg 1; whnf)); refine Go.mk ?_)
          refine br_d (fun c3 => ?_) (fun c3 => ?_)
          · (refine Go.p ?_; (with_reducible conv => (arg 1; whnf)); refine Go.mk ?_)
            (first | refine br_d (fun c5 => ?_) (fun c5 => ?_) | refine br_nd (fun c5 => ?_) (fun c5 => ?_) | refine br_b (fun c5 => ?_) (fun c5 => ?_))
            · rw [if_pos ⟨by omega, c5⟩] at hR
              subst hR
              ((refine Go.p ?_; (with_reducible conv => (arg 1; whnf)); refine Go.mk ?_); repeat ((first | refine varK_frz (frz_oD _) ?_ | refine fzK_frz (frz_oD _) ?_ | refine varK_frz (frz_oI _) ?_ | refine fzK_frz (frz_oI _) ?_ | refine br_f rfl ?_ | refine br_t rfl ?_); (refine Go.p ?_; (with_reducible conv => (arg 1; whnf)); refine Go.mk ?_)))
              exact h
            · rw [if_neg (fun z => z.2 c5)] at hR
              subst hR
              ((refine Go.p ?_; (with_reducible conv => (arg 1; whnf)); refine Go.mk ?_); repeat ((first | refine varK_frz (frz_oD _) ?_ | refine fzK_frz (frz_oD _) ?_ | refine varK_frz (frz_oI _) ?_ | refine fzK_frz (frz_oI _) ?_ | refine br_f rfl ?_ | refine br_t rfl ?_); (refine Go.p ?_; (with_reducible conv => (arg 1; whnf)); refine Go.mk ?_)))
              exact h
          · rw [if_neg (by omega)] at hR
            subst hR
            ((refine Go.p ?_; (with_reducible conv => (arg 1; whnf)); refine Go.mk ?_); repeat ((first | refine varK_frz (frz_oD _) ?_ | refine fzK_frz (frz_oD _) ?_ | refine varK_frz (frz_oI _) ?_ | refine fzK_frz (frz_oI _) ?_ | refine br_f rfl ?_ | refine br_t rfl ?_); (refine Go.p ?_; (with_reducible conv => (arg 1; whnf)); refine Go.mk ?_)))
            exact h
    · rw [if_pos (.inr (by omega))] at hR
      subst hR
      ((refine Go.p ?_; (with_reducible conv => (arg 1; whnf)); refine Go.mk ?_); repeat ((first | refine varK_frz (frz_oD _) ?_ | refine fzK_frz (frz_oD _) ?_ | refine varK_frz (frz_oI _) ?_ | refine fzK_frz (frz_oI _) ?_ | refine br_f rfl ?_ | refine br_t rfl ?_); (refine Go.p ?_; (with_reducible conv => (arg 1; whnf)); refine Go.mk ?_)))
      exact h
end Tr

set_option maxRecDepth 100000
set_option maxHeartbeats 8000000
set_option exponentiation.threshold 1000
/-! Trips: ends, lengths, effects. -/
namespace Tr
open PySem
theorem compL_map {α : Type} {own : List Nat} {bind : D → Env → (Env → Prop) → Prop} {cond : Env → (Bool → Env → Prop) → Prop} {elt : Env → (D → Env → Prop) → Prop} (l : List α) (f g : α → D) (ρ : Env) (hl : l.length ≤ 500)
    (step : ∀ (i : Nat) (a : α), l[i]? = some a → ∀ (acc : List D) (P : Env → List D → Prop), acc.length < sizeLine → P ρ (acc ++ [g a]) →
      bind (f a) ρ fun ρ1 => cond ρ1 fun b ρ2 => br b (elt ρ2 fun y ρ3 => acc.length < sizeLine ∧ wipeK own ρ3 fun ρ4 => P ρ4 (acc ++ [y])) (wipeK own ρ2 fun ρ4 => P ρ4 acc)) {k : List D → Env → Prop} (h : k (l.map g) ρ) : compL own bind cond elt (l.map f) ρ [] k := by
  refine compL_inv (fun i ρ' acc => ρ' = ρ ∧ acc = (l.take i).map g) (by rw [List.length_map]; omega) ?_ ?_ ?_ ⟨rfl, rfl⟩
  · rintro i d hd ρ' acc ⟨rfl, rfl⟩ hz P hP
    rw [List.getElem?_map] at hd
    cases e : l[i]? with
    | none => rw [e] at hd; cases hd
    | some a =>
      rw [e] at hd
      cases hd
      refine step i a e _ P hz (hP _ _ ⟨rfl, ?_⟩)
      rw [List.take_succ, e]
      simp
  · rintro i ρ' acc ⟨_, rfl⟩
    rw [List.length_map, List.length_take]; omega
  · rintro ρ' acc ⟨rfl, rfl⟩
    rw [List.length_map, List.take_length]
    exact h
theorem map_get {α β : Type} {l : List α} {f : α → β} {i : Nat} {d : β} (h : (l.map f)[i]? = some d) : ∃ c, l[i]? = some c ∧ d = f c := by
  rw [List.getElem?_map] at h
  cases e : l[i]? with
  | none => rw [e] at h; cases h
  | some c => rw [e] at h; cases h; exact ⟨c, rfl, rfl⟩
theorem dropg {α : Type} {l : List α} {i : Nat} {c : α} (h : l[i]? = some c) : l.drop i = c :: l.drop (i + 1) := by
  obtain ⟨hi, e⟩ := List.getElem?_eq_some_iff.mp h
  rw [List.drop_eq_getElem_cons hi, e]
abbrev Pt := List Int × Int
def endOf (ws : List Way) : Int → List Pt → Option Int
  | p, [] => some p
  | p, q :: qs => (partEnd ws p q.1 q.2).bind fun e => endOf ws e qs
theorem s_end_of {n : Nat} (hn : 2 ≤ n) (m : Int) (ws : List Way) (p : Int) (qs : List Pt) {e : Int} (he : endOf ws p qs = some e) {k : D → List D → Prop} (h : k (.int e) []) : semN T n fx_end_of [landD m ws, .int p, .lst (qs.map partD)] k := by
  obtain ⟨n, rfl⟩ : ∃ m, n = m + 1 := ⟨n - 1, by omega⟩
  refine sem_succ 2 rfl rfl rfl ?_
  (refine Go.p ?_; (with_reducible conv => (arg 1; whnf)); refine Go.mk ?_)
  refine forL_inv (fun i ρ => ∃ p' x y, ρ = [some (landD m ws), some (.int p'), some (.lst (qs.map partD)), x, y] ∧ endOf ws p' (qs.drop i) = some e) ?_ ?_ ⟨p, none, none, rfl, he⟩
  · rintro i d hd ρ ⟨p', x, y, rfl, he⟩ P hP
    obtain ⟨z, hz, rfl⟩ := enumL_get _ _ _ _ hd
    obtain ⟨q, hq, rfl⟩ := map_get hz
    obtain ⟨ns, t⟩ := q
    rw [dropg hq] at he
    unfold endOf at he
    cases hp : partEnd ws p' ns t with
    | none => simp only [hp] at he; cases he
    | some p2 =>
      simp only [hp, Option.bind_some] at he
      ((refine Go.p ?_; (with_reducible conv => (arg 1; whnf)); refine Go.mk ?_); repeat ((first | refine varK_frz (frz_oD _) ?_ | refine fzK_frz (frz_oD _) ?_ | refine varK_frz (frz_oI _) ?_ | refine fzK_frz (frz_oI _) ?_ | refine br_f rfl ?_ | refine br_t rfl ?_); (refine Go.p ?_; (with_reducible conv => (arg 1; whnf)); refine Go.mk ?_)))
      refine s_part_end (by omega) m ws p' ns t ?_
      rw [hp]
      ((refine Go.p ?_; (with_reducible conv => (arg 1; whnf)); refine Go.mk ?_); repeat ((first | refine varK_frz (frz_oD _) ?_ | refine fzK_frz (frz_oD _) ?_ | refine varK_frz (frz_oI _) ?_ | refine fzK_frz (frz_oI _) ?_ | refine br_f rfl ?_ | refine br_t rfl ?_); (refine Go.p ?_; (with_reducible conv => (arg 1; whnf)); refine Go.mk ?_)))
      refine ⟨rfl, ?_⟩
      ((refine Go.p ?_; (with_reducible conv => (arg 1; whnf)); refine Go.mk ?_); repeat ((first | refine varK_frz (frz_oD _) ?_ | refine fzK_frz (frz_oD _) ?_ | refine varK_frz (frz_oI _) ?_ | refine fzK_frz (frz_oI _) ?_ | refine br_f rfl ?_ | refine br_t rfl ?_); (refine Go.p ?_; (with_reducible conv => (arg 1; whnf)); refine Go.mk ?_)))
      exact hP _ ⟨p2, _, _, rfl, he⟩
  · rintro ρ ⟨p', x, y, rfl, he⟩
    rw [enumL_len, List.length_map, List.drop_length] at he
    cases he
    ((refine Go.p ?_; (with_reducible conv => (arg 1; whnf)); refine Go.mk ?_); repeat ((first | refine varK_frz (frz_oD _) ?_ | refine fzK_frz (frz_oD _) ?_ | refine varK_frz (frz_oI _) ?_ | refine fzK_frz (frz_oI _) ?_ | refine br_f rfl ?_ | refine br_t rfl ?_); (refine Go.p ?_; (with_reducible conv => (arg 1; whnf)); refine Go.mk ?_)))
    exact h
theorem sum_ints : ∀ l : List Int, IsInts (il l) l := fun _ => rfl
def lenTrip (qs : List Pt) : Int := (qs.map fun q => (q.1.length : Int) * q.2).sum
theorem s_length_of {n : Nat} (hn : 3 ≤ n) (m : Int) (ws : List Way) (p : Int) (qs : List Pt) {e : Int} (he : endOf ws p qs = some e) (hl : qs.length ≤ 500) (hs : ∀ q ∈ qs, q.1.length ≤ 1000 ∧ Small q.2) {k : D → List D → Prop} (h : k (.int (lenTrip qs)) []) : semN T n fx_length_of [landD m ws, .int p, .lst (qs.map partD)] k := by
  obtain ⟨n, rfl⟩ : ∃ m, n = m + 1 := ⟨n - 1, by omega⟩
  refine sem_succ 2 rfl rfl rfl ?_
  (refine Go.p ?_; (with_reducible conv => (arg 1; whnf)); refine Go.mk ?_)
  refine s_end_of (by omega) m ws p qs he ?_
  ((refine Go.p ?_; (with_reducible conv => (arg 1; whnf)); refine Go.mk ?_); repeat ((first | refine varK_frz (frz_oD _) ?_ | refine fzK_frz (frz_oD _) ?_ | refine varK_frz (frz_oI _) ?_ | refine fzK_frz (frz_oI _) ?_ | refine br_f rfl ?_ | refine br_t rfl ?_); (refine Go.p ?_; (with_reducible conv => (arg 1; whnf)); refine Go.mk ?_)))
  refine compL_map qs partD (fun q => .int ((q.1.length : Int) * q.2)) _ hl ?_ ?_
  · rintro i ⟨ns, t⟩ hi acc P hz hP
    obtain ⟨h1, h2⟩ := hs _ (List.mem_of_getElem? hi)
    ((refine Go.p ?_; (with_reducible conv => (arg 1; whnf)); refine Go.mk ?_); repeat ((first | refine varK_frz (frz_oD _) ?_ | refine fzK_frz (frz_oD _) ?_ | refine varK_frz (frz_oI _) ?_ | refine fzK_frz (frz_oI _) ?_ | refine br_f rfl ?_ | refine br_t rfl ?_); (refine Go.p ?_; (with_reducible conv => (arg 1; whnf)); refine Go.mk ?_)))
    rw [il_len]
    refine ⟨small_of (by have h1 : ns.length ≤ 1000 := h1; simp only; omega), h2, ?_⟩
    ((refine Go.p ?_; (with_reducible conv => (arg 1; whnf)); refine Go.mk ?_); repeat ((first | refine varK_frz (frz_oD _) ?_ | refine fzK_frz (frz_oD _) ?_ | refine varK_frz (frz_oI _) ?_ | refine fzK_frz (frz_oI _) ?_ | refine br_f rfl ?_ | refine br_t rfl ?_); (refine Go.p ?_; (with_reducible conv => (arg 1; whnf)); refine Go.mk ?_)))
    refine ⟨hz, ?_⟩
    ((refine Go.p ?_; (with_reducible conv => (arg 1; whnf)); refine Go.mk ?_); repeat ((first | refine varK_frz (frz_oD _) ?_ | refine fzK_frz (frz_oD _) ?_ | refine varK_frz (frz_oI _) ?_ | refine fzK_frz (frz_oI _) ?_ | refine br_f rfl ?_ | refine br_t rfl ?_); (refine Go.p ?_; (with_reducible conv => (arg 1; whnf)); refine Go.mk ?_)))
    exact hP
  · rw [show List.map (fun q : Pt => D.int ((q.1.length : Int) * q.2)) qs = il (qs.map fun q => (q.1.length : Int) * q.2) by unfold il; rw [List.map_map]; rfl]
    (refine Go.p ?_; (with_reducible conv => (arg 1; whnf)); refine Go.mk ?_)
    rw [frz_il]
    (refine Go.p ?_; (with_reducible conv => (arg 1; whnf)); refine Go.mk ?_)
    refine ⟨_, sum_ints _, ?_⟩
    ((refine Go.p ?_; (with_reducible conv => (arg 1; whnf)); refine Go.mk ?_); repeat ((first | refine varK_frz (frz_oD _) ?_ | refine fzK_frz (frz_oD _) ?_ | refine varK_frz (frz_oI _) ?_ | refine fzK_frz (frz_oI _) ?_ | refine br_f rfl ?_ | refine br_t rfl ?_); (refine Go.p ?_; (with_reducible conv => (arg 1; whnf)); refine Go.mk ?_)))
    exact h
def csOf (ws : List Way) (ns : List Int) : List Int := ns.map fun n => (ws[n.toNat]?.getD (0, 0, 0)).2.2
def partEff (s : Int) (ws : List Way) (q : Pt) : Option Ef := (eo s (csOf ws q.1)).bind fun e => rp s e q.2
/-- a part in bounds -/
def okPart (s : Int) (ws : List Way) (q : Pt) : Prop := q.1.length ≤ 500 ∧ (∀ n ∈ q.1, 0 ≤ n ∧ n < ws.length) ∧ (1 ≤ q.2 ∧ q.2 ≤ 2 ^ 200) ∧ ∀ e, eo s (csOf ws q.1) = some e → -(2 ^ 200) < e.2.1 ∧ e.2.1 < 2 ^ 200
theorem s_part_effect {n : Nat} (hn : 3 ≤ n) (m s : Int) (ws : List Way) (q : Pt) (hq : okPart s ws q) {k : D → List D → Prop} (h : k (oD (partEff s ws q)) []) : semN T n fx_part_effect [landD m ws, .int s, partD q] k := by
  obtain ⟨n, rfl⟩ : ∃ m, n = m + 1 := ⟨n - 1, by omega⟩
  obtain ⟨ns, t⟩ := q
  obtain ⟨hl, hv, ht, hg⟩ := hq
  unfold partEff at h
  refine sem_succ 4 rfl rfl rfl ?_
  (refine Go.p ?_; (with_reducible conv => (arg 1; whnf)); refine Go.mk ?_)
  refine compL_map ns D.int (fun n => .int ((ws[n.toNat]?.getD (0, 0, 0)).2.2)) _ hl ?_ ?_
  · rintro i c hi acc P hz hP
    obtain ⟨h1, h2⟩ := hv _ (List.mem_of_getElem? hi)
    obtain ⟨j, rfl⟩ : ∃ j : Nat, c = j := ⟨c.toNat, by omega⟩
    have hj : j < ws.length := by omega
    have hat : L2.atI (ws.map wayD) (j : Int) = some (wayD ws[j]) := L2.atI_nat (by rw [List.getElem?_map, List.getElem?_eq_getElem hj]; rfl)
    rw [Int.toNat_natCast, List.getElem?_eq_getElem hj, Option.getD_some] at hP
    ((refine Go.p ?_; (with_reducible conv => (arg 1; whnf)); refine Go.mk ?_); repeat ((first | refine varK_frz (frz_oD _) ?_ | refine fzK_frz (frz_oD _) ?_ | refine varK_frz (frz_oI _) ?_ | refine fzK_frz (frz_oI _) ?_ | refine br_f rfl ?_ | refine br_t rfl ?_); (refine Go.p ?_; (with_reducible conv => (arg 1; whnf)); refine Go.mk ?_)))
    rw [hat]
    ((refine Go.p ?_; (with_reducible conv => (arg 1; whnf)); refine Go.mk ?_); repeat ((first | refine varK_frz (frz_oD _) ?_ | refine fzK_frz (frz_oD _) ?_ | refine varK_frz (frz_oI _) ?_ | refine fzK_frz (frz_oI _) ?_ | refine br_f rfl ?_ | refine br_t rfl ?_); (refine Go.p ?_; (with_reducible conv => (arg 1; whnf)); refine Go.mk ?_)))
    refine ⟨hz, ?_⟩
    ((refine Go.p ?_; (with_reducible conv => (arg 1; whnf)); refine Go.mk ?_); repeat ((first | refine varK_frz (frz_oD _) ?_ | refine fzK_frz (frz_oD _) ?_ | refine varK_frz (frz_oI _) ?_ | refine fzK_frz (frz_oI _) ?_ | refine br_f rfl ?_ | refine br_t rfl ?_); (refine Go.p ?_; (with_reducible conv => (arg 1; whnf)); refine Go.mk ?_)))
    exact hP
  · rw [show List.map (fun n : Int => D.int ((ws[n.toNat]?.getD (0, 0, 0)).2.2)) ns = il (csOf ws ns) by unfold il csOf; rw [List.map_map]; rfl]
    ((refine Go.p ?_; (with_reducible conv => (arg 1; whnf)); refine Go.mk ?_); repeat ((first | refine varK_frz (frz_oD _) ?_ | refine fzK_frz (frz_oD _) ?_ | refine varK_frz (frz_oI _) ?_ | refine fzK_frz (frz_oI _) ?_ | refine br_f rfl ?_ | refine br_t rfl ?_); (refine Go.p ?_; (with_reducible conv => (arg 1; whnf)); refine Go.mk ?_)))
    rw [frz_il]
    ((refine Go.p ?_; (with_reducible conv => (arg 1; whnf)); refine Go.mk ?_); repeat ((first | refine varK_frz (frz_oD _) ?_ | refine fzK_frz (frz_oD _) ?_ | refine varK_frz (frz_oI _) ?_ | refine fzK_frz (frz_oI _) ?_ | refine br_f rfl ?_ | refine br_t rfl ?_); (refine Go.p ?_; (with_reducible conv => (arg 1; whnf)); refine Go.mk ?_)))
    refine s_effect_of (by omega) s _ ?_
    simp only at h hg
    cases e1 : eo s (csOf ws ns) with
    | none =>
      rw [e1] at h
      ((refine Go.p ?_; (with_reducible conv => (arg 1; whnf)); refine Go.mk ?_); repeat ((first | refine varK_frz (frz_oD _) ?_ | refine fzK_frz (frz_oD _) ?_ | refine varK_frz (frz_oI _) ?_ | refine fzK_frz (frz_oI _) ?_ | refine br_f rfl ?_ | refine br_t rfl ?_); (refine Go.p ?_; (with_reducible conv => (arg 1; whnf)); refine Go.mk ?_)))
      refine ⟨rfl, ?_⟩
      ((refine Go.p ?_; (with_reducible conv => (arg 1; whnf)); refine Go.mk ?_); repeat ((first | refine varK_frz (frz_oD _) ?_ | refine fzK_frz (frz_oD _) ?_ | refine varK_frz (frz_oI _) ?_ | refine fzK_frz (frz_oI _) ?_ | refine br_f rfl ?_ | refine br_t rfl ?_); (refine Go.p ?_; (with_reducible conv => (arg 1; whnf)); refine Go.mk ?_)))
      exact h
    | some e =>
      rw [e1] at h
      have := hg e e1
      obtain ⟨e0, e2, e3⟩ := e
      ((refine Go.p ?_; (with_reducible conv => (arg 1; whnf)); refine Go.mk ?_); repeat ((first | refine varK_frz (frz_oD _) ?_ | refine fzK_frz (frz_oD _) ?_ | refine varK_frz (frz_oI _) ?_ | refine fzK_frz (frz_oI _) ?_ | refine br_f rfl ?_ | refine br_t rfl ?_); (refine Go.p ?_; (with_reducible conv => (arg 1; whnf)); refine Go.mk ?_)))
      refine ⟨rfl, ?_⟩
      ((refine Go.p ?_; (with_reducible conv => (arg 1; whnf)); refine Go.mk ?_); repeat ((first | refine varK_frz (frz_oD _) ?_ | refine fzK_frz (frz_oD _) ?_ | refine varK_frz (frz_oI _) ?_ | refine fzK_frz (frz_oI _) ?_ | refine br_f rfl ?_ | refine br_t rfl ?_); (refine Go.p ?_; (with_reducible conv => (arg 1; whnf)); refine Go.mk ?_)))
      refine s_repeated (by omega) s e0 e2 e3 t ht (hg _ e1) ?_
      ((refine Go.p ?_; (with_reducible conv => (arg 1; whnf)); refine Go.mk ?_); repeat ((first | refine varK_frz (frz_oD _) ?_ | refine fzK_frz (frz_oD _) ?_ | refine varK_frz (frz_oI _) ?_ | refine fzK_frz (frz_oI _) ?_ | refine br_f rfl ?_ | refine br_t rfl ?_); (refine Go.p ?_; (with_reducible conv => (arg 1; whnf)); refine Go.mk ?_)))
      exact h
theorem s_effect_by {n : Nat} (hn : 4 ≤ n) (m s : Int) (ws : List Way) (p : Int) (qs : List Pt) {e : Int} (he : endOf ws p qs = some e) (hq : ∀ q ∈ qs, okPart s ws q) {k : D → List D → Prop} (h : k (oD (fo s (qs.map (partEff s ws)))) []) : semN T n fx_effect_by [landD m ws, .int s, .int p, .lst (qs.map partD)] k := by
  obtain ⟨n, rfl⟩ : ∃ m, n = m + 1 := ⟨n - 1, by omega⟩
  generalize hW : fo s (qs.map (partEff s ws)) = W at h
  refine sem_succ 3 rfl rfl rfl ?_
  (refine Go.p ?_; (with_reducible conv => (arg 1; whnf)); refine Go.mk ?_)
  refine s_end_of (by omega) m ws p qs he ?_
  ((refine Go.p ?_; (with_reducible conv => (arg 1; whnf)); refine Go.mk ?_); repeat ((first | refine varK_frz (frz_oD _) ?_ | refine fzK_frz (frz_oD _) ?_ | refine varK_frz (frz_oI _) ?_ | refine fzK_frz (frz_oI _) ?_ | refine br_f rfl ?_ | refine br_t rfl ?_); (refine Go.p ?_; (with_reducible conv => (arg 1; whnf)); refine Go.mk ?_)))
  have non : ∀ l : List (Option Ef), l.foldl bo none = none := fun l => by
    induction l with
    | nil => rfl
    | cons x l ih => exact ih
  refine forL_inv (fun i ρ => ∃ a x y, ρ = [some (landD m ws), some (.int s), some (.int p), some (.lst (qs.map partD)), some (Ef.d a), x, y] ∧ ((qs.drop i).map (partEff s ws)).foldl bo (some a) = W) ?_ ?_ ⟨(0, 0, s), none, none, rfl, hW⟩
  · rintro i d hd ρ ⟨a, x, y, rfl, ha⟩ P hP
    obtain ⟨q, hqi, rfl⟩ := map_get hd
    rw [dropg hqi, List.map_cons, List.foldl_cons] at ha
    have hqq := hq _ (List.mem_of_getElem? hqi)
    obtain ⟨ns, t⟩ := q
    obtain ⟨a0, a1, a2⟩ := a
    ((refine Go.p ?_; (with_reducible conv => (arg 1; whnf)); refine Go.mk ?_); repeat ((first | refine varK_frz (frz_oD _) ?_ | refine fzK_frz (frz_oD _) ?_ | refine varK_frz (frz_oI _) ?_ | refine fzK_frz (frz_oI _) ?_ | refine br_f rfl ?_ | refine br_t rfl ?_); (refine Go.p ?_; (with_reducible conv => (arg 1; whnf)); refine Go.mk ?_)))
    refine s_part_effect (by omega) m s ws (ns, t) hqq ?_
    cases e1 : partEff s ws (ns, t) with
    | none =>
      rw [e1, show bo (some (a0, a1, a2)) none = none from rfl, non] at ha
      ((refine Go.p ?_; (with_reducible conv => (arg 1; whnf)); refine Go.mk ?_); repeat ((first | refine varK_frz (frz_oD _) ?_ | refine fzK_frz (frz_oD _) ?_ | refine varK_frz (frz_oI _) ?_ | refine fzK_frz (frz_oI _) ?_ | refine br_f rfl ?_ | refine br_t rfl ?_); (refine Go.p ?_; (with_reducible conv => (arg 1; whnf)); refine Go.mk ?_)))
      refine ⟨rfl, ?_⟩
      ((refine Go.p ?_; (with_reducible conv => (arg 1; whnf)); refine Go.mk ?_); repeat ((first | refine varK_frz (frz_oD _) ?_ | refine fzK_frz (frz_oD _) ?_ | refine varK_frz (frz_oI _) ?_ | refine fzK_frz (frz_oI _) ?_ | refine br_f rfl ?_ | refine br_t rfl ?_); (refine Go.p ?_; (with_reducible conv => (arg 1; whnf)); refine Go.mk ?_)))
      subst ha
      exact h
    | some b =>
      obtain ⟨b0, b1, b2⟩ := b
      rw [e1, show bo (some (a0, a1, a2)) (some (b0, b1, b2)) = jn (a0, a1, a2) (b0, b1, b2) from rfl] at ha
      ((refine Go.p ?_; (with_reducible conv => (arg 1; whnf)); refine Go.mk ?_); repeat ((first | refine varK_frz (frz_oD _) ?_ | refine fzK_frz (frz_oD _) ?_ | refine varK_frz (frz_oI _) ?_ | refine fzK_frz (frz_oI _) ?_ | refine br_f rfl ?_ | refine br_t rfl ?_); (refine Go.p ?_; (with_reducible conv => (arg 1; whnf)); refine Go.mk ?_)))
      refine ⟨rfl, ?_⟩
      ((refine Go.p ?_; (with_reducible conv => (arg 1; whnf)); refine Go.mk ?_); repeat ((first | refine varK_frz (frz_oD _) ?_ | refine fzK_frz (frz_oD _) ?_ | refine varK_frz (frz_oI _) ?_ | refine fzK_frz (frz_oI _) ?_ | refine br_f rfl ?_ | refine br_t rfl ?_); (refine Go.p ?_; (with_reducible conv => (arg 1; whnf)); refine Go.mk ?_)))
      refine s_joined (by omega) a0 a1 a2 b0 b1 b2 ?_
      cases e2 : jn (a0, a1, a2) (b0, b1, b2) with
      | none =>
        rw [e2, non] at ha
        ((refine Go.p ?_; (with_reducible conv => (arg 1; whnf)); refine Go.mk ?_); repeat ((first | refine varK_frz (frz_oD _) ?_ | refine fzK_frz (frz_oD _) ?_ | refine varK_frz (frz_oI _) ?_ | refine fzK_frz (frz_oI _) ?_ | refine br_f rfl ?_ | refine br_t rfl ?_); (refine Go.p ?_; (with_reducible conv => (arg 1; whnf)); refine Go.mk ?_)))
        refine ⟨rfl, ?_⟩
        ((refine Go.p ?_; (with_reducible conv => (arg 1; whnf)); refine Go.mk ?_); repeat ((first | refine varK_frz (frz_oD _) ?_ | refine fzK_frz (frz_oD _) ?_ | refine varK_frz (frz_oI _) ?_ | refine fzK_frz (frz_oI _) ?_ | refine br_f rfl ?_ | refine br_t rfl ?_); (refine Go.p ?_; (with_reducible conv => (arg 1; whnf)); refine Go.mk ?_)))
        subst ha
        exact h
      | some c =>
        rw [e2] at ha
        ((refine Go.p ?_; (with_reducible conv => (arg 1; whnf)); refine Go.mk ?_); repeat ((first | refine varK_frz (frz_oD _) ?_ | refine fzK_frz (frz_oD _) ?_ | refine varK_frz (frz_oI _) ?_ | refine fzK_frz (frz_oI _) ?_ | refine br_f rfl ?_ | refine br_t rfl ?_); (refine Go.p ?_; (with_reducible conv => (arg 1; whnf)); refine Go.mk ?_)))
        refine ⟨rfl, ?_⟩
        ((refine Go.p ?_; (with_reducible conv => (arg 1; whnf)); refine Go.mk ?_); repeat ((first | refine varK_frz (frz_oD _) ?_ | refine fzK_frz (frz_oD _) ?_ | refine varK_frz (frz_oI _) ?_ | refine fzK_frz (frz_oI _) ?_ | refine br_f rfl ?_ | refine br_t rfl ?_); (refine Go.p ?_; (with_reducible conv => (arg 1; whnf)); refine Go.mk ?_)))
        exact hP _ ⟨c, _, _, rfl, ha⟩
  · rintro ρ ⟨a, x, y, rfl, ha⟩
    rw [List.length_map, List.drop_length] at ha
    have ha : some a = W := ha
    subst ha
    ((refine Go.p ?_; (with_reducible conv => (arg 1; whnf)); refine Go.mk ?_); repeat ((first | refine varK_frz (frz_oD _) ?_ | refine fzK_frz (frz_oD _) ?_ | refine varK_frz (frz_oI _) ?_ | refine fzK_frz (frz_oI _) ?_ | refine br_f rfl ?_ | refine br_t rfl ?_); (refine Go.p ?_; (with_reducible conv => (arg 1; whnf)); refine Go.mk ?_)))
    exact h
theorem s_arrival {n : Nat} (hn : 5 ≤ n) (m s : Int) (ws : List Way) (p l : Int) (qs : List Pt) {e : Int} (he : endOf ws p qs = some e) (hq : ∀ q ∈ qs, okPart s ws q) {k : D → List D → Prop} (h : k (oI ((fo s (qs.map (partEff s ws))).bind fun e => ps e l)) []) : semN T n fx_arrival [landD m ws, .int s, .int p, .int l, .lst (qs.map partD)] k := by
  obtain ⟨n, rfl⟩ : ∃ m, n = m + 1 := ⟨n - 1, by omega⟩
  refine sem_succ 1 rfl rfl rfl ?_
  (refine Go.p ?_; (with_reducible conv => (arg 1; whnf)); refine Go.mk ?_)
  refine s_effect_by (by omega) m s ws p qs he hq ?_
  cases e1 : fo s (qs.map (partEff s ws)) with
  | none =>
    rw [e1] at h
    ((refine Go.p ?_; (with_reducible conv => (arg 1; whnf)); refine Go.mk ?_); repeat ((first | refine varK_frz (frz_oD _) ?_ | refine fzK_frz (frz_oD _) ?_ | refine varK_frz (frz_oI _) ?_ | refine fzK_frz (frz_oI _) ?_ | refine br_f rfl ?_ | refine br_t rfl ?_); (refine Go.p ?_; (with_reducible conv => (arg 1; whnf)); refine Go.mk ?_)))
    refine ⟨rfl, ?_⟩
    ((refine Go.p ?_; (with_reducible conv => (arg 1; whnf)); refine Go.mk ?_); repeat ((first | refine varK_frz (frz_oD _) ?_ | refine fzK_frz (frz_oD _) ?_ | refine varK_frz (frz_oI _) ?_ | refine fzK_frz (frz_oI _) ?_ | refine br_f rfl ?_ | refine br_t rfl ?_); (refine Go.p ?_; (with_reducible conv => (arg 1; whnf)); refine Go.mk ?_)))
    exact h
  | some a =>
    rw [e1] at h
    obtain ⟨a0, a1, a2⟩ := a
    ((refine Go.p ?_; (with_reducible conv => (arg 1; whnf)); refine Go.mk ?_); repeat ((first | refine varK_frz (frz_oD _) ?_ | refine fzK_frz (frz_oD _) ?_ | refine varK_frz (frz_oI _) ?_ | refine fzK_frz (frz_oI _) ?_ | refine br_f rfl ?_ | refine br_t rfl ?_); (refine Go.p ?_; (with_reducible conv => (arg 1; whnf)); refine Go.mk ?_)))
    refine ⟨rfl, ?_⟩
    ((refine Go.p ?_; (with_reducible conv => (arg 1; whnf)); refine Go.mk ?_); repeat ((first | refine varK_frz (frz_oD _) ?_ | refine fzK_frz (frz_oD _) ?_ | refine varK_frz (frz_oI _) ?_ | refine fzK_frz (frz_oI _) ?_ | refine br_f rfl ?_ | refine br_t rfl ?_); (refine Go.p ?_; (with_reducible conv => (arg 1; whnf)); refine Go.mk ?_)))
    refine s_passed (by omega) a0 a1 a2 l ?_
    ((refine Go.p ?_; (with_reducible conv => (arg 1; whnf)); refine Go.mk ?_); repeat ((first | refine varK_frz (frz_oD _) ?_ | refine fzK_frz (frz_oD _) ?_ | refine varK_frz (frz_oI _) ?_ | refine fzK_frz (frz_oI _) ?_ | refine br_f rfl ?_ | refine br_t rfl ?_); (refine Go.p ?_; (with_reducible conv => (arg 1; whnf)); refine Go.mk ?_)))
    exact h
def bwd (qs : List Pt) : List Pt := qs.reverse.map fun q => (q.1.reverse, q.2)
theorem fzK_mu {l : List D} {k : D → Prop} (h : k (.lst (freezeL l))) : fzK (.mu l) k := by
  show (match frzL l with | true => k (.lst l) | false => k (.lst (freezeL l)))
  cases e : frzL l with
  | false => exact h
  | true => rw [freezeL_frz l e] at h; exact h
theorem freezeL_map {α : Type} {f g : α → D} (h : ∀ a, freeze (f a) = g a) : ∀ l : List α, freezeL (l.map f) = l.map g
  | [] => rfl
  | a :: l => by show freeze (f a) :: freezeL (l.map f) = g a :: l.map g; rw [h a, freezeL_map h l]
theorem il_rev (l : List Int) : (il l).reverse = il l.reverse := by unfold il; rw [List.map_reverse]
theorem s_backward {n : Nat} (hn : 1 ≤ n) (qs : List Pt) (hl : qs.length ≤ 500) {k : D → List D → Prop} (h : k (.lst ((bwd qs).map partD)) []) : semN T n fx_backward [.lst (qs.map partD)] k := by
  obtain ⟨n, rfl⟩ : ∃ m, n = m + 1 := ⟨n - 1, by omega⟩
  refine sem_succ 2 rfl rfl rfl ?_
  (refine Go.p ?_; (with_reducible conv => (arg 1; whnf)); refine Go.mk ?_)
  rw [← List.map_reverse]
  have fp : ∀ l : List Pt, frzL (l.map partD) = true := fun l => (frzL_all _).mpr fun d hd => by
    obtain ⟨q, _, rfl⟩ := List.mem_map.mp hd
    rfl
  rw [fp]
  (refine Go.p ?_; (with_reducible conv => (arg 1; whnf)); refine Go.mk ?_)
  refine compL_map qs.reverse partD (fun q => .tup [.mu (il q.1.reverse), .int q.2]) _ (by rw [List.length_reverse]; exact hl) ?_ ?_
  · rintro i ⟨ns, t⟩ hi acc P hz hP
    ((refine Go.p ?_; (with_reducible conv => (arg 1; whnf)); refine Go.mk ?_); repeat ((first | refine varK_frz (frz_oD _) ?_ | refine fzK_frz (frz_oD _) ?_ | refine varK_frz (frz_oI _) ?_ | refine fzK_frz (frz_oI _) ?_ | refine br_f rfl ?_ | refine br_t rfl ?_); (refine Go.p ?_; (with_reducible conv => (arg 1; whnf)); refine Go.mk ?_)))
    rw [il_rev]
    refine ⟨hz, ?_⟩
    ((refine Go.p ?_; (with_reducible conv => (arg 1; whnf)); refine Go.mk ?_); repeat ((first | refine varK_frz (frz_oD _) ?_ | refine fzK_frz (frz_oD _) ?_ | refine varK_frz (frz_oI _) ?_ | refine fzK_frz (frz_oI _) ?_ | refine br_f rfl ?_ | refine br_t rfl ?_); (refine Go.p ?_; (with_reducible conv => (arg 1; whnf)); refine Go.mk ?_)))
    exact hP
  · have key : freezeL (List.map (fun q : Pt => D.tup [.mu (il q.1.reverse), .int q.2]) qs.reverse) = (bwd qs).map partD := by
      rw [freezeL_map (g := fun q : Pt => partD (q.1.reverse, q.2)) (fun q => by show D.tup [.lst (freezeL (il q.1.reverse)), .int q.2] = _; rw [freezeL_frz _ (frz_il _)])]
      unfold bwd; rw [List.map_map]; rfl
    generalize List.map (fun q : Pt => D.tup [.mu (il q.1.reverse), .int q.2]) qs.reverse = L at key
    (refine Go.p ?_; (with_reducible conv => (arg 1; whnf)); refine Go.mk ?_)
    cases e : frzL L with
    | true =>
      rw [freezeL_frz L e] at key
      subst key
      exact h
    | false =>
      rw [← key] at h
      exact h
def turnW (w : Way) : Way := (w.2.1, w.1, w.2.2)
theorem s_turned {n : Nat} (hn : 1 ≤ n) (m : Int) (ws : List Way) (hl : ws.length ≤ 500) {k : D → List D → Prop} (h : k (landD m (ws.map turnW)) []) : semN T n fx_turned_land [landD m ws] k := by
  obtain ⟨n, rfl⟩ : ∃ m, n = m + 1 := ⟨n - 1, by omega⟩
  refine sem_succ 3 rfl rfl rfl ?_
  have fw : ∀ l : List Way, frzL (l.map wayD) = true := fun l => (frzL_all _).mpr fun d hd => by
    obtain ⟨q, _, rfl⟩ := List.mem_map.mp hd
    rfl
  (refine Go.p ?_; (with_reducible conv => (arg 1; whnf)); refine Go.mk ?_)
  refine compL_map ws wayD (fun w => wayD (turnW w)) _ hl ?_ ?_
  · rintro i ⟨a, b, c⟩ hi acc P hz hP
    ((refine Go.p ?_; (with_reducible conv => (arg 1; whnf)); refine Go.mk ?_); repeat ((first | refine varK_frz (frz_oD _) ?_ | refine fzK_frz (frz_oD _) ?_ | refine varK_frz (frz_oI _) ?_ | refine fzK_frz (frz_oI _) ?_ | refine br_f rfl ?_ | refine br_t rfl ?_); (refine Go.p ?_; (with_reducible conv => (arg 1; whnf)); refine Go.mk ?_)))
    refine ⟨hz, ?_⟩
    ((refine Go.p ?_; (with_reducible conv => (arg 1; whnf)); refine Go.mk ?_); repeat ((first | refine varK_frz (frz_oD _) ?_ | refine fzK_frz (frz_oD _) ?_ | refine varK_frz (frz_oI _) ?_ | refine fzK_frz (frz_oI _) ?_ | refine br_f rfl ?_ | refine br_t rfl ?_); (refine Go.p ?_; (with_reducible conv => (arg 1; whnf)); refine Go.mk ?_)))
    exact hP
  · rw [show List.map (fun w : Way => wayD (turnW w)) ws = (ws.map turnW).map wayD by rw [List.map_map]; rfl]
    ((refine Go.p ?_; (with_reducible conv => (arg 1; whnf)); refine Go.mk ?_); repeat ((first | refine varK_frz (frz_oD _) ?_ | refine fzK_frz (frz_oD _) ?_ | refine varK_frz (frz_oI _) ?_ | refine fzK_frz (frz_oI _) ?_ | refine br_f rfl ?_ | refine br_t rfl ?_); (refine Go.p ?_; (with_reducible conv => (arg 1; whnf)); refine Go.mk ?_)))
    show k (.tup [.int m, .lst (freezeL (List.map wayD (List.map turnW ws)))]) []
    rw [freezeL_frz _ (fw _)]
    exact h
end Tr

set_option maxRecDepth 100000
set_option maxHeartbeats 8000000
set_option exponentiation.threshold 1000
/-! Trips of rounds: their mathematics. -/
namespace Tr
open PySem
abbrev Comb := Int × Int × Bool
@[reducible] def combD (c : Comb) : D := .tup [.int c.1, .int c.2.1, .bl c.2.2]
def okC (c : Comb) : Prop := (0 ≤ c.1 ∧ c.1 ≤ 10 ^ 18) ∧ (0 ≤ c.2.1 ∧ c.2.1 ≤ 10 ^ 18)
def rowC (c : Comb) : List Int := rowL c.1 c.2.1 c.2.2
def wz (cs : List Comb) : List Way := (cs.flatMap rowC).map fun c => (0, 0, c)
abbrev Pr := Nat × Int
def qOf (p : Pr) : Pt := ([2 * (p.1 : Int), 2 * (p.1 : Int) + 1], p.2)
def cOf (cs : List Comb) (a : Nat) : Comb := cs[a]?.getD (0, 0, true)
def dueOf (s : Int) (cs : List Comb) (p : Pr) : Option Ef := cb s (cOf cs p.1).1 (cOf cs p.1).2.1 (cOf cs p.1).2.2 p.2
theorem rowC_two (c : Comb) : ∃ x y, rowC c = [x, y] := by
  obtain ⟨a, b, f⟩ := c
  cases f <;> exact ⟨_, _, rfl⟩
theorem wz_get (cs : List Comb) : ∀ (a : Nat) (c : Comb) (x y : Int), cs[a]? = some c → rowC c = [x, y] → (wz cs)[2 * a]? = some (0, 0, x) ∧ (wz cs)[2 * a + 1]? = some (0, 0, y) := by
  unfold wz
  induction cs with
  | nil => intro a c x y h; cases h
  | cons c0 cs ih =>
    intro a c x y h e
    obtain ⟨u, v, e0⟩ := rowC_two c0
    rw [List.flatMap_cons, e0]
    cases a with
    | zero => cases h; rw [e0] at e; cases e; exact ⟨rfl, rfl⟩
    | succ a =>
      obtain ⟨h1, h2⟩ := ih a c x y h e
      exact ⟨by rw [show 2 * (a + 1) = 2 * a + 1 + 1 by omega]; exact h1, by rw [show 2 * (a + 1) + 1 = 2 * a + 1 + 1 + 1 by omega]; exact h2⟩
theorem wz_len (cs : List Comb) : (wz cs).length = 2 * cs.length := by
  unfold wz
  rw [List.length_map]
  induction cs with
  | nil => rfl
  | cons c cs ih =>
    obtain ⟨u, v, e0⟩ := rowC_two c
    rw [List.flatMap_cons, e0, List.length_append, ih]
    simp; omega
theorem wz_zero (cs : List Comb) (i : Nat) (w : Way) (h : (wz cs)[i]? = some w) : w.1 = 0 ∧ w.2.1 = 0 := by
  unfold wz at h
  obtain ⟨c, _, rfl⟩ := map_get h
  exact ⟨rfl, rfl⟩
theorem wz_turn (cs : List Comb) : (wz cs).map turnW = wz cs := by
  unfold wz
  rw [List.map_map]
  rfl
theorem walk0 (cs : List Comb) : ∀ ns : List Int, (∀ n ∈ ns, 0 ≤ n ∧ n < (wz cs).length) → walkTo (wz cs) 0 ns = some 0
  | [], _ => rfl
  | n :: ns, h => by
    have hn := h n List.mem_cons_self
    unfold walkTo
    rw [if_pos hn]
    have hj : n.toNat < (wz cs).length := by omega
    have z := wz_zero cs _ _ (List.getElem?_eq_getElem hj)
    rw [List.getElem?_eq_getElem hj]
    simp only
    rw [if_pos z.1, z.2]
    exact walk0 cs ns fun m hm => h m (List.mem_cons_of_mem _ hm)
theorem part0 (cs : List Comb) {ns : List Int} {t : Int} (h0 : ns ≠ []) (h : ∀ n ∈ ns, 0 ≤ n ∧ n < (wz cs).length) (ht : 1 ≤ t ∧ t ≤ 10 ^ 24) : partEnd (wz cs) 0 ns t = some 0 := by
  unfold partEnd
  rw [if_neg (by intro z; rcases z with z | z; exact h0 z; omega), walk0 cs ns h]
  simp only
  rw [if_neg (by omega)]
theorem end0 (cs : List Comb) : ∀ qs : List Pt, (∀ q ∈ qs, q.1 ≠ [] ∧ (∀ n ∈ q.1, 0 ≤ n ∧ n < (wz cs).length) ∧ 1 ≤ q.2 ∧ q.2 ≤ 10 ^ 24) → endOf (wz cs) 0 qs = some 0
  | [], _ => rfl
  | q :: qs, h => by
    obtain ⟨h1, h2, h3⟩ := h q List.mem_cons_self
    unfold endOf
    rw [part0 cs h1 h2 h3]
    exact end0 cs qs fun r hr => h r (List.mem_cons_of_mem _ hr)
section
variable {s : Int} {cs : List Comb} {p : Pr} (hs : 0 ≤ s) (hc : ∀ c ∈ cs, okC c) (hp : p.1 < cs.length) (ht : 1 ≤ p.2 ∧ p.2 ≤ 10 ^ 24)
include hc hp
theorem cOf_ok : okC (cOf cs p.1) := by
  unfold cOf
  rw [List.getElem?_eq_getElem hp]
  exact hc _ (List.getElem_mem hp)
theorem cs_fwd : csOf (wz cs) (qOf p).1 = rowC (cOf cs p.1) := by
  obtain ⟨x, y, e⟩ := rowC_two (cOf cs p.1)
  have h := wz_get cs p.1 (cOf cs p.1) x y (by unfold cOf; rw [List.getElem?_eq_getElem hp]; rfl) e
  rw [e]
  unfold csOf qOf
  simp only [List.map]
  rw [show (2 * (p.1 : Int)).toNat = 2 * p.1 by omega, show (2 * (p.1 : Int) + 1).toNat = 2 * p.1 + 1 by omega, h.1, h.2]
  rfl
theorem cs_bwd : csOf (wz cs) (qOf p).1.reverse = rowL (cOf cs p.1).1 (cOf cs p.1).2.1 (!(cOf cs p.1).2.2) := by
  have e := cs_fwd hc hp
  unfold csOf at *
  rw [List.map_reverse, e]
  unfold rowC
  cases (cOf cs p.1).2.2 <;> rfl
include hs ht
theorem okPart_fwd : okPart s (wz cs) (qOf p) ∧ partEff s (wz cs) (qOf p) = dueOf s cs p := by
  have ok := cOf_ok hc hp
  have e := cs_fwd hc hp
  have e1 := cb_one (s := s) (cOf cs p.1).2.2 hs ok.1.1 ok.2.1
  refine ⟨⟨by show 2 ≤ 500; omega, fun n hn => ?_, ⟨ht.1, by have := ht.2; show p.2 ≤ _; omega⟩, fun z hz => ?_⟩, ?_⟩
  · rw [wz_len]
    unfold qOf at hn
    simp only [List.mem_cons, List.not_mem_nil, or_false] at hn
    omega
  · rw [e] at hz
    unfold rowC at hz
    rw [e1] at hz
    have := cb_gain hz
    unfold okC at ok
    omega
  · unfold partEff
    rw [e]
    unfold rowC
    rw [e1]
    exact rp_cb _ hs ok.1.1 ok.2.1 ht.1
theorem okPart_bwd : okPart s (wz cs) ((qOf p).1.reverse, (qOf p).2) ∧ partEff s (wz cs) ((qOf p).1.reverse, (qOf p).2) = (dueOf s cs p).map (mir s) := by
  have ok := cOf_ok hc hp
  have e := cs_bwd hc hp
  have e1 := cb_one (s := s) (!(cOf cs p.1).2.2) hs ok.1.1 ok.2.1
  refine ⟨⟨by show 2 ≤ 500; omega, fun n hn => ?_, ⟨ht.1, by have := ht.2; show p.2 ≤ _; omega⟩, fun z hz => ?_⟩, ?_⟩
  · rw [wz_len]
    unfold qOf at hn
    simp only [List.reverse_cons, List.reverse_nil, List.nil_append, List.cons_append, List.mem_cons, List.not_mem_nil, or_false] at hn
    omega
  · simp only at hz
    rw [e, e1] at hz
    have := cb_gain hz
    unfold okC at ok
    omega
  · unfold partEff
    simp only
    rw [e, e1]
    unfold dueOf
    rw [mir_cb]
    exact rp_cb _ hs ok.1.1 ok.2.1 ht.1
theorem due_fit : okO s (dueOf s cs p) := by
  have ok := cOf_ok hc hp
  exact fun z hz => fit_cb hs ok.1.1 ok.2.1 ht.1 hz
end
theorem bwd_snoc (qs : List Pt) (q : Pt) : bwd (qs ++ [q]) = (q.1.reverse, q.2) :: bwd qs := by
  unfold bwd
  rw [List.reverse_append]
  rfl
theorem trip_back {s : Int} {cs : List Comb} (hs : 0 ≤ s) (hc : ∀ c ∈ cs, okC c) (ps : List Pr) (hp : ∀ p ∈ ps, p.1 < cs.length ∧ 1 ≤ p.2 ∧ p.2 ≤ 10 ^ 24) :
    fo s ((bwd (ps.map qOf)).map (partEff s (wz cs))) = (fo s (ps.map (dueOf s cs))).map (mir s) := by
  rw [← fo_mir hs _ (fun x hx => by
    obtain ⟨p, hp', rfl⟩ := List.mem_map.mp hx
    exact due_fit hs hc (hp p hp').1 (hp p hp').2)]
  congr 1
  unfold bwd
  rw [List.map_map, ← List.map_reverse, ← List.map_reverse, List.map_map, ← List.map_reverse, List.map_map]
  refine List.map_congr_left fun p hp' => ?_
  have := hp p (List.mem_reverse.mp hp')
  exact (okPart_bwd hs hc this.1 this.2).2
theorem trip_fwd {s : Int} {cs : List Comb} (hs : 0 ≤ s) (hc : ∀ c ∈ cs, okC c) (ps : List Pr) (hp : ∀ p ∈ ps, p.1 < cs.length ∧ 1 ≤ p.2 ∧ p.2 ≤ 10 ^ 24) :
    fo s ((ps.map qOf).map (partEff s (wz cs))) = fo s (ps.map (dueOf s cs)) := by
  congr 1
  rw [List.map_map]
  refine List.map_congr_left fun p hp' => ?_
  have := hp p hp'
  exact (okPart_fwd hs hc this.1 this.2).2
theorem okO_due {s : Int} {cs : List Comb} (hs : 0 ≤ s) (hc : ∀ c ∈ cs, okC c) (ps : List Pr) (hp : ∀ p ∈ ps, p.1 < cs.length ∧ 1 ≤ p.2 ∧ p.2 ≤ 10 ^ 24) : okO s (fo s (ps.map (dueOf s cs))) := by
  refine okO_fo hs _ _ (okO_u hs) fun x hx => ?_
  obtain ⟨p, hp', rfl⟩ := List.mem_map.mp hx
  exact due_fit hs hc (hp p hp').1 (hp p hp').2
end Tr

set_option maxRecDepth 100000
set_option maxHeartbeats 8000000
set_option exponentiation.threshold 1000
/-! Trips of rounds are told rightly. -/
namespace Tr
open PySem
@[reducible] def prD (p : Pr) : D := .tup [.int (p.1 : Int), .int p.2]
@[reducible] def partM (q : Pt) : D := .tup [.mu (il q.1), .int q.2]
theorem okD_part (q : Pt) : okD (partD q) = true := by
  show (okL (il q.1) && (true && true)) = true
  rw [okL_il]; rfl
theorem frz_part : ∀ l : List Pt, frzL (l.map partD) = true := fun l => (frzL_all _).mpr fun d hd => by
  obtain ⟨q, _, rfl⟩ := List.mem_map.mp hd
  rfl
theorem wz_D (cs : List Comb) : (cs.flatMap rowC).map (fun c => D.tup [.int 0, .int 0, .int c]) = (wz cs).map wayD := by
  unfold wz; rw [List.map_map]; rfl
theorem varK_fz {i : Nat} {ρ : Env} {d d' : D} {k : D → Env → Prop} (hg : gE ρ i = some d) (h : freeze d = d') (hn : d ≠ .hole) (hk : setK ρ i (some d') fun ρ' => k d' ρ') : varK i ρ d k := by
  subst h
  have hs : ∀ x, gE ρ i = some x → setK ρ i (some x) (fun ρ' => k x ρ') → k x ρ := fun x hx h => by
    rw [setK_eq, set_same hx] at h
    exact h
  cases d with
  | tup l =>
    show (match frzL l with | true => k (.tup l) ρ | false => setK ρ i (some (.tup (freezeL l))) fun ρ' => k (.tup (freezeL l)) ρ')
    cases e : frzL l with
    | true =>
      have hk : setK ρ i (some (.tup (freezeL l))) fun ρ' => k (.tup (freezeL l)) ρ' := hk
      rw [freezeL_frz l e] at hk
      exact hs _ hg hk
    | false => exact hk
  | hole => exact absurd rfl hn
  | mu l =>
    show (match frzL l with | true => setK ρ i (some (.lst l)) fun ρ' => k (.lst l) ρ' | false => setK ρ i (some (.lst (freezeL l))) fun ρ' => k (.lst (freezeL l)) ρ')
    have hk : setK ρ i (some (.lst (freezeL l))) fun ρ' => k (.lst (freezeL l)) ρ' := hk
    cases e : frzL l with
    | true => rw [freezeL_frz l e] at hk; exact hk
    | false => exact hk
  | _ => exact hs _ hg hk
theorem okL_part : ∀ l : List Pt, okL (l.map partD) = true
  | [] => rfl
  | q :: l => by show (okD (partD q) && okL (l.map partD)) = true; rw [okD_part q, okL_part l]; rfl
theorem szL_part : ∀ l : List Pt, (∀ q ∈ l, q.1.length ≤ 2) → szL (l.map partD) ≤ 5 * l.length
  | [], _ => Nat.le_refl _
  | q :: l, h => by
    have h1 := szL_part l fun r hr => h r (List.mem_cons_of_mem _ hr)
    have h2 := h q List.mem_cons_self
    show (1 + (1 + szL (il q.1) + (1 + 0))) + szL (l.map partD) ≤ 5 * (l.length + 1)
    rw [szL_il]
    omega
theorem okD_oD (o : Option Ef) : okD (oD o) = true := by cases o <;> rfl
theorem szD_oD (o : Option Ef) : szD (oD o) ≤ 4 := by
  cases o with
  | none => show 1 ≤ 4; omega
  | some e => show 1 + (1 + (1 + (1 + 0))) ≤ 4; omega
theorem oD_mir (s : Int) (e : Ef) : D.tup [.int (s - e.2.2), .int e.2.1, .int (s - e.1)] = oD (some (mir s e)) := rfl
theorem trip_tail {n f : Nat} {bag : D} (hn : 6 ≤ n) (hb : Bag (f + 3) bag) {s : Int} (hs : 0 ≤ s) (ws : List Way) (hwl : ws.length ≤ 40) (qs : List Pt) (ld tl : D) (hld : freeze ld = landD 1 ws) (hl0 : ld ≠ .hole) (htl : freeze tl = .lst (qs.map partD)) (ht0 : tl ≠ .hole) (due : Option Ef) (hd : okO s due)
    (h1 : endOf ws 0 qs = some 0) (h2 : ∀ q ∈ qs, okPart s ws q) (h3 : fo s (qs.map (partEff s ws)) = due) (h4 : qs.length ≤ 5) (h4' : ∀ q ∈ qs, q.1.length ≤ 2)
    (h6 : endOf (ws.map turnW) 0 (bwd qs) = some 0) (h7 : ∀ q ∈ bwd qs, okPart s (ws.map turnW) q) (h8 : fo s ((bwd qs).map (partEff s (ws.map turnW))) = due.map (mir s))
    (W : List D) (hW : W = ws.map wayD) (B : List D) (hB : B = (bwd qs).map partD) (Q : List D) (hQ : Q = qs.map partD)
    {b c d e x14 x15 : Option D} {kk : K} (hk : ∀ bag' ρ, Bag f bag' → kk.rt (.bl true) (some bag' :: ρ)) :
    evSs (semN T n) (dropS 5 fn__law_trip_right.body) [some bag, some (.int s), b, c, d, e, some ld, none, none, none, some tl, some (oD due), some (.mu B), some (.int (lenTrip qs)), x14, x15, none, none] kk := by
  have lb : (bwd qs).length = qs.length := by unfold bwd; rw [List.length_map, List.length_reverse]
  have hld : freeze ld = .tup [.int 1, .lst W] := by rw [hW]; exact hld
  have htl : freeze tl = .lst Q := by rw [hQ]; exact htl
  (refine Go.p ?_; (with_reducible conv => (arg 1; whnf)); refine Go.mk ?_)
  refine varK_fz rfl hld hl0 ?_
  (refine Go.p ?_; (with_reducible conv => (arg 1; whnf)); refine Go.mk ?_)
  refine varK_fz rfl htl ht0 ?_
  (refine Go.p ?_; (with_reducible conv => (arg 1; whnf)); refine Go.mk ?_)
  rw [hW, hQ]
  refine s_effect_by (by omega) 1 s ws 0 qs h1 h2 ?_
  rw [h3, ← hW, ← hQ]
  ((refine Go.p ?_; (with_reducible conv => (arg 1; whnf)); refine Go.mk ?_); repeat ((first | refine varK_frz (frz_oD _) ?_ | refine fzK_frz (frz_oD _) ?_ | refine varK_frz (frz_oI _) ?_ | refine fzK_frz (frz_oI _) ?_ | refine br_f rfl ?_ | refine br_t rfl ?_); (refine Go.p ?_; (with_reducible conv => (arg 1; whnf)); refine Go.mk ?_)))
  rw [hW, hQ]
  refine s_length_of (by omega) 1 ws 0 qs h1 (by omega) (fun q hq => ⟨by have := h4' q hq; omega, small_of (by have := (h2 q hq).2.2.1; omega)⟩) ?_
  rw [← hW, ← hQ]
  ((refine Go.p ?_; (with_reducible conv => (arg 1; whnf)); refine Go.mk ?_); repeat ((first | refine varK_frz (frz_oD _) ?_ | refine fzK_frz (frz_oD _) ?_ | refine varK_frz (frz_oI _) ?_ | refine fzK_frz (frz_oI _) ?_ | refine br_f rfl ?_ | refine br_t rfl ?_); (refine Go.p ?_; (with_reducible conv => (arg 1; whnf)); refine Go.mk ?_)))
  rw [hW, hQ]
  refine s_end_of (by omega) 1 ws 0 qs h1 ?_
  rw [← hW, ← hQ]
  ((refine Go.p ?_; (with_reducible conv => (arg 1; whnf)); refine Go.mk ?_); repeat ((first | refine varK_frz (frz_oD _) ?_ | refine fzK_frz (frz_oD _) ?_ | refine varK_frz (frz_oI _) ?_ | refine fzK_frz (frz_oI _) ?_ | refine br_f rfl ?_ | refine br_t rfl ?_); (refine Go.p ?_; (with_reducible conv => (arg 1; whnf)); refine Go.mk ?_)))
  rw [hQ]
  refine s_backward (by omega) qs (by omega) ?_
  rw [← hQ, ← hB]
  have fB : frzL B = true := by rw [hB]; exact frz_part _
  have fzB : freeze (.mu B) = .lst B := by show D.lst (freezeL B) = _; rw [freezeL_frz _ fB]
  have okB : okL B = true := by rw [hB]; exact okL_part _
  have szB : szL B ≤ 25 := by
    rw [hB]
    have := szL_part (bwd qs) (fun q hq => by
      unfold bwd at hq
      obtain ⟨r, hr, rfl⟩ := List.mem_map.mp hq
      rw [List.length_reverse]
      exact h4' r (List.mem_reverse.mp hr))
    omega
  have fT : frzL [oD due, .int (lenTrip qs), .int 0, .lst B] = true := by cases due <;> rfl
  ((refine Go.p ?_; (with_reducible conv => (arg 1; whnf)); refine Go.mk ?_); repeat ((first | refine varK_frz (frz_oD _) ?_ | refine fzK_frz (frz_oD _) ?_ | refine varK_frz (frz_oI _) ?_ | refine fzK_frz (frz_oI _) ?_ | refine br_f rfl ?_ | refine br_t rfl ?_); (refine Go.p ?_; (with_reducible conv => (arg 1; whnf)); refine Go.mk ?_)))
  rw [fT]
  ((refine Go.p ?_; (with_reducible conv => (arg 1; whnf)); refine Go.mk ?_); repeat ((first | refine varK_frz (frz_oD _) ?_ | refine fzK_frz (frz_oD _) ?_ | refine varK_frz (frz_oI _) ?_ | refine fzK_frz (frz_oI _) ?_ | refine br_f rfl ?_ | refine br_t rfl ?_); (refine Go.p ?_; (with_reducible conv => (arg 1; whnf)); refine Go.mk ?_)))
  rw [fB]
  ((refine Go.p ?_; (with_reducible conv => (arg 1; whnf)); refine Go.mk ?_); repeat ((first | refine varK_frz (frz_oD _) ?_ | refine fzK_frz (frz_oD _) ?_ | refine varK_frz (frz_oI _) ?_ | refine fzK_frz (frz_oI _) ?_ | refine br_f rfl ?_ | refine br_t rfl ?_); (refine Go.p ?_; (with_reducible conv => (arg 1; whnf)); refine Go.mk ?_)))
  rw [fT]
  ((refine Go.p ?_; (with_reducible conv => (arg 1; whnf)); refine Go.mk ?_); repeat ((first | refine varK_frz (frz_oD _) ?_ | refine fzK_frz (frz_oD _) ?_ | refine varK_frz (frz_oI _) ?_ | refine fzK_frz (frz_oI _) ?_ | refine br_f rfl ?_ | refine br_t rfl ?_); (refine Go.p ?_; (with_reducible conv => (arg 1; whnf)); refine Go.mk ?_)))
  refine s_alike (by omega) (.lst [oD due, .int (lenTrip qs), .int 0, .lst B]) ?_ ?_ ?_
  · show (okD (oD due) && (true && (true && (okL B && true)))) = true
    rw [okD_oD, okB]; rfl
  · have := szD_oD due
    show 1 + (szD (oD due) + (1 + (1 + ((1 + szL B) + 0)))) ≤ 800
    omega
  have turn : ∀ (due' : Option Ef) (x8 : D) (x7 : Option D) (kk' : K), due' = due → x8 = oD (due.map (mir s)) → (∀ bag' ρ, Bag f bag' → kk'.rt (.bl true) (some bag' :: ρ)) → evSs (semN T n) (dropS 8 fn__law_trip_right.body) [some bag, some (.int s), b, c, d, e, some (.tup [.int 1, .lst W]), x7, some x8, none, some (.lst Q), some (oD due'), some (.lst B), some (.int (lenTrip qs)), x14, x15, none, none] kk' := by
    intro due' x8 x7 kk' hd' hx hk'
    subst hd' hx
    ((refine Go.p ?_; (with_reducible conv => (arg 1; whnf)); refine Go.mk ?_); repeat ((first | refine varK_frz (frz_oD _) ?_ | refine fzK_frz (frz_oD _) ?_ | refine varK_frz (frz_oI _) ?_ | refine fzK_frz (frz_oI _) ?_ | refine br_f rfl ?_ | refine br_t rfl ?_); (refine Go.p ?_; (with_reducible conv => (arg 1; whnf)); refine Go.mk ?_)))
    rw [hW]
    refine s_turned (by omega) 1 ws (by omega) ?_
    rw [← hW]
    have lt : (ws.map turnW).length ≤ 40 := by rw [List.length_map]; exact hwl
    obtain ⟨V2, hV2⟩ : ∃ V2, V2 = (ws.map turnW).map wayD := ⟨_, rfl⟩
    have hV3 : landD 1 (ws.map turnW) = .tup [.int 1, .lst V2] := by rw [hV2]
    rw [hV3]
    ((refine Go.p ?_; (with_reducible conv => (arg 1; whnf)); refine Go.mk ?_); repeat ((first | refine varK_frz (frz_oD _) ?_ | refine fzK_frz (frz_oD _) ?_ | refine varK_frz (frz_oI _) ?_ | refine fzK_frz (frz_oI _) ?_ | refine br_f rfl ?_ | refine br_t rfl ?_); (refine Go.p ?_; (with_reducible conv => (arg 1; whnf)); refine Go.mk ?_)))
    rw [hB, hV2]
    refine s_effect_by (by omega) 1 s (ws.map turnW) 0 (bwd qs) h6 h7 ?_
    rw [h8, ← hB, ← hV2]
    ((refine Go.p ?_; (with_reducible conv => (arg 1; whnf)); refine Go.mk ?_); repeat ((first | refine varK_frz (frz_oD _) ?_ | refine fzK_frz (frz_oD _) ?_ | refine varK_frz (frz_oI _) ?_ | refine fzK_frz (frz_oI _) ?_ | refine br_f rfl ?_ | refine br_t rfl ?_); (refine Go.p ?_; (with_reducible conv => (arg 1; whnf)); refine Go.mk ?_)))
    refine s_alike (by omega) (oD (due'.map (mir s))) (okD_oD _) (by have := szD_oD (due'.map (mir s)); omega) ?_
    ((refine Go.p ?_; (with_reducible conv => (arg 1; whnf)); refine Go.mk ?_); repeat ((first | refine varK_frz (frz_oD _) ?_ | refine fzK_frz (frz_oD _) ?_ | refine varK_frz (frz_oI _) ?_ | refine fzK_frz (frz_oI _) ?_ | refine br_f rfl ?_ | refine br_t rfl ?_); (refine Go.p ?_; (with_reducible conv => (arg 1; whnf)); refine Go.mk ?_)))
    refine s_levels (by omega) hb hs due' fun ls bag' hl hp hb' => ?_
    ((refine Go.p ?_; (with_reducible conv => (arg 1; whnf)); refine Go.mk ?_); repeat ((first | refine varK_frz (frz_oD _) ?_ | refine fzK_frz (frz_oD _) ?_ | refine varK_frz (frz_oI _) ?_ | refine fzK_frz (frz_oI _) ?_ | refine br_f rfl ?_ | refine br_t rfl ?_); (refine Go.p ?_; (with_reducible conv => (arg 1; whnf)); refine Go.mk ?_)))
    refine compL_map ls D.int (fun c => oI (due'.bind fun e => ps e c)) _ (by omega) ?_ ?_
    · intro i c hc acc P hz hP
      ((refine Go.p ?_; (with_reducible conv => (arg 1; whnf)); refine Go.mk ?_); repeat ((first | refine varK_frz (frz_oD _) ?_ | refine fzK_frz (frz_oD _) ?_ | refine varK_frz (frz_oI _) ?_ | refine fzK_frz (frz_oI _) ?_ | refine br_f rfl ?_ | refine br_t rfl ?_); (refine Go.p ?_; (with_reducible conv => (arg 1; whnf)); refine Go.mk ?_)))
      rw [hW, hQ]
      refine s_arrival (by omega) 1 s ws 0 c qs h1 h2 ?_
      rw [h3, ← hW, ← hQ]
      ((refine Go.p ?_; (with_reducible conv => (arg 1; whnf)); refine Go.mk ?_); repeat ((first | refine varK_frz (frz_oD _) ?_ | refine fzK_frz (frz_oD _) ?_ | refine varK_frz (frz_oI _) ?_ | refine fzK_frz (frz_oI _) ?_ | refine br_f rfl ?_ | refine br_t rfl ?_); (refine Go.p ?_; (with_reducible conv => (arg 1; whnf)); refine Go.mk ?_)))
      refine ⟨hz, ?_⟩
      ((refine Go.p ?_; (with_reducible conv => (arg 1; whnf)); refine Go.mk ?_); repeat ((first | refine varK_frz (frz_oD _) ?_ | refine fzK_frz (frz_oD _) ?_ | refine varK_frz (frz_oI _) ?_ | refine fzK_frz (frz_oI _) ?_ | refine br_f rfl ?_ | refine br_t rfl ?_); (refine Go.p ?_; (with_reducible conv => (arg 1; whnf)); refine Go.mk ?_)))
      exact hP
    have fo1 : okL (ls.map fun c => oI (due'.bind fun e => ps e c)) = true := okL_map (fun c => okD_oI _) ls
    have fo2 : szL (ls.map fun c => oI (due'.bind fun e => ps e c)) = ls.length := szL_map (fun c => szD_oI _) ls
    obtain ⟨R, hR⟩ : ∃ R, R = ls.map fun c => oI (due'.bind fun e => ps e c) := ⟨_, rfl⟩
    rw [← hR] at fo1 fo2 ⊢
    have fo3 := okL_frz _ fo1
    ((refine Go.p ?_; (with_reducible conv => (arg 1; whnf)); refine Go.mk ?_); repeat ((first | refine varK_frz (frz_oD _) ?_ | refine fzK_frz (frz_oD _) ?_ | refine varK_frz (frz_oI _) ?_ | refine fzK_frz (frz_oI _) ?_ | refine br_f rfl ?_ | refine br_t rfl ?_); (refine Go.p ?_; (with_reducible conv => (arg 1; whnf)); refine Go.mk ?_)))
    rw [fo3]
    ((refine Go.p ?_; (with_reducible conv => (arg 1; whnf)); refine Go.mk ?_); repeat ((first | refine varK_frz (frz_oD _) ?_ | refine fzK_frz (frz_oD _) ?_ | refine varK_frz (frz_oI _) ?_ | refine fzK_frz (frz_oI _) ?_ | refine br_f rfl ?_ | refine br_t rfl ?_); (refine Go.p ?_; (with_reducible conv => (arg 1; whnf)); refine Go.mk ?_)))
    refine compL_map ls D.int (fun c => oI (due'.bind fun e => ps e c)) _ (by omega) ?_ ?_
    · intro i c hc acc P hz hP
      ((refine Go.p ?_; (with_reducible conv => (arg 1; whnf)); refine Go.mk ?_); repeat ((first | refine varK_frz (frz_oD _) ?_ | refine fzK_frz (frz_oD _) ?_ | refine varK_frz (frz_oI _) ?_ | refine fzK_frz (frz_oI _) ?_ | refine br_f rfl ?_ | refine br_t rfl ?_); (refine Go.p ?_; (with_reducible conv => (arg 1; whnf)); refine Go.mk ?_)))
      refine s_past (by omega) due' c ?_
      ((refine Go.p ?_; (with_reducible conv => (arg 1; whnf)); refine Go.mk ?_); repeat ((first | refine varK_frz (frz_oD _) ?_ | refine fzK_frz (frz_oD _) ?_ | refine varK_frz (frz_oI _) ?_ | refine fzK_frz (frz_oI _) ?_ | refine br_f rfl ?_ | refine br_t rfl ?_); (refine Go.p ?_; (with_reducible conv => (arg 1; whnf)); refine Go.mk ?_)))
      refine ⟨hz, ?_⟩
      ((refine Go.p ?_; (with_reducible conv => (arg 1; whnf)); refine Go.mk ?_); repeat ((first | refine varK_frz (frz_oD _) ?_ | refine fzK_frz (frz_oD _) ?_ | refine varK_frz (frz_oI _) ?_ | refine fzK_frz (frz_oI _) ?_ | refine br_f rfl ?_ | refine br_t rfl ?_); (refine Go.p ?_; (with_reducible conv => (arg 1; whnf)); refine Go.mk ?_)))
      exact hP
    rw [← hR]
    ((refine Go.p ?_; (with_reducible conv => (arg 1; whnf)); refine Go.mk ?_); repeat ((first | refine varK_frz (frz_oD _) ?_ | refine fzK_frz (frz_oD _) ?_ | refine varK_frz (frz_oI _) ?_ | refine fzK_frz (frz_oI _) ?_ | refine br_f rfl ?_ | refine br_t rfl ?_); (refine Go.p ?_; (with_reducible conv => (arg 1; whnf)); refine Go.mk ?_)))
    rw [fo3]
    ((refine Go.p ?_; (with_reducible conv => (arg 1; whnf)); refine Go.mk ?_); repeat ((first | refine varK_frz (frz_oD _) ?_ | refine fzK_frz (frz_oD _) ?_ | refine varK_frz (frz_oI _) ?_ | refine fzK_frz (frz_oI _) ?_ | refine br_f rfl ?_ | refine br_t rfl ?_); (refine Go.p ?_; (with_reducible conv => (arg 1; whnf)); refine Go.mk ?_)))
    refine s_alike (by omega) (.lst R) fo1 (by show 1 + szL R ≤ 800; omega) ?_
    ((refine Go.p ?_; (with_reducible conv => (arg 1; whnf)); refine Go.mk ?_); repeat ((first | refine varK_frz (frz_oD _) ?_ | refine fzK_frz (frz_oD _) ?_ | refine varK_frz (frz_oI _) ?_ | refine fzK_frz (frz_oI _) ?_ | refine br_f rfl ?_ | refine br_t rfl ?_); (refine Go.p ?_; (with_reducible conv => (arg 1; whnf)); refine Go.mk ?_)))
    exact hk' _ _ hb'
  cases due with
  | none =>
    ((refine Go.p ?_; (with_reducible conv => (arg 1; whnf)); refine Go.mk ?_); repeat ((first | refine varK_frz (frz_oD _) ?_ | refine fzK_frz (frz_oD _) ?_ | refine varK_frz (frz_oI _) ?_ | refine fzK_frz (frz_oI _) ?_ | refine br_f rfl ?_ | refine br_t rfl ?_); (refine Go.p ?_; (with_reducible conv => (arg 1; whnf)); refine Go.mk ?_)))
    refine ⟨rfl, ?_⟩
    ((refine Go.p ?_; (with_reducible conv => (arg 1; whnf)); refine Go.mk ?_); repeat ((first | refine varK_frz (frz_oD _) ?_ | refine fzK_frz (frz_oD _) ?_ | refine varK_frz (frz_oI _) ?_ | refine fzK_frz (frz_oI _) ?_ | refine br_f rfl ?_ | refine br_t rfl ?_); (refine Go.p ?_; (with_reducible conv => (arg 1; whnf)); refine Go.mk ?_)))
    exact turn none _ _ kk rfl rfl hk
  | some e =>
    obtain ⟨e0, e1, e2⟩ := e
    ((refine Go.p ?_; (with_reducible conv => (arg 1; whnf)); refine Go.mk ?_); repeat ((first | refine varK_frz (frz_oD _) ?_ | refine fzK_frz (frz_oD _) ?_ | refine varK_frz (frz_oI _) ?_ | refine fzK_frz (frz_oI _) ?_ | refine br_f rfl ?_ | refine br_t rfl ?_); (refine Go.p ?_; (with_reducible conv => (arg 1; whnf)); refine Go.mk ?_)))
    refine ⟨rfl, ?_⟩
    ((refine Go.p ?_; (with_reducible conv => (arg 1; whnf)); refine Go.mk ?_); repeat ((first | refine varK_frz (frz_oD _) ?_ | refine fzK_frz (frz_oD _) ?_ | refine varK_frz (frz_oI _) ?_ | refine fzK_frz (frz_oI _) ?_ | refine br_f rfl ?_ | refine br_t rfl ?_); (refine Go.p ?_; (with_reducible conv => (arg 1; whnf)); refine Go.mk ?_)))
    exact turn (some (e0, e1, e2)) _ _ kk rfl rfl hk
theorem s_trip_right {n f : Nat} {bag : D} (hn : 7 ≤ n) (hb : Bag (f + 3) bag) {s : Int} (hs : 0 ≤ s ∧ s ≤ 10 ^ 20) (cs : List Comb) (hc : ∀ c ∈ cs, okC c) (hl : cs.length ≤ 3) (ps : List Pr) (hp : ∀ p ∈ ps, p.1 < cs.length ∧ 1 ≤ p.2 ∧ p.2 ≤ 10 ^ 24) (hpl : ps.length ≤ 5) {k : D → List D → Prop} (h : ∀ bag', Bag f bag' → k (.bl true) [bag']) :
    semN T n fx__law_trip_right [bag, .int s, .lst (cs.map combD), .lst (ps.map prD)] k := by
  obtain ⟨n, rfl⟩ : ∃ m, n = m + 1 := ⟨n - 1, by omega⟩
  refine sem_succ 14 rfl rfl rfl ?_
  (refine Go.p ?_; (with_reducible conv => (arg 1; whnf)); refine Go.mk ?_)
  refine forL_inv (fun i ρ => ∃ x, ρ = [some bag, some (.int s), some (.lst (cs.map combD)), some (.lst (ps.map prD)), some (.mu (il ((cs.take i).flatMap rowC))), x, none, none, none, none, none, none, none, none, none, none, none, none]) ?_ ?_ ⟨none, rfl⟩
  · rintro i d hd ρ ⟨x, rfl⟩ P hP
    obtain ⟨⟨dn, up, b⟩, hi, rfl⟩ := map_get hd
    have hi' := (List.getElem?_eq_some_iff.mp hi).1
    ((refine Go.p ?_; (with_reducible conv => (arg 1; whnf)); refine Go.mk ?_); repeat ((first | refine varK_frz (frz_oD _) ?_ | refine fzK_frz (frz_oD _) ?_ | refine varK_frz (frz_oI _) ?_ | refine fzK_frz (frz_oI _) ?_ | refine br_f rfl ?_ | refine br_t rfl ?_); (refine Go.p ?_; (with_reducible conv => (arg 1; whnf)); refine Go.mk ?_)))
    rw [frz_il]
    ((refine Go.p ?_; (with_reducible conv => (arg 1; whnf)); refine Go.mk ?_); repeat ((first | refine varK_frz (frz_oD _) ?_ | refine fzK_frz (frz_oD _) ?_ | refine varK_frz (frz_oI _) ?_ | refine fzK_frz (frz_oI _) ?_ | refine br_f rfl ?_ | refine br_t rfl ?_); (refine Go.p ?_; (with_reducible conv => (arg 1; whnf)); refine Go.mk ?_)))
    refine s_row (by omega) dn up b ?_
    rw [row_il]
    ((refine Go.p ?_; (with_reducible conv => (arg 1; whnf)); refine Go.mk ?_); repeat ((first | refine varK_frz (frz_oD _) ?_ | refine fzK_frz (frz_oD _) ?_ | refine varK_frz (frz_oI _) ?_ | refine fzK_frz (frz_oI _) ?_ | refine br_f rfl ?_ | refine br_t rfl ?_); (refine Go.p ?_; (with_reducible conv => (arg 1; whnf)); refine Go.mk ?_)))
    have lr : (rowL dn up b).length = 2 := by cases b <;> rfl
    have lf : ∀ l : List Comb, (l.flatMap rowC).length = 2 * l.length := fun l => by
      have := wz_len l
      unfold wz at this
      rw [List.length_map] at this
      exact this
    refine ⟨Nat.le_of_lt (lt_sz (by rw [il_len, il_len, lf, lr, List.length_take]; omega)), ?_⟩
    ((refine Go.p ?_; (with_reducible conv => (arg 1; whnf)); refine Go.mk ?_); repeat ((first | refine varK_frz (frz_oD _) ?_ | refine fzK_frz (frz_oD _) ?_ | refine varK_frz (frz_oI _) ?_ | refine fzK_frz (frz_oI _) ?_ | refine br_f rfl ?_ | refine br_t rfl ?_); (refine Go.p ?_; (with_reducible conv => (arg 1; whnf)); refine Go.mk ?_)))
    refine hP _ ⟨some (combD (dn, up, b)), ?_⟩
    rw [List.take_succ, hi, List.flatMap_append, show il (List.flatMap rowC (List.take i cs)) ++ il (rowL dn up b) = il (List.flatMap rowC (List.take i cs) ++ rowL dn up b) by unfold il; rw [List.map_append]]
    simp [rowC]
  · rintro ρ ⟨x, rfl⟩
    rw [List.length_map, List.take_length]
    ((refine Go.p ?_; (with_reducible conv => (arg 1; whnf)); refine Go.mk ?_); repeat ((first | refine varK_frz (frz_oD _) ?_ | refine fzK_frz (frz_oD _) ?_ | refine varK_frz (frz_oI _) ?_ | refine fzK_frz (frz_oI _) ?_ | refine br_f rfl ?_ | refine br_t rfl ?_); (refine Go.p ?_; (with_reducible conv => (arg 1; whnf)); refine Go.mk ?_)))
    rw [frz_il]
    ((refine Go.p ?_; (with_reducible conv => (arg 1; whnf)); refine Go.mk ?_); repeat ((first | refine varK_frz (frz_oD _) ?_ | refine fzK_frz (frz_oD _) ?_ | refine varK_frz (frz_oI _) ?_ | refine fzK_frz (frz_oI _) ?_ | refine br_f rfl ?_ | refine br_t rfl ?_); (refine Go.p ?_; (with_reducible conv => (arg 1; whnf)); refine Go.mk ?_)))
    refine compL_map (cs.flatMap rowC) D.int (fun c => .tup [.int 0, .int 0, .int c]) _ ?_ ?_ ?_
    · have := wz_len cs
      unfold wz at this
      rw [List.length_map] at this
      omega
    · rintro i c hi acc P hz hP
      ((refine Go.p ?_; (with_reducible conv => (arg 1; whnf)); refine Go.mk ?_); repeat ((first | refine varK_frz (frz_oD _) ?_ | refine fzK_frz (frz_oD _) ?_ | refine varK_frz (frz_oI _) ?_ | refine fzK_frz (frz_oI _) ?_ | refine br_f rfl ?_ | refine br_t rfl ?_); (refine Go.p ?_; (with_reducible conv => (arg 1; whnf)); refine Go.mk ?_)))
      refine ⟨hz, ?_⟩
      ((refine Go.p ?_; (with_reducible conv => (arg 1; whnf)); refine Go.mk ?_); repeat ((first | refine varK_frz (frz_oD _) ?_ | refine fzK_frz (frz_oD _) ?_ | refine varK_frz (frz_oI _) ?_ | refine fzK_frz (frz_oI _) ?_ | refine br_f rfl ?_ | refine br_t rfl ?_); (refine Go.p ?_; (with_reducible conv => (arg 1; whnf)); refine Go.mk ?_)))
      exact hP
    rw [wz_D]
    ((refine Go.p ?_; (with_reducible conv => (arg 1; whnf)); refine Go.mk ?_); repeat ((first | refine varK_frz (frz_oD _) ?_ | refine fzK_frz (frz_oD _) ?_ | refine varK_frz (frz_oI _) ?_ | refine fzK_frz (frz_oI _) ?_ | refine br_f rfl ?_ | refine br_t rfl ?_); (refine Go.p ?_; (with_reducible conv => (arg 1; whnf)); refine Go.mk ?_)))
    refine forL_inv (fun i ρ => ∃ x14 x15, ρ = [some bag, some (.int s), some (.lst (cs.map combD)), some (.lst (ps.map prD)), some (.lst (il (cs.flatMap rowC))), x, some (.tup [.int 1, .mu ((wz cs).map wayD)]), none, none, none, some (.mu (((ps.take i).map qOf).map partM)), some (oD (fo s ((ps.take i).map (dueOf s cs)))), some (.mu ((bwd ((ps.take i).map qOf)).map partD)), some (.int (lenTrip ((ps.take i).map qOf))), x14, x15, none, none]) ?_ ?_ ⟨none, none, rfl⟩
    · rintro i d hd ρ ⟨x14, x15, rfl⟩ P hP
      obtain ⟨⟨a, m⟩, hi, rfl⟩ := map_get hd
      have hi' := (List.getElem?_eq_some_iff.mp hi).1
      obtain ⟨p1, p2, p3⟩ := hp _ (List.mem_of_getElem? hi)
      simp only at p1 p2 p3
      have sa : Small (a : Int) := small_of (by omega)
      have s2 : Small 2 := small_of (by omega)
      have sm : Small m := small_of (by omega)
      ((refine Go.p ?_; (with_reducible conv => (arg 1; whnf)); refine Go.mk ?_); repeat ((first | refine varK_frz (frz_oD _) ?_ | refine fzK_frz (frz_oD _) ?_ | refine varK_frz (frz_oI _) ?_ | refine fzK_frz (frz_oI _) ?_ | refine br_f rfl ?_ | refine br_t rfl ?_); (refine Go.p ?_; (with_reducible conv => (arg 1; whnf)); refine Go.mk ?_)))
      refine ⟨s2, sa, ?_⟩
      ((refine Go.p ?_; (with_reducible conv => (arg 1; whnf)); refine Go.mk ?_); repeat ((first | refine varK_frz (frz_oD _) ?_ | refine fzK_frz (frz_oD _) ?_ | refine varK_frz (frz_oI _) ?_ | refine fzK_frz (frz_oI _) ?_ | refine br_f rfl ?_ | refine br_t rfl ?_); (refine Go.p ?_; (with_reducible conv => (arg 1; whnf)); refine Go.mk ?_)))
      refine ⟨s2, sa, ?_⟩
      ((refine Go.p ?_; (with_reducible conv => (arg 1; whnf)); refine Go.mk ?_); repeat ((first | refine varK_frz (frz_oD _) ?_ | refine fzK_frz (frz_oD _) ?_ | refine varK_frz (frz_oI _) ?_ | refine fzK_frz (frz_oI _) ?_ | refine br_f rfl ?_ | refine br_t rfl ?_); (refine Go.p ?_; (with_reducible conv => (arg 1; whnf)); refine Go.mk ?_)))
      have lt5 : (ps.take i).length ≤ 5 := by rw [List.length_take]; omega
      refine ⟨lt_sz (by rw [List.length_map, List.length_map]; omega), ?_⟩
      ((refine Go.p ?_; (with_reducible conv => (arg 1; whnf)); refine Go.mk ?_); repeat ((first | refine varK_frz (frz_oD _) ?_ | refine fzK_frz (frz_oD _) ?_ | refine varK_frz (frz_oI _) ?_ | refine fzK_frz (frz_oI _) ?_ | refine br_f rfl ?_ | refine br_t rfl ?_); (refine Go.p ?_; (with_reducible conv => (arg 1; whnf)); refine Go.mk ?_)))
      refine ⟨s2, sa, ?_⟩
      ((refine Go.p ?_; (with_reducible conv => (arg 1; whnf)); refine Go.mk ?_); repeat ((first | refine varK_frz (frz_oD _) ?_ | refine fzK_frz (frz_oD _) ?_ | refine varK_frz (frz_oI _) ?_ | refine fzK_frz (frz_oI _) ?_ | refine br_f rfl ?_ | refine br_t rfl ?_); (refine Go.p ?_; (with_reducible conv => (arg 1; whnf)); refine Go.mk ?_)))
      refine ⟨s2, sa, ?_⟩
      ((refine Go.p ?_; (with_reducible conv => (arg 1; whnf)); refine Go.mk ?_); repeat ((first | refine varK_frz (frz_oD _) ?_ | refine fzK_frz (frz_oD _) ?_ | refine varK_frz (frz_oI _) ?_ | refine fzK_frz (frz_oI _) ?_ | refine br_f rfl ?_ | refine br_t rfl ?_); (refine Go.p ?_; (with_reducible conv => (arg 1; whnf)); refine Go.mk ?_)))
      rw [frz_part]
      ((refine Go.p ?_; (with_reducible conv => (arg 1; whnf)); refine Go.mk ?_); repeat ((first | refine varK_frz (frz_oD _) ?_ | refine fzK_frz (frz_oD _) ?_ | refine varK_frz (frz_oI _) ?_ | refine fzK_frz (frz_oI _) ?_ | refine br_f rfl ?_ | refine br_t rfl ?_); (refine Go.p ?_; (with_reducible conv => (arg 1; whnf)); refine Go.mk ?_)))
      have lb : (bwd ((ps.take i).map qOf)).length ≤ 5 := by unfold bwd; rw [List.length_map, List.length_reverse, List.length_map]; exact lt5
      refine ⟨Nat.le_of_lt (lt_sz (show 1 + (List.map partD (bwd ((ps.take i).map qOf))).length ≤ 1000 by rw [List.length_map]; omega)), ?_⟩
      ((refine Go.p ?_; (with_reducible conv => (arg 1; whnf)); refine Go.mk ?_); repeat ((first | refine varK_frz (frz_oD _) ?_ | refine fzK_frz (frz_oD _) ?_ | refine varK_frz (frz_oI _) ?_ | refine fzK_frz (frz_oI _) ?_ | refine br_f rfl ?_ | refine br_t rfl ?_); (refine Go.p ?_; (with_reducible conv => (arg 1; whnf)); refine Go.mk ?_)))
      have hat : L2.atI (cs.map combD) (a : Int) = some (combD cs[a]) := L2.atI_nat (by rw [List.getElem?_map, List.getElem?_eq_getElem p1]; rfl)
      have hcc := hc _ (List.getElem_mem p1)
      have hca : cOf cs a = cs[a] := by unfold cOf; rw [List.getElem?_eq_getElem p1]; rfl
      rw [hat]
      ((refine Go.p ?_; (with_reducible conv => (arg 1; whnf)); refine Go.mk ?_); repeat ((first | refine varK_frz (frz_oD _) ?_ | refine fzK_frz (frz_oD _) ?_ | refine varK_frz (frz_oI _) ?_ | refine fzK_frz (frz_oI _) ?_ | refine br_f rfl ?_ | refine br_t rfl ?_); (refine Go.p ?_; (with_reducible conv => (arg 1; whnf)); refine Go.mk ?_)))
      unfold okC at hcc
      refine s_comb (by omega) s _ _ _ m (by omega) (by omega) (by omega) ?_
      ((refine Go.p ?_; (with_reducible conv => (arg 1; whnf)); refine Go.mk ?_); repeat ((first | refine varK_frz (frz_oD _) ?_ | refine fzK_frz (frz_oD _) ?_ | refine varK_frz (frz_oI _) ?_ | refine fzK_frz (frz_oI _) ?_ | refine br_f rfl ?_ | refine br_t rfl ?_); (refine Go.p ?_; (with_reducible conv => (arg 1; whnf)); refine Go.mk ?_)))
      refine s_both (by omega) _ _ ?_
      ((refine Go.p ?_; (with_reducible conv => (arg 1; whnf)); refine Go.mk ?_); repeat ((first | refine varK_frz (frz_oD _) ?_ | refine fzK_frz (frz_oD _) ?_ | refine varK_frz (frz_oI _) ?_ | refine fzK_frz (frz_oI _) ?_ | refine br_f rfl ?_ | refine br_t rfl ?_); (refine Go.p ?_; (with_reducible conv => (arg 1; whnf)); refine Go.mk ?_)))
      refine ⟨s2, sm, ?_⟩
      ((refine Go.p ?_; (with_reducible conv => (arg 1; whnf)); refine Go.mk ?_); repeat ((first | refine varK_frz (frz_oD _) ?_ | refine fzK_frz (frz_oD _) ?_ | refine varK_frz (frz_oI _) ?_ | refine fzK_frz (frz_oI _) ?_ | refine br_f rfl ?_ | refine br_t rfl ?_); (refine Go.p ?_; (with_reducible conv => (arg 1; whnf)); refine Go.mk ?_)))
      refine hP _ ⟨some (.int a), some (.int m), ?_⟩
      have tk : ps.take (i + 1) = ps.take i ++ [(a, m)] := by rw [List.take_succ, hi]; rfl
      have e1 : fo s ((ps.take i ++ [(a, m)]).map (dueOf s cs)) = bo (fo s ((ps.take i).map (dueOf s cs))) (cb s cs[a].1 cs[a].2.1 cs[a].2.2 m) := by
        rw [List.map_append]
        show fo s (_ ++ [dueOf s cs (a, m)]) = _
        rw [fo_snoc]
        unfold dueOf
        rw [hca]
      have e2 : (bwd ((ps.take i ++ [(a, m)]).map qOf)).map partD = partD ([2 * (a : Int) + 1, 2 * (a : Int)], m) :: (bwd ((ps.take i).map qOf)).map partD := by
        rw [List.map_append]
        show (bwd (_ ++ [qOf (a, m)])).map partD = _
        rw [bwd_snoc]
        rfl
      have e3 : lenTrip ((ps.take i ++ [(a, m)]).map qOf) = lenTrip ((ps.take i).map qOf) + 2 * m := by
        unfold lenTrip
        rw [List.map_append, List.map_append, List.sum_append]
        have : ([qOf (a, m)].map fun q : Pt => (q.1.length : Int) * q.2).sum = 2 * m := by
          unfold qOf
          simp
        exact congrArg _ this
      have e4 : ((ps.take i ++ [(a, m)]).map qOf).map partM = ((ps.take i).map qOf).map partM ++ [partM (qOf (a, m))] := by
        rw [List.map_append, List.map_append]
        rfl
      rw [tk, e1, e2, e3, e4]
      rfl
    · rintro ρ ⟨x14, x15, rfl⟩
      rw [List.length_map, List.take_length]
      have frM : freeze (.mu ((ps.map qOf).map partM)) = .lst ((ps.map qOf).map partD) := by
        show D.lst (freezeL _) = _
        rw [freezeL_map (f := partM) (g := partD) (fun q => by show D.tup [.lst (freezeL (il q.1)), .int q.2] = _; rw [freezeL_frz _ (frz_il _)])]
      have fw : ∀ l : List Way, frzL (l.map wayD) = true := fun l => (frzL_all _).mpr fun d hd => by
        obtain ⟨q, _, rfl⟩ := List.mem_map.mp hd
        rfl
      have frW : freeze (.tup [.int 1, .mu ((wz cs).map wayD)]) = landD 1 (wz cs) := by
        show D.tup [.int 1, .lst (freezeL ((wz cs).map wayD))] = _
        rw [freezeL_frz _ (fw _)]
      have hmem : ∀ q ∈ ps.map qOf, ∃ p, p.1 < cs.length ∧ 1 ≤ p.2 ∧ p.2 ≤ 10 ^ 24 ∧ q = qOf p := fun q hq => by
        obtain ⟨p, hp', rfl⟩ := List.mem_map.mp hq
        have := hp p hp'
        exact ⟨p, this.1, this.2.1, this.2.2, rfl⟩
      have hmemB : ∀ q ∈ bwd (ps.map qOf), ∃ p, p.1 < cs.length ∧ 1 ≤ p.2 ∧ p.2 ≤ 10 ^ 24 ∧ q = ((qOf p).1.reverse, (qOf p).2) := fun q hq => by
        unfold bwd at hq
        obtain ⟨r, hr, rfl⟩ := List.mem_map.mp hq
        obtain ⟨p, h1, h2, h3, rfl⟩ := hmem r (List.mem_reverse.mp hr)
        exact ⟨p, h1, h2, h3, rfl⟩
      refine trip_tail (f := f) (by omega) hb hs.1 (wz cs) (by rw [wz_len]; omega) (ps.map qOf) (.tup [.int 1, .mu ((wz cs).map wayD)]) (.mu ((ps.map qOf).map partM)) frW (fun z => by cases z) frM (fun z => by cases z) (fo s (ps.map (dueOf s cs))) (okO_due hs.1 hc ps hp)
        ?_ ?_ (trip_fwd hs.1 hc ps hp) (by rw [List.length_map]; exact hpl) ?_ ?_ ?_ ?_ _ rfl _ rfl _ rfl ?_
      · refine end0 cs _ fun q hq => ?_
        obtain ⟨p, h1, h2, h3, rfl⟩ := hmem q hq
        exact ⟨(by intro z; cases z), (okPart_fwd hs.1 hc h1 ⟨h2, h3⟩).1.2.1, h2, h3⟩
      · intro q hq
        obtain ⟨p, h1, h2, h3, rfl⟩ := hmem q hq
        exact (okPart_fwd hs.1 hc h1 ⟨h2, h3⟩).1
      · intro q hq
        obtain ⟨p, h1, h2, h3, rfl⟩ := hmem q hq
        exact Nat.le_refl 2
      · rw [wz_turn]
        refine end0 cs _ fun q hq => ?_
        obtain ⟨p, h1, h2, h3, rfl⟩ := hmemB q hq
        exact ⟨(by intro z; cases z), (okPart_bwd hs.1 hc h1 ⟨h2, h3⟩).1.2.1, h2, h3⟩
      · rw [wz_turn]
        intro q hq
        obtain ⟨p, h1, h2, h3, rfl⟩ := hmemB q hq
        exact (okPart_bwd hs.1 hc h1 ⟨h2, h3⟩).1
      · rw [wz_turn]
        exact trip_back hs.1 hc ps hp
      · intro bag' ρ hb'
        exact h bag' hb'
end Tr

set_option maxRecDepth 100000
set_option maxHeartbeats 8000000
set_option exponentiation.threshold 1000
/-! The law's own run, part by part. -/
namespace Tr
open PySem
theorem map_snoc {α : Type} (f : α → D) (l : List α) (x : α) : l.map f ++ [f x] = (l ++ [x]).map f := by rw [List.map_append]; rfl
/-- the combs -/
theorem law_combs {n f : Nat} {bag : D} (hn : 4 ≤ n) (hb : Bag (f + 27) bag) {sc st : Int} (hsc : 0 ≤ sc ∧ sc ≤ 10 ^ 18) (hst : 0 ≤ st) {x0 x2 x6 x7 x8 x9 x10 x11 x12 x13 : Option D} {kk : K}
    (hk : ∀ bag' x6 x10 x11 (cs : List Comb), cs.length = 3 → (∀ c ∈ cs, okC c) → Bag f bag' → kk.nx [x0, some bag', x2, some (.int sc), some (.int st), some (.mu (cs.map combD)), x6, x7, x8, x9, x10, x11, x12, x13]) :
    evS (semN T n) (match (match fn_law.body with | .cons _ (.cons (.for_ _ _ b) _) => dropS 3 b | _ => .nil) with | .cons s _ => s | _ => .pass) [x0, some bag, x2, some (.int sc), some (.int st), some (.mu []), x6, x7, x8, x9, x10, x11, x12, x13] kk := by
  (refine Go.p ?_; (with_reducible conv => (arg 1; whnf)); refine Go.mk ?_)
  refine ⟨by decide, ?_⟩
  (refine Go.p ?_; (with_reducible conv => (arg 1; whnf)); refine Go.mk ?_)
  refine forL_inv (fun i ρ => ∃ bag' x6 x10 x11, ∃ cs : List Comb, ρ = [x0, some bag', x2, some (.int sc), some (.int st), some (.mu (cs.map combD)), x6, x7, x8, x9, x10, x11, x12, x13] ∧ cs.length = i ∧ (∀ c ∈ cs, okC c) ∧ Bag (f + 9 * (3 - i)) bag') ?_ ?_ ⟨bag, _, _, _, [], rfl, rfl, fun _ z => (nomatch z), hb⟩
  · rintro i d hd ρ ⟨bag1, x6, x10, x11, cs, rfl, hl, hc, hb1⟩ P hP
    have hi : i < 3 := by
      have := (List.getElem?_eq_some_iff.mp hd).1
      rw [rangeL_len] at this
      exact this
    (refine Go.p ?_; (with_reducible conv => (arg 1; whnf)); refine Go.mk ?_)
    rw [minP]
    refine s_number (f := f + 9 * (3 - (i + 1)) + 6) (by omega) (hb1.weak (by omega)) (by omega) fun dn bag2 h0 h1 hb2 => ?_
    (refine Go.p ?_; (with_reducible conv => (arg 1; whnf)); refine Go.mk ?_)
    refine s_take (f := f + 9 * (3 - (i + 1)) + 5) (by omega) hb2 (by decide) (small_of (by decide)) fun r bag3 h2 h3 hb3 => ?_
    (refine Go.p ?_; (with_reducible conv => (arg 1; whnf)); refine Go.mk ?_)
    rw [minP, maxP]
    refine s_number (f := f + 9 * (3 - (i + 1)) + 2) (by omega) hb3 hsc.1 fun u bag4 h4 h5 hb4 => ?_
    (refine Go.p ?_; (with_reducible conv => (arg 1; whnf)); refine Go.mk ?_)
    refine s_some (f := f + 9 * (3 - (i + 1)) + 1) (by omega) hb4 (l := [.int (max 0 (min sc (dn + r - 2))), .int u]) (Nat.le_of_ble_eq_true rfl) (Nat.le_of_ble_eq_true rfl) rfl fun x bag5 hx hb5 => ?_
    obtain ⟨up, rfl, hu⟩ : ∃ up, x = .int up ∧ 0 ≤ up ∧ up ≤ 10 ^ 18 := by
      simp only [List.mem_cons, List.not_mem_nil, or_false] at hx
      rcases hx with rfl | rfl
      · exact ⟨_, rfl, by omega⟩
      · exact ⟨_, rfl, by omega⟩
    (refine Go.p ?_; (with_reducible conv => (arg 1; whnf)); refine Go.mk ?_)
    refine s_take (f := f + 9 * (3 - (i + 1))) (by omega) hb5 (by decide) (small_of (by decide)) fun b bag6 h6 h7 hb6 => ?_
    (refine Go.p ?_; (with_reducible conv => (arg 1; whnf)); refine Go.mk ?_)
    refine ⟨lt_sz (by rw [List.length_map]; omega), ?_⟩
    (refine Go.p ?_; (with_reducible conv => (arg 1; whnf)); refine Go.mk ?_)
    have e : cs.map combD ++ [D.tup [.int dn, .int up, .bl (decide (b = 0))]] = (cs ++ [(dn, up, decide (b = 0))]).map combD := map_snoc combD cs (dn, up, decide (b = 0))
    rw [e]
    refine hP _ ⟨bag6, _, _, _, cs ++ [(dn, up, decide (b = 0))], rfl, by simp; omega, fun c hc' => ?_, hb6⟩
    · rcases List.mem_append.mp hc' with hc' | hc'
      · exact hc c hc'
      · rw [List.mem_singleton.mp hc']
        exact ⟨⟨h0, by show dn ≤ _; omega⟩, hu⟩
  · rintro ρ ⟨bag1, x6, x10, x11, cs, rfl, hl, hc, hb1⟩
    rw [rangeL_len] at hl hb1
    exact hk bag1 x6 x10 x11 cs hl hc hb1
theorem cnts_k {ls : List Int} (h : ∀ x ∈ ls, 1 ≤ x ∧ x ≤ 10 ^ 24) {x : D} (hx : x ∈ il ls) : ∃ m, x = .int m ∧ 1 ≤ m ∧ m ≤ 10 ^ 24 := by
  unfold il at hx
  obtain ⟨m, hm, rfl⟩ := List.mem_map.mp hx
  exact ⟨m, rfl, h m hm⟩
@[reducible] def lawB : Ss := match fn_law.body with | .cons _ (.cons (.for_ _ _ b) _) => b | _ => .nil
@[reducible] def sAt : Nat → Ss → S
  | 0, .cons s _ => s
  | n + 1, .cons _ r => sAt n r
  | _, .nil => .pass
/-- frozen, or to be frozen -/
def Fz (d : D) (l : List D) : Prop := freeze d = .lst l ∧ d ≠ .hole
theorem Fz.lst {l : List D} : Fz (.lst l) l := ⟨rfl, fun z => by cases z⟩
theorem Fz.mu {l : List D} (h : frzL l = true) : Fz (.mu l) l := ⟨by show D.lst (freezeL l) = _; rw [freezeL_frz l h], fun z => by cases z⟩
theorem frzC (cs : List Comb) : frzL (cs.map combD) = true := (frzL_all _).mpr fun d hd => by
  obtain ⟨q, _, rfl⟩ := List.mem_map.mp hd
  rfl
/-- each comb is right -/
theorem law_each {n f : Nat} {bag : D} (hn : 8 ≤ n) (hb : Bag (f + 60) bag) {st : Int} (hst : 0 ≤ st ∧ st ≤ 10 ^ 20) {x0 x2 x3 x6 x8 x9 x10 x11 x12 x13 : Option D} (cs : List Comb) (hl : cs.length = 3) (hc : ∀ c ∈ cs, okC c) (C : List D) (hC : C = cs.map combD) (ls : List Int) (hls : 0 < ls.length ∧ ls.length < 100 ∧ ∀ x ∈ ls, 1 ≤ x ∧ x ≤ 10 ^ 24) (N : List D) (hN : N = il ls) (y7 : D) (h7 : Fz y7 N) {kk : K}
    (hk : ∀ bag' x8 y7, Fz y7 N → Bag f bag' → kk.nx [x0, some bag', x2, x3, some (.int st), some (.lst C), x6, some y7, x8, x9, x10, x11, x12, x13]) :
    evS (semN T n) (sAt 5 lawB) [x0, some bag, x2, x3, some (.int st), some (.mu C), x6, some y7, x8, x9, x10, x11, x12, x13] kk := by
  have fC : frzL C = true := by rw [hC]; exact frzC cs
  have fN : frzL N = true := by rw [hN]; exact frz_il _
  have lN : N.length = ls.length := by rw [hN, il_len]
  have lC : C.length = 3 := by rw [hC, List.length_map, hl]
  (refine Go.p ?_; (with_reducible conv => (arg 1; whnf)); refine Go.mk ?_)
  rw [fC]
  (refine Go.p ?_; (with_reducible conv => (arg 1; whnf)); refine Go.mk ?_)
  refine forL_inv (fun i ρ => ∃ bag' x8 y7, ρ = [x0, some bag', x2, x3, some (.int st), some (.lst C), x6, some y7, x8, x9, x10, x11, x12, x13] ∧ Fz y7 N ∧ Bag (f + 20 * (3 - i)) bag') ?_ ?_ ⟨bag, x8, y7, rfl, h7, hb⟩
  · rintro i d hd ρ ⟨bag1, x8, y7, rfl, h7, hb1⟩ P hP
    have hi : i < 3 := by
      have := (List.getElem?_eq_some_iff.mp hd).1
      omega
    rw [hC] at hd
    obtain ⟨⟨dn, up, b⟩, hi2, rfl⟩ := map_get hd
    have hcc := hc _ (List.mem_of_getElem? hi2)
    (refine Go.p ?_; (with_reducible conv => (arg 1; whnf)); refine Go.mk ?_)
    refine varK_fz rfl h7.1 h7.2 ?_
    (refine Go.p ?_; (with_reducible conv => (arg 1; whnf)); refine Go.mk ?_)
    refine s_some (f := f + 20 * (3 - (i + 1)) + 19) (by omega) (hb1.weak (by omega)) (l := N) (by omega) (by omega) fN fun x bag2 hx hb2 => ?_
    rw [hN] at hx
    obtain ⟨m, rfl, hm⟩ := cnts_k hls.2.2 hx
    (refine Go.p ?_; (with_reducible conv => (arg 1; whnf)); refine Go.mk ?_)
    refine s_comb_right (f := f + 20 * (3 - (i + 1))) (by omega) hb2 hst hcc.1 hcc.2 hm fun bag3 hb3 => ?_
    ((refine Go.p ?_; (with_reducible conv => (arg 1; whnf)); refine Go.mk ?_); repeat ((first | refine varK_frz (frz_oD _) ?_ | refine fzK_frz (frz_oD _) ?_ | refine varK_frz (frz_oI _) ?_ | refine fzK_frz (frz_oI _) ?_ | refine br_f rfl ?_ | refine br_t rfl ?_); (refine Go.p ?_; (with_reducible conv => (arg 1; whnf)); refine Go.mk ?_)))
    exact hP _ ⟨bag3, _, _, rfl, Fz.lst, hb3⟩
  · rintro ρ ⟨bag1, x8, y7, rfl, h7, hb1⟩
    rw [lC] at hb1
    exact hk _ _ _ h7 hb1
/-- two combs joined -/
theorem law_two {n f : Nat} {bag : D} (hn : 8 ≤ n) (hb : Bag (f + 7) bag) {st : Int} (hst : 0 ≤ st ∧ st ≤ 10 ^ 20) {x0 x2 x3 x6 x8 x9 x10 x11 x12 x13 : Option D} (cs : List Comb) (hl : cs.length = 3) (hc : ∀ c ∈ cs, okC c) (C : List D) (hC : C = cs.map combD) (ls : List Int) (hls : 0 < ls.length ∧ ls.length < 100 ∧ ∀ x ∈ ls, 1 ≤ x ∧ x ≤ 10 ^ 24) (N : List D) (hN : N = il ls) (y7 : D) (h7 : Fz y7 N) {kk : K}
    (hk : ∀ bag' y7 o0 o1, Fz y7 N → okO st o0 → okO st o1 → Bag (f + 5) bag' → kk.nx [x0, some bag', x2, x3, some (.int st), some (.lst C), some (oD o0), some y7, x8, x9, x10, x11, some (oD o1), x13]) :
    evS (semN T n) (sAt 6 lawB) [x0, some bag, x2, x3, some (.int st), some (.lst C), x6, some y7, x8, x9, x10, x11, x12, x13] kk := by
  have fC : frzL C = true := by rw [hC]; exact frzC cs
  have fN : frzL N = true := by rw [hN]; exact frz_il _
  have lN : N.length = ls.length := by rw [hN, il_len]
  obtain ⟨C2, hC2⟩ : ∃ C2, C2 = List.take (HT.sIx C.length C.length (some 2) - HT.sIx C.length 0 none) (List.drop (HT.sIx C.length 0 none) C) := ⟨_, rfl⟩
  have lC2 : C2.length = 2 ∧ ∀ d ∈ C2, d ∈ C := by
    have lC : C.length = 3 := by rw [hC, List.length_map, hl]
    refine ⟨?_, fun d hd => ?_⟩
    · rw [hC2, lC, List.length_take, List.length_drop, lC]; rfl
    · rw [hC2] at hd
      exact List.mem_of_mem_drop (List.mem_of_mem_take hd)
  have fC2 : frzL C2 = true := (frzL_all _).mpr fun d hd => (frzL_all _).mp fC d (lC2.2 d hd)
  (refine Go.p ?_; (with_reducible conv => (arg 1; whnf)); refine Go.mk ?_)
  rw [← hC2, fC2]
  (refine Go.p ?_; (with_reducible conv => (arg 1; whnf)); refine Go.mk ?_)
  refine compL_inv (fun i ρ acc => ∃ bag' y7, ∃ os : List (Option Ef), ρ = [x0, some bag', x2, x3, some (.int st), some (.lst C), x6, some y7, none, x9, x10, x11, x12, x13] ∧ acc = os.map oD ∧ os.length = i ∧ (∀ o ∈ os, okO st o) ∧ Fz y7 N ∧ Bag (f + 5 + (2 - i)) bag') (by omega) ?_ ?_ ?_ ⟨bag, y7, [], rfl, rfl, rfl, fun _ z => (nomatch z), h7, hb⟩
  · rintro i d hd ρ acc ⟨bag1, y7, os, rfl, rfl, ho, hok, h7, hb1⟩ hz P hP
    have hi : i < 2 := by
      have := (List.getElem?_eq_some_iff.mp hd).1
      omega
    have hdm := lC2.2 d (List.mem_of_getElem? hd)
    rw [hC] at hdm
    obtain ⟨⟨dn, up, b⟩, hi2, rfl⟩ := List.mem_map.mp hdm
    have hcc := hc _ hi2
    unfold okC at hcc
    simp only at hcc
    ((refine Go.p ?_; (with_reducible conv => (arg 1; whnf)); refine Go.mk ?_); repeat ((first | refine varK_frz (frz_oD _) ?_ | refine fzK_frz (frz_oD _) ?_ | refine varK_frz (frz_oI _) ?_ | refine fzK_frz (frz_oI _) ?_ | refine br_f rfl ?_ | refine br_t rfl ?_); (refine Go.p ?_; (with_reducible conv => (arg 1; whnf)); refine Go.mk ?_)))
    refine varK_fz rfl h7.1 h7.2 ?_
    (refine Go.p ?_; (with_reducible conv => (arg 1; whnf)); refine Go.mk ?_)
    refine s_some (f := f + 5 + (2 - (i + 1))) (by omega) (hb1.weak (by omega)) (l := N) (by omega) (by omega) fN fun x bag2 hx hb2 => ?_
    rw [hN] at hx
    obtain ⟨m, rfl, hm⟩ := cnts_k hls.2.2 hx
    (refine Go.p ?_; (with_reducible conv => (arg 1; whnf)); refine Go.mk ?_)
    refine s_comb (by omega) st dn up b m (by omega) (by omega) (by omega) ?_
    (refine Go.p ?_; (with_reducible conv => (arg 1; whnf)); refine Go.mk ?_)
    refine ⟨hz, ?_⟩
    (refine Go.p ?_; (with_reducible conv => (arg 1; whnf)); refine Go.mk ?_)
    have e : os.map oD ++ [oD (cb st dn up b m)] = (os ++ [cb st dn up b m]).map oD := by rw [List.map_append]; rfl
    rw [e]
    refine hP _ _ ⟨bag2, _, os ++ [cb st dn up b m], rfl, rfl, by simp; omega, fun o hoo => ?_, Fz.lst, hb2⟩
    rcases List.mem_append.mp hoo with hoo | hoo
    · exact hok o hoo
    · rw [List.mem_singleton.mp hoo]
      exact fun e he => fit_cb hst.1 hcc.1.1 hcc.2.1 hm.1 he
  · rintro i ρ acc ⟨bag1, y7, os, rfl, rfl, ho, _⟩
    rw [List.length_map]; omega
  · rintro ρ acc ⟨bag1, y7, os, rfl, rfl, ho, hok, h7, hb1⟩
    rw [lC2.1] at ho hb1
    match os, ho with
    | [o0, o1], _ =>
      have q := hk bag1 y7 o0 o1 h7 (hok o0 (by simp)) (hok o1 (by simp)) hb1
      simp only [List.map]
      ((refine Go.p ?_; (with_reducible conv => (arg 1; whnf)); refine Go.mk ?_); repeat ((first | refine varK_frz (frz_oD _) ?_ | refine fzK_frz (frz_oD _) ?_ | refine varK_frz (frz_oI _) ?_ | refine fzK_frz (frz_oI _) ?_ | refine br_f rfl ?_ | refine br_t rfl ?_); (refine Go.p ?_; (with_reducible conv => (arg 1; whnf)); refine Go.mk ?_)))
      exact q
/-- .. if both are there -/
theorem law_join {n f : Nat} {bag : D} (hn : 8 ≤ n) (hb : Bag (f + 5) bag) {st : Int} (hst : 0 ≤ st) (o0 o1 : Option Ef) (h0 : okO st o0) (h1 : okO st o1) {x0 x2 x3 x5 x7 x8 x9 x10 x11 x13 : Option D} {kk : K}
    (hk : ∀ bag', Bag f bag' → kk.nx [x0, some bag', x2, x3, some (.int st), x5, some (oD o0), x7, x8, x9, x10, x11, some (oD o1), x13]) :
    evS (semN T n) (sAt 7 lawB) [x0, some bag, x2, x3, some (.int st), x5, some (oD o0), x7, x8, x9, x10, x11, some (oD o1), x13] kk := by
  cases o0 with
  | none =>
    ((refine Go.p ?_; (with_reducible conv => (arg 1; whnf)); refine Go.mk ?_); repeat ((first | refine varK_frz (frz_oD _) ?_ | refine fzK_frz (frz_oD _) ?_ | refine varK_frz (frz_oI _) ?_ | refine fzK_frz (frz_oI _) ?_ | refine br_f rfl ?_ | refine br_t rfl ?_); (refine Go.p ?_; (with_reducible conv => (arg 1; whnf)); refine Go.mk ?_)))
    refine ⟨rfl, ?_⟩
    ((refine Go.p ?_; (with_reducible conv => (arg 1; whnf)); refine Go.mk ?_); repeat ((first | refine varK_frz (frz_oD _) ?_ | refine fzK_frz (frz_oD _) ?_ | refine varK_frz (frz_oI _) ?_ | refine fzK_frz (frz_oI _) ?_ | refine br_f rfl ?_ | refine br_t rfl ?_); (refine Go.p ?_; (with_reducible conv => (arg 1; whnf)); refine Go.mk ?_)))
    exact hk _ (hb.weak (by omega))
  | some a => cases o1 with
    | none =>
      ((refine Go.p ?_; (with_reducible conv => (arg 1; whnf)); refine Go.mk ?_); repeat ((first | refine varK_frz (frz_oD _) ?_ | refine fzK_frz (frz_oD _) ?_ | refine varK_frz (frz_oI _) ?_ | refine fzK_frz (frz_oI _) ?_ | refine br_f rfl ?_ | refine br_t rfl ?_); (refine Go.p ?_; (with_reducible conv => (arg 1; whnf)); refine Go.mk ?_)))
      refine ⟨rfl, ?_⟩
      ((refine Go.p ?_; (with_reducible conv => (arg 1; whnf)); refine Go.mk ?_); repeat ((first | refine varK_frz (frz_oD _) ?_ | refine fzK_frz (frz_oD _) ?_ | refine varK_frz (frz_oI _) ?_ | refine fzK_frz (frz_oI _) ?_ | refine br_f rfl ?_ | refine br_t rfl ?_); (refine Go.p ?_; (with_reducible conv => (arg 1; whnf)); refine Go.mk ?_)))
      refine ⟨rfl, ?_⟩
      ((refine Go.p ?_; (with_reducible conv => (arg 1; whnf)); refine Go.mk ?_); repeat ((first | refine varK_frz (frz_oD _) ?_ | refine fzK_frz (frz_oD _) ?_ | refine varK_frz (frz_oI _) ?_ | refine fzK_frz (frz_oI _) ?_ | refine br_f rfl ?_ | refine br_t rfl ?_); (refine Go.p ?_; (with_reducible conv => (arg 1; whnf)); refine Go.mk ?_)))
      exact hk _ (hb.weak (by omega))
    | some b =>
      ((refine Go.p ?_; (with_reducible conv => (arg 1; whnf)); refine Go.mk ?_); repeat ((first | refine varK_frz (frz_oD _) ?_ | refine fzK_frz (frz_oD _) ?_ | refine varK_frz (frz_oI _) ?_ | refine fzK_frz (frz_oI _) ?_ | refine br_f rfl ?_ | refine br_t rfl ?_); (refine Go.p ?_; (with_reducible conv => (arg 1; whnf)); refine Go.mk ?_)))
      refine ⟨rfl, ?_⟩
      ((refine Go.p ?_; (with_reducible conv => (arg 1; whnf)); refine Go.mk ?_); repeat ((first | refine varK_frz (frz_oD _) ?_ | refine fzK_frz (frz_oD _) ?_ | refine varK_frz (frz_oI _) ?_ | refine fzK_frz (frz_oI _) ?_ | refine br_f rfl ?_ | refine br_t rfl ?_); (refine Go.p ?_; (with_reducible conv => (arg 1; whnf)); refine Go.mk ?_)))
      refine ⟨rfl, ?_⟩
      ((refine Go.p ?_; (with_reducible conv => (arg 1; whnf)); refine Go.mk ?_); repeat ((first | refine varK_frz (frz_oD _) ?_ | refine fzK_frz (frz_oD _) ?_ | refine varK_frz (frz_oI _) ?_ | refine fzK_frz (frz_oI _) ?_ | refine br_f rfl ?_ | refine br_t rfl ?_); (refine Go.p ?_; (with_reducible conv => (arg 1; whnf)); refine Go.mk ?_)))
      refine s_both (by omega) (some a) (some b) ?_
      ((refine Go.p ?_; (with_reducible conv => (arg 1; whnf)); refine Go.mk ?_); repeat ((first | refine varK_frz (frz_oD _) ?_ | refine fzK_frz (frz_oD _) ?_ | refine varK_frz (frz_oI _) ?_ | refine fzK_frz (frz_oI _) ?_ | refine br_f rfl ?_ | refine br_t rfl ?_); (refine Go.p ?_; (with_reducible conv => (arg 1; whnf)); refine Go.mk ?_)))
      refine s_joined (by omega) _ _ _ _ _ _ ?_
      rw [show oD (jn (a.1, a.2.1, a.2.2) (b.1, b.2.1, b.2.2)) = oD (bo (some a) (some b)) from rfl]
      ((refine Go.p ?_; (with_reducible conv => (arg 1; whnf)); refine Go.mk ?_); repeat ((first | refine varK_frz (frz_oD _) ?_ | refine fzK_frz (frz_oD _) ?_ | refine varK_frz (frz_oI _) ?_ | refine fzK_frz (frz_oI _) ?_ | refine br_f rfl ?_ | refine br_t rfl ?_); (refine Go.p ?_; (with_reducible conv => (arg 1; whnf)); refine Go.mk ?_)))
      refine s_effect_right (f := f) (by omega) hb hst (bo (some a) (some b)) (okO_bo h0 h1) fun bag' hb' => ?_
      ((refine Go.p ?_; (with_reducible conv => (arg 1; whnf)); refine Go.mk ?_); repeat ((first | refine varK_frz (frz_oD _) ?_ | refine fzK_frz (frz_oD _) ?_ | refine varK_frz (frz_oI _) ?_ | refine fzK_frz (frz_oI _) ?_ | refine br_f rfl ?_ | refine br_t rfl ?_); (refine Go.p ?_; (with_reducible conv => (arg 1; whnf)); refine Go.mk ?_)))
      exact hk _ hb'
/-- the parts -/
theorem law_parts {n f : Nat} {bag : D} (hn : 8 ≤ n) (hb : Bag (f + 11) bag) {x0 x2 x3 x4 x5 x6 x8 x9 x10 x11 x12 x13 : Option D} (ls : List Int) (hls : 0 < ls.length ∧ ls.length < 100 ∧ ∀ x ∈ ls, 1 ≤ x ∧ x ≤ 10 ^ 24) (N : List D) (hN : N = il ls) (y7 : D) (h7 : Fz y7 N) {kk : K}
    (hk : ∀ bag' y7, ∀ ps : List Pr, Fz y7 N → ps.length ≤ 5 → (∀ p ∈ ps, p.1 < 3 ∧ 1 ≤ p.2 ∧ p.2 ≤ 10 ^ 24) → Bag f bag' → kk.nx [x0, some bag', x2, x3, x4, x5, x6, some y7, x8, some (.mu (ps.map prD)), x10, x11, x12, x13]) :
    evS (semN T n) (sAt 8 lawB) [x0, some bag, x2, x3, x4, x5, x6, some y7, x8, x9, x10, x11, x12, x13] kk := by
  have fN : frzL N = true := by rw [hN]; exact frz_il _
  have lN : N.length = ls.length := by rw [hN, il_len]
  ((refine Go.p ?_; (with_reducible conv => (arg 1; whnf)); refine Go.mk ?_); repeat ((first | refine varK_frz (frz_oD _) ?_ | refine fzK_frz (frz_oD _) ?_ | refine varK_frz (frz_oI _) ?_ | refine fzK_frz (frz_oI _) ?_ | refine br_f rfl ?_ | refine br_t rfl ?_); (refine Go.p ?_; (with_reducible conv => (arg 1; whnf)); refine Go.mk ?_)))
  refine s_take (f := f + 10) (by omega) hb (by decide) (small_of (by decide)) fun r bag1 q0 q1 hb1 => ?_
  ((refine Go.p ?_; (with_reducible conv => (arg 1; whnf)); refine Go.mk ?_); repeat ((first | refine varK_frz (frz_oD _) ?_ | refine fzK_frz (frz_oD _) ?_ | refine varK_frz (frz_oI _) ?_ | refine fzK_frz (frz_oI _) ?_ | refine br_f rfl ?_ | refine br_t rfl ?_); (refine Go.p ?_; (with_reducible conv => (arg 1; whnf)); refine Go.mk ?_)))
  refine ⟨⟨by omega, by omega⟩, ?_⟩
  ((refine Go.p ?_; (with_reducible conv => (arg 1; whnf)); refine Go.mk ?_); repeat ((first | refine varK_frz (frz_oD _) ?_ | refine fzK_frz (frz_oD _) ?_ | refine varK_frz (frz_oI _) ?_ | refine fzK_frz (frz_oI _) ?_ | refine br_f rfl ?_ | refine br_t rfl ?_); (refine Go.p ?_; (with_reducible conv => (arg 1; whnf)); refine Go.mk ?_)))
  refine compL_inv (fun i ρ acc => ∃ bag' y7, ∃ ps : List Pr, ρ = [x0, some bag', x2, x3, x4, x5, x6, some y7, x8, x9, x10, x11, x12, none] ∧ acc = ps.map prD ∧ ps.length = i ∧ (∀ p ∈ ps, p.1 < 3 ∧ 1 ≤ p.2 ∧ p.2 ≤ 10 ^ 24) ∧ Fz y7 N ∧ Bag (f + 2 * (5 - i)) bag') (by rw [rangeL_len]; omega) ?_ ?_ ?_ ⟨bag1, y7, [], rfl, rfl, rfl, fun _ z => (nomatch z), h7, hb1⟩
  · rintro i d hd ρ acc ⟨bag1, y7, ps, rfl, rfl, ho, hok, h7, hb1⟩ hz P hP
    have hi : i < 5 := by
      have := (List.getElem?_eq_some_iff.mp hd).1
      rw [rangeL_len] at this
      omega
    ((refine Go.p ?_; (with_reducible conv => (arg 1; whnf)); refine Go.mk ?_); repeat ((first | refine varK_frz (frz_oD _) ?_ | refine fzK_frz (frz_oD _) ?_ | refine varK_frz (frz_oI _) ?_ | refine fzK_frz (frz_oI _) ?_ | refine br_f rfl ?_ | refine br_t rfl ?_); (refine Go.p ?_; (with_reducible conv => (arg 1; whnf)); refine Go.mk ?_)))
    refine s_take (f := f + 2 * (5 - (i + 1)) + 1) (by omega) (hb1.weak (by omega)) (by decide) (small_of (by decide)) fun a bag2 a0 a1 hb2 => ?_
    obtain ⟨a, rfl⟩ : ∃ j : Nat, a = j := ⟨a.toNat, by omega⟩
    ((refine Go.p ?_; (with_reducible conv => (arg 1; whnf)); refine Go.mk ?_); repeat ((first | refine varK_frz (frz_oD _) ?_ | refine fzK_frz (frz_oD _) ?_ | refine varK_frz (frz_oI _) ?_ | refine fzK_frz (frz_oI _) ?_ | refine br_f rfl ?_ | refine br_t rfl ?_); (refine Go.p ?_; (with_reducible conv => (arg 1; whnf)); refine Go.mk ?_)))
    refine varK_fz rfl h7.1 h7.2 ?_
    (refine Go.p ?_; (with_reducible conv => (arg 1; whnf)); refine Go.mk ?_)
    refine s_some (f := f + 2 * (5 - (i + 1))) (by omega) hb2 (l := N) (by omega) (by omega) fN fun x bag3 hx hb3 => ?_
    rw [hN] at hx
    obtain ⟨m, rfl, hm⟩ := cnts_k hls.2.2 hx
    ((refine Go.p ?_; (with_reducible conv => (arg 1; whnf)); refine Go.mk ?_); repeat ((first | refine varK_frz (frz_oD _) ?_ | refine fzK_frz (frz_oD _) ?_ | refine varK_frz (frz_oI _) ?_ | refine fzK_frz (frz_oI _) ?_ | refine br_f rfl ?_ | refine br_t rfl ?_); (refine Go.p ?_; (with_reducible conv => (arg 1; whnf)); refine Go.mk ?_)))
    refine ⟨hz, ?_⟩
    ((refine Go.p ?_; (with_reducible conv => (arg 1; whnf)); refine Go.mk ?_); repeat ((first | refine varK_frz (frz_oD _) ?_ | refine fzK_frz (frz_oD _) ?_ | refine varK_frz (frz_oI _) ?_ | refine fzK_frz (frz_oI _) ?_ | refine br_f rfl ?_ | refine br_t rfl ?_); (refine Go.p ?_; (with_reducible conv => (arg 1; whnf)); refine Go.mk ?_)))
    have e : ps.map prD ++ [D.tup [.int (a : Int), .int m]] = (ps ++ [(a, m)]).map prD := map_snoc prD ps (a, m)
    rw [e]
    refine hP _ _ ⟨bag3, _, ps ++ [(a, m)], rfl, rfl, by simp; omega, fun o hoo => ?_, Fz.lst, hb3⟩
    rcases List.mem_append.mp hoo with hoo | hoo
    · exact hok o hoo
    · rw [List.mem_singleton.mp hoo]
      exact ⟨by show a < 3; omega, hm⟩
  · rintro i ρ acc ⟨bag1, y7, os, rfl, rfl, ho, _⟩
    rw [List.length_map]; omega
  · rintro ρ acc ⟨bag1, y7, ps, rfl, rfl, ho, hok, h7, hb1⟩
    rw [rangeL_len] at ho hb1
    have q := hk bag1 y7 ps h7 (by omega) hok (hb1.weak (by omega))
    ((refine Go.p ?_; (with_reducible conv => (arg 1; whnf)); refine Go.mk ?_); repeat ((first | refine varK_frz (frz_oD _) ?_ | refine fzK_frz (frz_oD _) ?_ | refine varK_frz (frz_oI _) ?_ | refine fzK_frz (frz_oI _) ?_ | refine br_f rfl ?_ | refine br_t rfl ?_); (refine Go.p ?_; (with_reducible conv => (arg 1; whnf)); refine Go.mk ?_)))
    exact q
theorem frzP (ps : List Pr) : frzL (ps.map prD) = true := (frzL_all _).mpr fun d hd => by
  obtain ⟨q, _, rfl⟩ := List.mem_map.mp hd
  rfl
/-- the trip -/
theorem law_trip {n f : Nat} {bag : D} (hn : 8 ≤ n) (hb : Bag (f + 3) bag) {st : Int} (hst : 0 ≤ st ∧ st ≤ 10 ^ 20) {x0 x2 x3 x6 x7 x8 x10 x11 x12 x13 : Option D} (cs : List Comb) (hl : cs.length = 3) (hc : ∀ c ∈ cs, okC c) (C : List D) (hC : C = cs.map combD)
    (ps : List Pr) (hpl : ps.length ≤ 5) (hp : ∀ p ∈ ps, p.1 < 3 ∧ 1 ≤ p.2 ∧ p.2 ≤ 10 ^ 24) (Q : List D) (hQ : Q = ps.map prD) {kk : K}
    (hk : ∀ bag', Bag f bag' → kk.nx [x0, some bag', x2, x3, some (.int st), some (.lst C), x6, x7, x8, some (.lst Q), x10, x11, x12, x13]) :
    evS (semN T n) (sAt 9 lawB) [x0, some bag, x2, x3, some (.int st), some (.lst C), x6, x7, x8, some (.mu Q), x10, x11, x12, x13] kk := by
  have fQ : frzL Q = true := by rw [hQ]; exact frzP ps
  ((refine Go.p ?_; (with_reducible conv => (arg 1; whnf)); refine Go.mk ?_); repeat ((first | refine varK_frz (frz_oD _) ?_ | refine fzK_frz (frz_oD _) ?_ | refine varK_frz (frz_oI _) ?_ | refine fzK_frz (frz_oI _) ?_ | refine br_f rfl ?_ | refine br_t rfl ?_); (refine Go.p ?_; (with_reducible conv => (arg 1; whnf)); refine Go.mk ?_)))
  rw [fQ]
  ((refine Go.p ?_; (with_reducible conv => (arg 1; whnf)); refine Go.mk ?_); repeat ((first | refine varK_frz (frz_oD _) ?_ | refine fzK_frz (frz_oD _) ?_ | refine varK_frz (frz_oI _) ?_ | refine fzK_frz (frz_oI _) ?_ | refine br_f rfl ?_ | refine br_t rfl ?_); (refine Go.p ?_; (with_reducible conv => (arg 1; whnf)); refine Go.mk ?_)))
  rw [hC, hQ]
  refine s_trip_right (f := f) (by omega) hb hst cs hc (by omega) ps (fun p h => ⟨by rw [hl]; exact (hp p h).1, (hp p h).2⟩) hpl fun bag' hb' => ?_
  rw [← hC, ← hQ]
  ((refine Go.p ?_; (with_reducible conv => (arg 1; whnf)); refine Go.mk ?_); repeat ((first | refine varK_frz (frz_oD _) ?_ | refine fzK_frz (frz_oD _) ?_ | refine varK_frz (frz_oI _) ?_ | refine fzK_frz (frz_oI _) ?_ | refine br_f rfl ?_ | refine br_t rfl ?_); (refine Go.p ?_; (with_reducible conv => (arg 1; whnf)); refine Go.mk ?_)))
  exact hk _ hb'
end Tr

set_option maxRecDepth 100000
set_option maxHeartbeats 8000000
set_option exponentiation.threshold 1000
/-! The law's own run, joined. -/
namespace Tr
open PySem
@[reducible] def kOf (n : Nat) (j : Nat) (kk : K) : K := { nx := fun ρ1 => evSs (semN T n) (dropS j lawB) ρ1 kk, rt := kk.rt, bk := kk.bk, ct := kk.ct }
theorem law_end {n f : Nat} {bag : D} (hn : 8 ≤ n) (hb : Bag (f + 100) bag) {sc st : Int} (hsc : 0 ≤ sc ∧ sc ≤ 10 ^ 18) (hst : 0 ≤ st ∧ st ≤ 10 ^ 20) {x0 x2 x6 x8 x9 x10 x11 x12 x13 : Option D} (cs : List Comb) (hl : cs.length = 3) (hc : ∀ c ∈ cs, okC c) (ls : List Int) (hls : 0 < ls.length ∧ ls.length < 100 ∧ ∀ x ∈ ls, 1 ≤ x ∧ x ≤ 10 ^ 24) {kk : K}
    (hk : ∀ bag' x5 x6 x7 x8 x9 x10 x11 x12 x13, Bag f bag' → kk.nx [x0, some bag', x2, some (.int sc), some (.int st), x5, x6, x7, x8, x9, x10, x11, x12, x13]) :
    evSs (semN T n) (dropS 5 lawB) [x0, some bag, x2, some (.int sc), some (.int st), some (.mu (cs.map combD)), x6, some (.mu (il ls)), x8, x9, x10, x11, x12, x13] kk := by
  obtain ⟨C, hC⟩ : ∃ C, C = cs.map combD := ⟨_, rfl⟩
  obtain ⟨N, hN⟩ : ∃ N, N = il ls := ⟨_, rfl⟩
  rw [← hC, ← hN]
  have fN : frzL N = true := by rw [hN]; exact frz_il _
  show evS (semN T n) (sAt 5 lawB) _ (kOf n 6 kk)
  refine law_each (f := f + 40) hn hb hst cs hl hc C hC ls hls N hN _ (Fz.mu fN) fun bag1 x8 y7 h7 hb1 => ?_
  show evS (semN T n) (sAt 6 lawB) [x0, some bag1, x2, some (.int sc), some (.int st), some (.lst C), x6, some y7, x8, x9, x10, x11, x12, x13] (kOf n 7 kk)
  refine law_two (f := f + 33) hn hb1 hst cs hl hc C hC ls hls N hN _ h7 fun bag2 y7 o0 o1 h7 k0 k1 hb2 => ?_
  show evS (semN T n) (sAt 7 lawB) [x0, some bag2, x2, some (.int sc), some (.int st), some (.lst C), some (oD o0), some y7, x8, x9, x10, x11, some (oD o1), x13] (kOf n 8 kk)
  refine law_join (f := f + 33) hn hb2 hst.1 o0 o1 k0 k1 fun bag3 hb3 => ?_
  show evS (semN T n) (sAt 8 lawB) [x0, some bag3, x2, some (.int sc), some (.int st), some (.lst C), some (oD o0), some y7, x8, x9, x10, x11, some (oD o1), x13] (kOf n 9 kk)
  refine law_parts (f := f + 22) hn hb3 ls hls N hN _ h7 fun bag4 y7 ps h7 hpl hp hb4 => ?_
  show evS (semN T n) (sAt 9 lawB) [x0, some bag4, x2, some (.int sc), some (.int st), some (.lst C), some (oD o0), some y7, x8, some (.mu (ps.map prD)), x10, x11, some (oD o1), x13] (kOf n 10 kk)
  refine law_trip (f := f + 19) hn hb4 hst cs hl hc C hC ps hpl hp _ rfl fun bag5 hb5 => ?_
  exact hk _ _ _ _ _ _ _ _ _ _ (hb5.weak (by omega))
theorem law_round {n f : Nat} {bag : D} (hn : 8 ≤ n) (hb : Bag (f + 150) bag) {x0 x2 x3 x4 x5 x6 x7 x8 x9 x10 x11 x12 x13 : Option D} {kk : K}
    (hk : ∀ bag' x3 x4 x5 x6 x7 x8 x9 x10 x11 x12 x13, Bag f bag' → kk.nx [x0, some bag', x2, x3, x4, x5, x6, x7, x8, x9, x10, x11, x12, x13]) :
    evSs (semN T n) lawB [x0, some bag, x2, x3, x4, x5, x6, x7, x8, x9, x10, x11, x12, x13] kk := by
  (refine Go.p ?_; (with_reducible conv => (arg 1; whnf)); refine Go.mk ?_)
  refine ⟨by decide, by decide, by decide, ?_⟩
  (refine Go.p ?_; (with_reducible conv => (arg 1; whnf)); refine Go.mk ?_)
  refine ⟨by decide, by decide, by decide, ?_⟩
  (refine Go.p ?_; (with_reducible conv => (arg 1; whnf)); refine Go.mk ?_)
  refine s_some (f := f + 149) (by omega) hb (Nat.le_of_ble_eq_true rfl) (Nat.le_of_ble_eq_true rfl) rfl fun x bag1 hx hb1 => ?_
  obtain ⟨sc, rfl, hsc⟩ : ∃ sc, x = .int sc ∧ 0 ≤ sc ∧ sc ≤ 10 ^ 18 := by
    simp only [List.mem_cons, List.not_mem_nil, or_false] at hx
    rcases hx with rfl | rfl | rfl | rfl <;> exact ⟨_, rfl, by decide, by decide⟩
  (refine Go.p ?_; (with_reducible conv => (arg 1; whnf)); refine Go.mk ?_)
  refine ⟨small_of (by omega), small_of (by omega), ?_⟩
  (refine Go.p ?_; (with_reducible conv => (arg 1; whnf)); refine Go.mk ?_)
  refine s_number (f := f + 146) (by omega) hb1 (by omega) fun s1 bag2 q0 q1 hb2 => ?_
  (refine Go.p ?_; (with_reducible conv => (arg 1; whnf)); refine Go.mk ?_)
  refine ⟨by decide, by decide, by decide, ?_⟩
  (refine Go.p ?_; (with_reducible conv => (arg 1; whnf)); refine Go.mk ?_)
  refine s_number (f := f + 143) (by omega) hb2 (by decide) fun s2 bag3 p0 p1 hb3 => ?_
  have p1 : s2 ≤ 10 ^ 20 := p1
  (refine Go.p ?_; (with_reducible conv => (arg 1; whnf)); refine Go.mk ?_)
  refine s_some (f := f + 142) (by omega) hb3 (l := [.int sc, .int s1, .int s2, .int 0]) (Nat.le_of_ble_eq_true rfl) (Nat.le_of_ble_eq_true rfl) rfl fun x bag4 hx hb4 => ?_
  obtain ⟨st, rfl, hst⟩ : ∃ st, x = .int st ∧ 0 ≤ st ∧ st ≤ 10 ^ 20 := by
    simp only [List.mem_cons, List.not_mem_nil, or_false] at hx
    rcases hx with rfl | rfl | rfl | rfl <;> exact ⟨_, rfl, by omega⟩
  show evS (semN T n) (sAt 3 lawB) [x0, some bag4, x2, some (.int sc), some (.int st), some (.mu []), x6, x7, x8, x9, x10, x11, x12, x13] (kOf n 4 kk)
  refine law_combs (f := f + 115) (by omega) hb4 hsc hst.1 fun bag5 x6 x10 x11 cs hl hc hb5 => ?_
  obtain ⟨C, hC⟩ : ∃ C, C = cs.map combD := ⟨_, rfl⟩
  rw [← hC]
  (refine Go.p ?_; (with_reducible conv => (arg 1; whnf)); refine Go.mk ?_)
  refine s_take (f := f + 114) (by omega) hb5 (by decide) (small_of (by decide)) fun c1 bag6 u0 u1 hb6 => ?_
  (refine Go.p ?_; (with_reducible conv => (arg 1; whnf)); refine Go.mk ?_)
  refine ⟨small_of (by omega), small_of (by omega), ?_⟩
  (refine Go.p ?_; (with_reducible conv => (arg 1; whnf)); refine Go.mk ?_)
  refine s_number (f := f + 111) (by omega) hb6 (by omega) fun c2 bag7 v0 v1 hb7 => ?_
  (refine Go.p ?_; (with_reducible conv => (arg 1; whnf)); refine Go.mk ?_)
  refine ⟨by decide, by decide, by decide, ?_⟩
  (refine Go.p ?_; (with_reducible conv => (arg 1; whnf)); refine Go.mk ?_)
  refine s_number (f := f + 108) (by omega) hb7 (by decide) fun c3 bag8 w0 w1 hb8 => ?_
  have w1 : c3 ≤ 10 ^ 24 - 1 := w1
  show evSs (semN T n) (dropS 5 lawB) [x0, some bag8, x2, some (.int sc), some (.int st), some (.mu C), x6, some (.mu (il [1, 1 + c1, 1 + c2, 1 + c3])), x8, x9, x10, x11, x12, x13] kk
  rw [hC]
  refine law_end (f := f) hn (hb8.weak (by omega)) hsc hst cs hl hc [1, 1 + c1, 1 + c2, 1 + c3] ⟨Nat.le_of_ble_eq_true rfl, Nat.le_of_ble_eq_true rfl, fun x hx => ?_⟩ fun bag' x5 x6 x7 x8 x9 x10 x11 x12 x13 hb' => hk _ _ _ _ _ _ _ _ _ _ _ _ hb'
  simp only [List.mem_cons, List.not_mem_nil, or_false] at hx
  omega
theorem main : ∀ ns : List Int, ns.length ≤ 63 → semN (tbl.map (·.fn)) 20 34 [.scr (ns.map D.int)] fun r _ => r = .bl true := by
  intro ns hns
  show semN T (19 + 1) 34 [.scr (il ns)] _
  refine sem_succ 13 rfl rfl rfl ?_
  (refine Go.p ?_; (with_reducible conv => (arg 1; whnf)); refine Go.mk ?_)
  refine s_bag (by decide) ns hns fun bag hb => ?_
  (refine Go.p ?_; (with_reducible conv => (arg 1; whnf)); refine Go.mk ?_)
  refine ⟨by decide, ?_⟩
  (refine Go.p ?_; (with_reducible conv => (arg 1; whnf)); refine Go.mk ?_)
  refine forL_inv (fun i ρ => ∃ bag' x2 x3 x4 x5 x6 x7 x8 x9 x10 x11 x12 x13, ρ = [some (.scr (il ns)), some bag', x2, x3, x4, x5, x6, x7, x8, x9, x10, x11, x12, x13] ∧ Bag (150 * (3 - i)) bag') ?_ ?_ ⟨bag, _, _, _, _, _, _, _, _, _, _, _, _, rfl, hb.weak (by decide)⟩
  · rintro i d hd ρ ⟨bag1, x2, x3, x4, x5, x6, x7, x8, x9, x10, x11, x12, x13, rfl, hb1⟩ P hP
    have hi : i < 3 := by
      have := (List.getElem?_eq_some_iff.mp hd).1
      rw [rangeL_len] at this
      exact this
    show evSs (semN T 19) lawB [some (.scr (il ns)), some bag1, some d, x3, x4, x5, x6, x7, x8, x9, x10, x11, x12, x13] _
    refine law_round (f := 150 * (3 - (i + 1))) (by decide) (hb1.weak (by omega)) fun bag' x3 x4 x5 x6 x7 x8 x9 x10 x11 x12 x13 hb' => ?_
    exact hP _ ⟨_, _, _, _, _, _, _, _, _, _, _, _, _, rfl, hb'⟩
  · rintro ρ ⟨bag1, x2, x3, x4, x5, x6, x7, x8, x9, x10, x11, x12, x13, rfl, hb1⟩
    (refine Go.p ?_; (with_reducible conv => (arg 1; whnf)); refine Go.mk ?_)
    rfl
end Tr

set_option maxRecDepth 100000
set_option maxHeartbeats 8000000
/-! What the top has written. -/
namespace Tr
open PySem PySem.Spec PyProof.Rows L2
def DefK (K : PySem.W.Frag) (x : Str) (st : Stmt) : Prop := ∃ (f : Addr) (od an : Option Addr) (sl : Array (Option Value)) (oc kV dc pm cd ct : Value),
  PySem.W.nsIn K mainGlobals x = some (some (.ref f)) ∧ K.lookup f = some ⟨oc, od, .func (PySem.W.fnOf x x (defArgs st) (defBody st) (defScope st) .none kV dc pm an cd ct), sl⟩ ∧ PySem.W.codeIn K cd x = true ∧ PySem.W.keepIn K (.ref f) = true
theorem defK {K : PySem.W.Frag} {x : Str} {st : Stmt} {f : Addr} {od an : Option Addr} {sl : Array (Option Value)} {oc kV dc pm cd ct : Value}
  (a : PySem.W.nsIn K mainGlobals x = some (some (.ref f))) (l : K.lookup f = some ⟨oc, od, .func (PySem.W.fnOf x x (defArgs st) (defBody st) (defScope st) .none kV dc pm an cd ct), sl⟩) (c : PySem.W.codeIn K cd x = true) (k : PySem.W.keepIn K (.ref f) = true) : DefK K x st := ⟨f, od, an, sl, oc, kV, dc, pm, cd, ct, a, l, c, k⟩
def DefsK (K : PySem.W.Frag) : List De → Prop
  | [] => True
  | e :: r => DefK K e.x e.st ∧ DefsK K r
def NoK (K : PySem.W.Frag) : List Str → Prop
  | [] => True
  | x :: r => PySem.W.nsIn K mainGlobals x = some none ∧ NoK K r
def BindC (e : De) : Prop := ∀ (kV doc pm : Value) (an : Option Addr) (cdv ct : Value) (us : List Value), us.length = e.ps.length → bindArgs (PySem.W.fnOf e.x e.x (defArgs e.st) (defBody e.st) (defScope e.st) .none kV doc pm an cdv ct) ⟨us, []⟩ = pure (e.ps.zip us)
def BindsC : List De → Prop
  | [] => True
  | e :: r => BindC e ∧ BindsC r
theorem DefsK.at {K : PySem.W.Frag} : ∀ {t : List De} {i : Nat} {e : De}, DefsK K t → t[i]? = some e → DefK K e.x e.st
  | _ :: _, 0, _, h, he => by cases he; exact h.1
  | _ :: r, i + 1, _, h, he => DefsK.at (t := r) h.2 he
theorem BindsC.at : ∀ {t : List De} {i : Nat} {e : De}, BindsC t → t[i]? = some e → BindC e
  | _ :: _, 0, _, h, he => by cases he; exact h.1
  | _ :: r, i + 1, _, h, he => BindsC.at (t := r) h.2 he
theorem NoK.at {K : PySem.W.Frag} : ∀ {t : List Str} {x : Str}, NoK K t → x ∈ t → PySem.W.nsIn K mainGlobals x = some none
  | _ :: _, _, h, he => by
    rcases List.mem_cons.mp he with rfl | he
    · exact h.1
    · exact NoK.at h.2 he
def wOf : Cst → PySem.W.WData
  | .non => .none | .bl b => .bool b | .int i => .int i | .str s => .str s
theorem stan_of {K : PySem.W.Frag} {h : Heap} {mg : Str → Option Value} {fa : Addr} {tbl : List De} {cl : List (Str × Cst)} {lv : List (Str × PySem.W.WData)} {f : Nat} {e : De} {script : Str} (X : K.In h) (G : h.Ns mainGlobals mg) (hv : PySem.W.LooseAre lv mg h) (hlv : lv = cl.map fun q => (q.1, wOf q.2))
    (hf : tbl[f]? = some e) (hfa : mg e.x = some (.ref fa)) (hb : BindsC tbl) (hps : e.ps = [script]) (hbt : ∀ (kV doc pm : Value) (an : Option Addr) (cdv ct u : Value), bindArgs (PySem.W.fnOf e.x e.x (defArgs e.st) (defBody e.st) (defScope e.st) .none kV doc pm an cdv ct) ⟨[u], []⟩ = pure [(script, u)]) (hd : DefsK K tbl) (hn : NoK K bnames) :
    Stan K mg tbl (fun x => cl.lookup x) ∧ ∃ fd : FuncData, Fun K e.x e.x e.st fa fd ∧ (∀ (s : Shared) (u : Value), BindsTo s fd ⟨[u], []⟩ [(script, u)]) := by
  have one : ∀ (i : Nat) (e : De), tbl[i]? = some e → ∃ a fd, Fun K e.x e.x e.st a fd ∧ mg e.x = some (.ref a) ∧ Binds K fd e.ps [] ∧ ∃ (kV doc pm : Value) (an : Option Addr) (cdv ct : Value), fd = PySem.W.fnOf e.x e.x (defArgs e.st) (defBody e.st) (defScope e.st) .none kV doc pm an cdv ct := fun i e he => by
    obtain ⟨a, od, an, sl, oc, kV, dc, pm, cd, ct, h1, h2, h3, h4⟩ := hd.at he
    have F := fun_mk (st := e.st) h2 h3 h4
    exact ⟨a, _, F, PySem.W.mg_of X G h1, F.binds (hb.at he), kV, dc, pm, an, cd, ct, rfl⟩
  refine ⟨⟨fun i e he => ?_, fun x hx => PySem.W.mg_none_of X G (hn.at hx), fun x c hx => ?_⟩, ?_⟩
  · obtain ⟨a, fd, h1, h2, h3, _⟩ := one i e he
    exact ⟨a, fd, h1, h2, h3⟩
  · have hm : (x, c) ∈ cl := PySem.mem_of_lookup hx
    obtain ⟨v, h1, h2⟩ := hv.val (x, wOf c) (by rw [hlv]; exact List.mem_map.mpr ⟨(x, c), hm, rfl⟩)
    cases c with
    | non => cases h2; exact ⟨_, .non, h1, rfl, rfl⟩
    | bl b => cases h2; exact ⟨_, .bl b, h1, rfl, rfl⟩
    | int i => cases h2; exact ⟨_, .int i, h1, ⟨_, rfl⟩, rfl⟩
    | str s => cases h2; exact ⟨_, .str s, h1, ⟨_, rfl⟩, rfl⟩
  · obtain ⟨a, fd, h1, h2, _, kV, dc, pm, an, cd, ct, rfl⟩ := one f e hf
    rw [hfa] at h2
    cases h2
    exact ⟨_, h1, fun s u => .of_eq (hbt kV dc pm an cd ct u)⟩
end Tr

set_option maxRecDepth 100000
set_option maxHeartbeats 8000000
namespace Tr
open PySem PySem.Spec PyProof.Rows L2
theorem b_is_whole : BindC de_is_whole := fun _ _ _ _ _ _ us hl => match us, hl with | [_], _ => rfl
theorem b_is_effect : BindC de_is_effect := fun _ _ _ _ _ _ us hl => match us, hl with | [_, _], _ => rfl
theorem b_passed : BindC de_passed := fun _ _ _ _ _ _ us hl => match us, hl with | [_, _], _ => rfl
theorem b_joined : BindC de_joined := fun _ _ _ _ _ _ us hl => match us, hl with | [_, _], _ => rfl
theorem b_effect_of : BindC de_effect_of := fun _ _ _ _ _ _ us hl => match us, hl with | [_, _], _ => rfl
theorem b_repeated : BindC de_repeated := fun _ _ _ _ _ _ us hl => match us, hl with | [_, _, _], _ => rfl
theorem b_changes_by : BindC de_changes_by := fun _ _ _ _ _ _ us hl => match us, hl with | [_, _], _ => rfl
theorem b_mirrored : BindC de_mirrored := fun _ _ _ _ _ _ us hl => match us, hl with | [_, _], _ => rfl
theorem b_turned_land : BindC de_turned_land := fun _ _ _ _ _ _ us hl => match us, hl with | [_], _ => rfl
theorem b_stepped : BindC de_stepped := fun _ _ _ _ _ _ us hl => match us, hl with | [_, _, _], _ => rfl
theorem b_levels_along : BindC de_levels_along := fun _ _ _ _ _ _ us hl => match us, hl with | [_, _, _], _ => rfl
theorem b_part_end : BindC de_part_end := fun _ _ _ _ _ _ us hl => match us, hl with | [_, _, _], _ => rfl
theorem b_end_of : BindC de_end_of := fun _ _ _ _ _ _ us hl => match us, hl with | [_, _, _], _ => rfl
theorem b_length_of : BindC de_length_of := fun _ _ _ _ _ _ us hl => match us, hl with | [_, _, _], _ => rfl
theorem b_part_effect : BindC de_part_effect := fun _ _ _ _ _ _ us hl => match us, hl with | [_, _, _], _ => rfl
theorem b_effect_by : BindC de_effect_by := fun _ _ _ _ _ _ us hl => match us, hl with | [_, _, _, _], _ => rfl
theorem b_arrival : BindC de_arrival := fun _ _ _ _ _ _ us hl => match us, hl with | [_, _, _, _, _], _ => rfl
theorem b_backward : BindC de_backward := fun _ _ _ _ _ _ us hl => match us, hl with | [_], _ => rfl
theorem b__law_bag : BindC de__law_bag := fun _ _ _ _ _ _ us hl => match us, hl with | [_], _ => rfl
theorem b__law_take : BindC de__law_take := fun _ _ _ _ _ _ us hl => match us, hl with | [_, _], _ => rfl
theorem b__law_some : BindC de__law_some := fun _ _ _ _ _ _ us hl => match us, hl with | [_, _], _ => rfl
theorem b__law_kind : BindC de__law_kind := fun _ _ _ _ _ _ us hl => match us, hl with | [_], _ => rfl
theorem b__law_alike : BindC de__law_alike := fun _ _ _ _ _ _ us hl => match us, hl with | [_, _], _ => rfl
theorem b__law_number : BindC de__law_number := fun _ _ _ _ _ _ us hl => match us, hl with | [_, _], _ => rfl
theorem b__law_along : BindC de__law_along := fun _ _ _ _ _ _ us hl => match us, hl with | [_, _, _], _ => rfl
theorem b__law_comb : BindC de__law_comb := fun _ _ _ _ _ _ us hl => match us, hl with | [_, _, _], _ => rfl
theorem b__law_row : BindC de__law_row := fun _ _ _ _ _ _ us hl => match us, hl with | [_], _ => rfl
theorem b__law_both : BindC de__law_both := fun _ _ _ _ _ _ us hl => match us, hl with | [_, _], _ => rfl
theorem b__law_past : BindC de__law_past := fun _ _ _ _ _ _ us hl => match us, hl with | [_, _], _ => rfl
theorem b__law_fits : BindC de__law_fits := fun _ _ _ _ _ _ us hl => match us, hl with | [_, _], _ => rfl
theorem b__law_levels : BindC de__law_levels := fun _ _ _ _ _ _ us hl => match us, hl with | [_, _, _], _ => rfl
theorem b__law_effect_right : BindC de__law_effect_right := fun _ _ _ _ _ _ us hl => match us, hl with | [_, _, _, _], _ => rfl
theorem b__law_comb_right : BindC de__law_comb_right := fun _ _ _ _ _ _ us hl => match us, hl with | [_, _, _, _], _ => rfl
theorem b__law_trip_right : BindC de__law_trip_right := fun _ _ _ _ _ _ us hl => match us, hl with | [_, _, _, _], _ => rfl
theorem b_law : BindC de_law := fun _ _ _ _ _ _ us hl => match us, hl with | [_], _ => rfl
theorem binds : BindsC tbl := ⟨b_is_whole, b_is_effect, b_passed, b_joined, b_effect_of, b_repeated, b_changes_by, b_mirrored, b_turned_land, b_stepped, b_levels_along, b_part_end, b_end_of, b_length_of, b_part_effect, b_effect_by, b_arrival, b_backward, b__law_bag, b__law_take, b__law_some, b__law_kind, b__law_alike, b__law_number, b__law_along, b__law_comb, b__law_row, b__law_both, b__law_past, b__law_fits, b__law_levels, b__law_effect_right, b__law_comb_right, b__law_trip_right, b_law, trivial⟩
end Tr
open PySem PySem.W PyProof.Rows
set_option maxRecDepth 100000 in
set_option maxHeartbeats 0 in
theorem PySem.Challenge.cw_trudge_k07_whole_ups_and_downs_so_many_t_holds : PySem.Challenge.rw_trudge_k07_whole_ups_and_downs_so_many_t.Holds := by
  w_on; o_law; k_head; (case hw => w_witness2)
  k_fill
  refine Tr.walk_tr (l := PySem.Challenge.rw_trudge_k07_whole_ups_and_downs_so_many_t) (tbl := Tr.tbl) (cn := Tr.cn) (n := 20) (f := 34) (e := Tr.de_law) rfl rfl (fun w h Y => PySem.W.kIn_of Y) rfl rfl rfl rfl rfl Tr.tbl_ok ⟨rfl, by decide, by decide⟩ ?F Tr.main
  case F =>
    intro w mg fa h KX G hX hmg
    refine Tr.stan_of (cl := Tr.cnl) KX G hX.2 rfl (f := 34) rfl hmg Tr.binds rfl (fun _ _ _ _ _ _ _ => rfl) ?ds ?zs
    case ds =>
      refine ⟨?d0, ?d1, ?d2, ?d3, ?d4, ?d5, ?d6, ?d7, ?d8, ?d9, ?d10, ?d11, ?d12, ?d13, ?d14, ?d15, ?d16, ?d17, ?d18, ?d19, ?d20, ?d21, ?d22, ?d23, ?d24, ?d25, ?d26, ?d27, ?d28, ?d29, ?d30, ?d31, ?d32, ?d33, ?d34, trivial⟩
      case d0 =>
        refine' Tr.defK ?a ?l ?c ?k
        (case a => k_is); (case l => k_is); (case c => k_is); (case k => k_is)
      case d1 =>
        refine' Tr.defK ?a ?l ?c ?k
        (case a => k_is); (case l => k_is); (case c => k_is); (case k => k_is)
      case d2 =>
        refine' Tr.defK ?a ?l ?c ?k
        (case a => k_is); (case l => k_is); (case c => k_is); (case k => k_is)
      case d3 =>
        refine' Tr.defK ?a ?l ?c ?k
        (case a => k_is); (case l => k_is); (case c => k_is); (case k => k_is)
      case d4 =>
        refine' Tr.defK ?a ?l ?c ?k
        (case a => k_is); (case l => k_is); (case c => k_is); (case k => k_is)
      case d5 =>
        refine' Tr.defK ?a ?l ?c ?k
        (case a => k_is); (case l => k_is); (case c => k_is); (case k => k_is)
      case d6 =>
        refine' Tr.defK ?a ?l ?c ?k
        (case a => k_is); (case l => k_is); (case c => k_is); (case k => k_is)
      case d7 =>
        refine' Tr.defK ?a ?l ?c ?k
        (case a => k_is); (case l => k_is); (case c => k_is); (case k => k_is)
      case d8 =>
        refine' Tr.defK ?a ?l ?c ?k
        (case a => k_is); (case l => k_is); (case c => k_is); (case k => k_is)
      case d9 =>
        refine' Tr.defK ?a ?l ?c ?k
        (case a => k_is); (case l => k_is); (case c => k_is); (case k => k_is)
      case d10 =>
        refine' Tr.defK ?a ?l ?c ?k
        (case a => k_is); (case l => k_is); (case c => k_is); (case k => k_is)
      case d11 =>
        refine' Tr.defK ?a ?l ?c ?k
        (case a => k_is); (case l => k_is); (case c => k_is); (case k => k_is)
      case d12 =>
        refine' Tr.defK ?a ?l ?c ?k
        (case a => k_is); (case l => k_is); (case c => k_is); (case k => k_is)
      case d13 =>
        refine' Tr.defK ?a ?l ?c ?k
        (case a => k_is); (case l => k_is); (case c => k_is); (case k => k_is)
      case d14 =>
        refine' Tr.defK ?a ?l ?c ?k
        (case a => k_is); (case l => k_is); (case c => k_is); (case k => k_is)
      case d15 =>
        refine' Tr.defK ?a ?l ?c ?k
        (case a => k_is); (case l => k_is); (case c => k_is); (case k => k_is)
      case d16 =>
        refine' Tr.defK ?a ?l ?c ?k
        (case a => k_is); (case l => k_is); (case c => k_is); (case k => k_is)
      case d17 =>
        refine' Tr.defK ?a ?l ?c ?k
        (case a => k_is); (case l => k_is); (case c => k_is); (case k => k_is)
      case d18 =>
        refine' Tr.defK ?a ?l ?c ?k
        (case a => k_is); (case l => k_is); (case c => k_is); (case k => k_is)
      case d19 =>
        refine' Tr.defK ?a ?l ?c ?k
        (case a => k_is); (case l => k_is); (case c => k_is); (case k => k_is)
      case d20 =>
        refine' Tr.defK ?a ?l ?c ?k
        (case a => k_is); (case l => k_is); (case c => k_is); (case k => k_is)
      case d21 =>
        refine' Tr.defK ?a ?l ?c ?k
        (case a => k_is); (case l => k_is); (case c => k_is); (case k => k_is)
      case d22 =>
        refine' Tr.defK ?a ?l ?c ?k
        (case a => k_is); (case l => k_is); (case c => k_is); (case k => k_is)
      case d23 =>
        refine' Tr.defK ?a ?l ?c ?k
        (case a => k_is); (case l => k_is); (case c => k_is); (case k => k_is)
      case d24 =>
        refine' Tr.defK ?a ?l ?c ?k
        (case a => k_is); (case l => k_is); (case c => k_is); (case k => k_is)
      case d25 =>
        refine' Tr.defK ?a ?l ?c ?k
        (case a => k_is); (case l => k_is); (case c => k_is); (case k => k_is)
      case d26 =>
        refine' Tr.defK ?a ?l ?c ?k
        (case a => k_is); (case l => k_is); (case c => k_is); (case k => k_is)
      case d27 =>
        refine' Tr.defK ?a ?l ?c ?k
        (case a => k_is); (case l => k_is); (case c => k_is); (case k => k_is)
      case d28 =>
        refine' Tr.defK ?a ?l ?c ?k
        (case a => k_is); (case l => k_is); (case c => k_is); (case k => k_is)
      case d29 =>
        refine' Tr.defK ?a ?l ?c ?k
        (case a => k_is); (case l => k_is); (case c => k_is); (case k => k_is)
      case d30 =>
        refine' Tr.defK ?a ?l ?c ?k
        (case a => k_is); (case l => k_is); (case c => k_is); (case k => k_is)
      case d31 =>
        refine' Tr.defK ?a ?l ?c ?k
        (case a => k_is); (case l => k_is); (case c => k_is); (case k => k_is)
      case d32 =>
        refine' Tr.defK ?a ?l ?c ?k
        (case a => k_is); (case l => k_is); (case c => k_is); (case k => k_is)
      case d33 =>
        refine' Tr.defK ?a ?l ?c ?k
        (case a => k_is); (case l => k_is); (case c => k_is); (case k => k_is)
      case d34 =>
        refine' Tr.defK ?a ?l ?c ?k
        (case a => k_is); (case l => k_is); (case c => k_is); (case k => k_is)
    case zs =>
      refine ⟨?z0, ?z1, ?z2, ?z3, ?z4, ?z5, ?z6, ?z7, ?z8, ?z9, ?z10, ?z11, ?z12, ?z13, ?z14, ?z15, ?z16, ?z17, trivial⟩
      case z0 => k_is
      case z1 => k_is
      case z2 => k_is
      case z3 => k_is
      case z4 => k_is
      case z5 => k_is
      case z6 => k_is
      case z7 => k_is
      case z8 => k_is
      case z9 => k_is
      case z10 => k_is
      case z11 => k_is
      case z12 => k_is
      case z13 => k_is
      case z14 => k_is
      case z15 => k_is
      case z16 => k_is
      case z17 => k_is

