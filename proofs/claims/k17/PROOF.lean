import PyProof.Rows.All
import Wide.All
import OpenK.AllK
import Wide.FinOn
import HandS.ForMost
import HandS.Wide
import HandS.Flow
import HandS.Style
import HandS.Deep
import HandS.SortInts
import HandS.SetKeys
import HandS.RaiseMore
import HandS.IsInst
import HandS.Conv
import HandS.TupAny
import KE.GoesMore
import HandS.Words
import KE.BitLaws
import PySem.Challenge.RW_craterbeat_k17_traces_by_remainders
set_option Elab.async false
set_option linter.all false
set_option maxRecDepth 100000
/-! Pi0: data trees, the small syntax, the evaluator. -/
namespace Pi
open PySem L2

/-- a datum, without addresses -/
inductive D where
  | non | bl (b : Bool) | int (i : Int) | str (s : Str)
  | tup (l : List D) | lst (l : List D)
  | dk (l : List (Key × D)) | dt (l : List (List Key × D))
  | ins (c : Str) (fs : List (Str × D))
  | ty (n : String)
  /-- a list of ints that is only read (the script) -/
  | scr (l : List Int)
  /-- a tuple of the written part (a module's constant) -/
  | ctup (l : List D)
instance : Inhabited D := ⟨.non⟩

/-- a datum with how deep its mutable objects are owned (0: frozen) -/
abbrev Sl := D × Nat
abbrev Env := List (Option Sl)
def gt : Env → Nat → Option Sl
  | [], _ => none
  | s :: _, 0 => s
  | _ :: r, n + 1 => gt r n
def st : Env → Nat → Option Sl → Env
  | [], _, _ => []
  | _ :: r, 0, x => x :: r
  | s :: r, n + 1, x => s :: st r n x
def wp (ρ : Env) : List Nat → Env
  | [] => ρ
  | v :: vs => st (wp ρ vs) v none

mutual
/-- no mutable object within -/
def imm : D → Bool
  | .tup l => immL l
  | .ctup l => immL l
  | .lst _ | .dk _ | .dt _ | .ins _ _ | .scr _ => false
  | _ => true
def immL : List D → Bool
  | [] => true
  | x :: r => imm x && immL r
end
mutual
/-- owned to the depth n it holds no frozen mutable object -/
def nofz : Nat → D → Bool
  | n, .tup l => nofzL n l
  | n, .lst l => n != 0 && nofzL (n - 1) l
  | n, .dk l => n != 0 && nofzK (n - 1) l
  | n, .dt l => n != 0 && nofzT (n - 1) l
  | _, .ins _ _ => false
  | _, .scr _ => false
  | n, .ctup l => nofzL n l
  | _, _ => true
def nofzL : Nat → List D → Bool
  | _, [] => true
  | n, x :: r => nofz n x && nofzL n r
def nofzK : Nat → List (Key × D) → Bool
  | _, [] => true
  | n, (_, x) :: r => nofz n x && nofzK n r
def nofzT : Nat → List (List Key × D) → Bool
  | _, [] => true
  | n, (_, x) :: r => nofz n x && nofzT n r
def nofzF : Nat → List (Str × D) → Bool
  | _, [] => true
  | n, (_, x) :: r => nofz n x && nofzF n r
end
/-- the slots vs as in ρ0, where a plain value stood there -/
def keepI : Option Sl → Option Sl
  | some (.non, _) => some (.non, 0)
  | some (.bl b, _) => some (.bl b, 0)
  | some (.int i, _) => some (.int i, 0)
  | some (.str s, _) => some (.str s, 0)
  | _ => none
def rst (ρ0 : Env) (ρ : Env) : List Nat → Env
  | [] => ρ
  | v :: vs => st (rst ρ0 ρ vs) v (keepI (gt ρ0 v))
def hasd (k : Nat) (s : Sl) : Bool := decide (k ≤ s.2) || imm s.1

inductive Rs (α : Type) where
  | stk
  | ok (a : α) (ρ : Env)
  | ex (e : D) (ρ : Env)
def Rs.bind {α β : Type} (r : Rs α) (f : α → Env → Rs β) : Rs β := match r with
  | .stk => .stk
  | .ok a ρ => f a ρ
  | .ex e ρ => .ex e ρ
def Rs.of {α : Type} (o : Option α) (ρ : Env) : Rs α := match o with
  | some a => .ok a ρ
  | none => .stk
theorem bind_ok {α β : Type} (a : α) (ρ : Env) (f : α → Env → Rs β) : (Rs.ok a ρ).bind f = f a ρ := rfl
theorem bind_stk {α β : Type} (f : α → Env → Rs β) : (Rs.stk : Rs α).bind f = .stk := rfl
theorem bind_ex {α β : Type} (e : D) (ρ : Env) (f : α → Env → Rs β) : (Rs.ex e ρ : Rs α).bind f = .ex e ρ := rfl
theorem of_some {α : Type} (a : α) (ρ : Env) : Rs.of (some a) ρ = .ok a ρ := rfl
theorem of_none {α : Type} (ρ : Env) : Rs.of (none : Option α) ρ = .stk := rfl

/-- a call's outcome: the value, the parameters that go back -/
inductive Cr where
  | stk
  | ok (v : Sl) (outs : List (Option Sl))
  | ex (e : D) (outs : List (Option Sl))

/-- built-in functions -/
inductive Bn where
  | len | int | abs | max | min | sum | sorted | tuple | list | repr | str | all | any | bool
/-- methods that change nothing -/
inductive Mn where
  | get | items | keys | values | count | index
/-- methods that change the receiver -/
inductive Mm where
  | append | pop | extend | insert | remove | setdefault
inductive Ty where
  | int | bool | str | list | tuple | dict
inductive Tg where
  | nm (i : Nat)
  | tp (l : List Nat)

/-- expressions, argument lists (nil, cons), tests (tnot ..), what is walked (ival ..) -/
inductive Ex where
  | var (i : Nat) | mv (i : Nat) | q (e : Ex)
  | int (i : Int) | bl (b : Bool) | non | str (s : Str)
  | con (j : Nat)
  | op2 (o : Operator) (a b : Ex) | neg (a : Ex) | not (a : Ex)
  | cmp (o : CmpOp) (a b : Ex) | chain (o o' : CmpOp) (a b c : Ex)
  | and (a b : Ex) | or (a b : Ex) | ite (c a b : Ex)
  | nil | cons (a r : Ex)
  | tup (k : Nat) (l : Ex) | lst (k : Nat) (l : Ex) | dict (k : Nat) (l : Ex)
  | ix (a b : Ex) | fld (a : Ex) (f : Str) | sl (a lo hi : Ex) | rev (a : Ex)
  | call (f : Str) (args : Ex) (sel : List Nat) (backs : List (Nat × Nat)) | lend (i : Nat)
  | blt (f : Bn) (args : Ex) | mth (m : Mn) (o args : Ex)
  | mutv (m : Mm) (i : Nat) (args : Ex) | mutk (m : Mm) (i : Nat) (key : Str) (args : Ex)
  | lc (k : Nat) (own : List Nat) (elt : Ex) (tg : Tg) (it cnd : Ex)
  | isin (a : Ex) (t : Ty)
  | tnot (a : Ex) | tand (a b : Ex) | tor (a b : Ex) | tval (a : Ex) | tyes | tcmp (o : CmpOp) (a b : Ex) | tchain (o o' : CmpOp) (a b c : Ex) | tq (a : Ex)
  | ival (a : Ex) | irng1 (a : Ex) | irng2 (a b : Ex) | irng3 (a b c : Ex) | ienum (a : Ex) | izip (a b : Ex)
  | lrng1 (a : Ex) | lrng2 (a b : Ex)

/-! ### operations on data -/
def truthD : D → Option Bool
  | .non => some false
  | .bl b => some b
  | .int i => some (i != 0)
  | .str s => if s.length ≤ sizeLine then some ((s.length : Int) != 0) else none
  | .tup l => some (!l.isEmpty)
  | .ctup l => some (!l.isEmpty)
  | .lst l => some (!l.isEmpty)
  | _ => none
def keyPy : Key → PyData
  | .inl i => .int i
  | .inr s => .str s
mutual
def toPy : D → Option PyData
  | .non => some .none
  | .bl b => some (.bool b)
  | .int i => some (.int i)
  | .str s => some (.str s)
  | .tup l => (toPyL l).map .tuple
  | .ctup l => (toPyL l).map .tuple
  | .lst l => (toPyL l).map .list
  | .dk l => (toPyK l).map .dict
  | _ => none
def toPyL : List D → Option (List PyData)
  | [] => some []
  | x :: r => match toPy x, toPyL r with
    | some p, some ps => some (p :: ps)
    | _, _ => none
def toPyK : List (Key × D) → Option (List (PyData × PyData))
  | [] => some []
  | (k, x) :: r => match toPy x, toPyK r with
    | some p, some ps => some ((keyPy k, p) :: ps)
    | _, _ => none
end
/-- scalars that == tells apart as data does -/
def scalD : D → D → Option Bool
  | .int i, .int j => some (i == j)
  | .str i, .str j => some (i == j)
  | .bl i, .bl j => some (i == j)
  | .non, .non => some true
  | .non, .int _ => some false
  | .int _, .non => some false
  | .non, .bl _ => some false
  | .bl _, .non => some false
  | .non, .str _ => some false
  | .str _, .non => some false
  | .int _, .str _ => some false
  | .str _, .int _ => some false
  | .bl _, .str _ => some false
  | .str _, .bl _ => some false
  | _, _ => none
def eqD (a b : D) : Option Bool := match scalD a b with
  | some r => some r
  | none => match toPy a, toPy b with
    | some p, some q => if SeqAt.shaped p && SeqAt.shaped q then some (PyData.eqv p q) else none
    | _, _ => none
def isKey : D → Option Key
  | .int i => some (.inl i)
  | .str s => some (.inr s)
  | _ => none
def isKeys : List D → Option (List Key)
  | [] => some []
  | x :: r => match isKey x, isKeys r with
    | some k, some ks => some (k :: ks)
    | _, _ => none
section
variable {κ α : Type} [DecidableEq κ]
def getK (l : List (κ × α)) (k : κ) : Option α := match l with
  | [] => none
  | p :: r => if p.1 = k then some p.2 else getK r k
def hasK (l : List (κ × α)) (k : κ) : Bool := match l with
  | [] => false
  | p :: r => if p.1 = k then true else hasK r k
/-- in its place, or at the end -/
def putD (l : List (κ × α)) (k : κ) (v : α) : List (κ × α) := match l with
  | [] => [(k, v)]
  | p :: r => if p.1 = k then (p.1, v) :: r else p :: putD r k v
end
/-- flat data and their == -/
def flatD : D → Bool
  | .non | .bl _ | .int _ | .str _ => true
  | _ => false
def eqF : D → D → Bool
  | .non, .non => true
  | .bl a, .bl b => a == b
  | .bl a, .int b => (if a then 1 else 0) == b
  | .int a, .bl b => a == (if b then 1 else 0)
  | .int a, .int b => a == b
  | .str a, .str b => a == b
  | _, _ => false
def flatL : List D → Bool
  | [] => true
  | x :: r => flatD x && flatL r
def memF (x : D) : List D → Bool
  | [] => false
  | y :: r => eqF y x || memF x r
def inD (x : D) : D → Option Bool
  | .lst l => if flatD x && flatL l then some (memF x l) else
      match toPy x, toPyL l with
      | some p, some ps => if SeqAt.shaped p && SeqAt.shaped (.list ps) then some (ps.any fun z => PyData.eqv z p) else none
      | _, _ => none
  | .tup l => if flatD x && flatL l then some (memF x l) else none
  | .ctup l => if flatD x && flatL l then some (memF x l) else none
  | .dk l => match isKey x with
    | some k => some (hasK l k)
    | none => none
  | .dt l => match x with
    | .tup ks => (isKeys ks).map fun k => hasK l k
    | _ => none
  | _ => none
def isInts : List D → Option (List Int)
  | [] => some []
  | .int i :: r => (isInts r).map (i :: ·)
  | _ :: _ => none
def lexLt : List Int → List Int → Bool
  | [], [] => false
  | [], _ :: _ => true
  | _ :: _, [] => false
  | a :: r, b :: t => if a == b then lexLt r t else decide (a < b)
def isNon : D → Bool
  | .non => true
  | _ => false
def cmpD (o : CmpOp) (a b : D) : Option Bool := match o with
  | .Eq => eqD a b
  | .NotEq => (eqD a b).map (!·)
  | .Lt => match a, b with
    | .int i, .int j => some (decide (i < j))
    | _, _ => none
  | .LtE => match a, b with
    | .int i, .int j => some (decide (i ≤ j))
    | _, _ => none
  | .Gt => match a, b with
    | .int i, .int j => some (decide (j < i))
    | _, _ => none
  | .GtE => match a, b with
    | .int i, .int j => some (decide (j ≤ i))
    | _, _ => none
  | .Is => match b with
    | .non => some (isNon a)
    | _ => none
  | .IsNot => match b with
    | .non => some (!isNon a)
    | _ => none
  | .In => inD a b
  | .NotIn => (inD a b).map (!·)
def mulOk (i j : Int) : Bool := (decide (i.natAbs < 2 ^ 64) || decide (j.natAbs < 2 ^ 64)) || decide (i.natAbs.log2 + j.natAbs.log2 < 1000000)
def divOk (j : Int) : Bool := decide (0 < j) && (decide (j < 1073741824) || decide (j.natAbs.log2 < 9000))
def addD (a b : D) : Option D := match a, b with
  | .int i, .int j => some (.int (i + j))
  | .str i, .str j => if i.length + j.length ≤ sizeLine then some (.str (i ++ j)) else none
  | .lst l, .lst m => if l.length + m.length ≤ sizeLine then some (.lst (l ++ m)) else none
  | .tup l, .tup m => if l.length + m.length ≤ sizeLine then (if l.isEmpty then none else some (.tup (l ++ m))) else none
  | _, _ => none
def subD (a b : D) : Option D := match a, b with
  | .int i, .int j => some (.int (i - j))
  | _, _ => none
def mulD (a b : D) : Option D := match a, b with
  | .int i, .int j => if mulOk i j then some (.int (i * j)) else none
  | .lst l, .int k => if decide (-(2 ^ 63) ≤ k) && decide (k < 2 ^ 63) && decide (l.length * k.toNat ≤ sizeLine) then some (.lst (List.replicate k.toNat l).flatten) else none
  | _, _ => none
def fdivD (a b : D) : Option D := match a, b with
  | .int i, .int j => if divOk j then some (.int (i / j)) else none
  | _, _ => none
def modD (a b : D) : Option D := match a, b with
  | .int i, .int j => if 0 < j then some (.int (i % j)) else if j ≠ 0 then some (.int (i.fmod j)) else none
  | _, _ => none
def powD (a b : D) : Option D := match a, b with
  | .int i, .int j => if 0 ≤ j && decide (j ≤ 1000000) && decide (i.natAbs < 2 ^ 64) then some (.int (i ^ j.toNat)) else none
  | _, _ => none
def shlD (a b : D) : Option D := match a, b with
  | .int i, .int j => if 0 ≤ j && decide (j ≤ 1000000) && decide (i.natAbs < 2 ^ 64) then some (.int (i * 2 ^ j.toNat)) else none
  | _, _ => none
def shrD (a b : D) : Option D := match a, b with
  | .int i, .int j => if 0 ≤ j then some (.int (i / 2 ^ j.toNat)) else none
  | _, _ => none
def andD (a b : D) : Option D := match a, b with
  | .int i, .int j => some (.int (Builtin.bitAnd i j))
  | _, _ => none
def orD (a b : D) : Option D := match a, b with
  | .int i, .int j => some (.int (Builtin.bitOr i j))
  | _, _ => none
def op2D (o : Operator) (a b : D) : Option D := match o with
  | .Add => addD a b
  | .Sub => subD a b
  | .Mult => mulD a b
  | .FloorDiv => fdivD a b
  | .Mod => modD a b
  | .Pow => powD a b
  | .LShift => shlD a b
  | .RShift => shrD a b
  | .BitAnd => andD a b
  | .BitOr => orD a b
  | _ => none
/-- x op= y -/
def augD (o : Operator) (a b : D) : Option D := match o, a, b with
  | .Add, .int i, .int j => some (.int (i + j))
  | .Add, .str i, .str j => if i.length + j.length ≤ sizeLine then some (.str (i ++ j)) else none
  | .Sub, .int i, .int j => some (.int (i - j))
  | .Mult, .int i, .int j => if (decide (-(2 ^ 64) < i) && decide (i < 2 ^ 64)) || (decide (-(2 ^ 64) < j) && decide (j < 2 ^ 64)) then some (.int (i * j)) else none
  | .FloorDiv, .int i, .int j => if 0 < j ∧ j < 1073741824 then some (.int (i / j)) else none
  | .Mod, .int i, .int j => if 0 < j then some (.int (i % j)) else none
  | .RShift, .int i, .int j => if 0 ≤ j then some (.int (i / 2 ^ j.toNat)) else none
  | .BitAnd, .int i, .int j => some (.int (Builtin.bitAnd i j))
  | .BitOr, .int i, .int j => some (.int (Builtin.bitOr i j))
  | _, _, _ => none
/-- the depth at which a new value of an operation is owned -/
def dep : D → Nat
  | .lst _ | .dk _ | .dt _ => 1
  | _ => 0
def fr (d : D) : Sl := (d, dep d)
def lenD : D → Option Nat
  | .str s => if s.length ≤ sizeLine then some s.length else none
  | .tup l => some l.length
  | .ctup l => some l.length
  | .lst l => some l.length
  | .dk l => some l.length
  | .scr l => some l.length
  | _ => none
mutual
def noListP : PyData → Bool
  | .list _ => false
  | .tuple l => noListPs l
  | .dict l => noListPk l
  | _ => true
def noListPs : List PyData → Bool
  | [] => true
  | x :: r => noListP x && noListPs r
def noListPk : List (PyData × PyData) → Bool
  | [] => true
  | (x, y) :: r => noListP x && noListP y && noListPk r
end
def reprD (d : D) : Option Str := match toPy d with
  | some p => if p.showable && decide (p.depth ≤ 60) && decide (p.shown.length ≤ sizeLine) && (!p.hasDict || noListP p) then some p.shown else none
  | none => none
def isBls : List D → Option (List Bool)
  | [] => some []
  | .bl i :: r => (isBls r).map (i :: ·)
  | _ :: _ => none
def insertI (x : Int) : List Int → List Int
  | [] => [x]
  | y :: r => if x ≤ y then x :: y :: r else y :: insertI x r
def sortI : List Int → List Int
  | [] => []
  | x :: r => insertI x (sortI r)
def maxI (x : Int) : List Int → Int
  | [] => x
  | y :: r => maxI (if x < y then y else x) r
def minI (x : Int) : List Int → Int
  | [] => x
  | y :: r => minI (if y < x then y else x) r
def one (f : D → Option D) : List D → Option D
  | [x] => f x
  | _ => none
def lenB (x : D) : Option D := (lenD x).map fun n => .int (n : Nat)
def intB : D → Option D
  | .int i => some (.int i)
  | .bl b => some (.int (if b then 1 else 0))
  | _ => none
def boolB : D → Option D
  | .int i => some (.bl (i != 0))
  | .bl b => some (.bl b)
  | _ => none
def absB : D → Option D
  | .int i => some (.int (if i < 0 then -i else i))
  | _ => none
def maxB : List D → Option D
  | [.int i, .int j] => some (.int (if j > i then j else i))
  | [.lst l] => match isInts l with
    | some (x :: r) => some (.int (maxI x r))
    | _ => none
  | _ => none
def minB : List D → Option D
  | [.int i, .int j] => some (.int (if j < i then j else i))
  | [.lst l] => match isInts l with
    | some (x :: r) => some (.int (minI x r))
    | _ => none
  | _ => none
def sumB : D → Option D
  | .lst l => (isInts l).map fun ns => .int ns.sum
  | _ => none
def sortedB : D → Option D
  | .lst l => (isInts l).map fun ns => .lst ((sortI ns).map .int)
  | _ => none
def tupleB : D → Option D
  | .lst l => some (.tup l)
  | .tup l => some (.tup l)
  | .ctup l => some (.ctup l)
  | _ => none
def listB : D → Option D
  | .lst l => some (.lst l)
  | .tup l => some (.lst l)
  | .ctup l => some (.lst l)
  | .scr l => some (.lst (l.map .int))
  | _ => none
def reprB (x : D) : Option D := (reprD x).map .str
def strB : D → Option D
  | .int i => if i.natAbs.log2 < 1920 then some (.str (toString i)) else none
  | _ => none
def allB : D → Option D
  | .lst l => (isBls l).map fun bs => .bl (bs.all id)
  | _ => none
def anyB : D → Option D
  | .lst l => (isBls l).map fun bs => .bl (bs.any id)
  | _ => none
def bltD (f : Bn) (l : List D) : Option D := match f with
  | .len => one lenB l
  | .int => one intB l
  | .bool => one boolB l
  | .abs => one absB l
  | .max => maxB l
  | .min => minB l
  | .sum => one sumB l
  | .sorted => one sortedB l
  | .tuple => one tupleB l
  | .list => one listB l
  | .repr => one reprB l
  | .str => one strB l
  | .all => one allB l
  | .any => one anyB l
def getM (kvs : List (Key × D)) : List D → Option D
  | [k] => (isKey k).map fun k => (getK kvs k).getD .non
  | [k, x] => (isKey k).map fun k => (getK kvs k).getD x
  | _ => none
def mthD (m : Mn) (o : D) (l : List D) : Option D := match m, o with
  | .get, .dk kvs => getM kvs l
  | _, _ => none
/-- place of an index of any sign -/
def ixD (a b : D) : Option D := match a, b with
  | .lst l, .int i => atI l i
  | .tup l, .int i => atI l i
  | .ctup l, .int i => atI l i
  | .str s, .int i => if s.length ≤ sizeLine then (atI s.cps.toList i).map fun c => .str ⟨#[c]⟩ else none
  | .dk l, k => match isKey k with
    | some k => getK l k
    | none => none
  | .dt l, .tup ks => match isKeys ks with
    | some k => getK l k
    | none => none
  | _, _ => none
def cutD (l : List D) (lo hi : Option Int) : List D := (l.drop (HT.sIx l.length 0 lo)).take (HT.sIx l.length l.length hi - HT.sIx l.length 0 lo)
def slD (a : D) (lo hi : Option Int) : Option D := match a with
  | .lst l => some (.lst (cutD l lo hi))
  | .tup l => some (.tup (cutD l lo hi))
  | .scr l => some (.lst (cutD (l.map .int) lo hi))
  | _ => none
def revD (a : D) : Option D := match a with
  | .lst l => some (.lst l.reverse)
  | _ => none
def tyD : D → Option String
  | .non => some "NoneType"
  | .bl _ => some "bool"
  | .int _ => some "int"
  | .str _ => some "str"
  | .tup _ => some "tuple"
  | .ctup _ => some "tuple"
  | .lst _ => some "list"
  | .dk _ => some "dict"
  | _ => none
def Ty.nm : Ty → String
  | .int => "int" | .bool => "bool" | .str => "str" | .list => "list" | .tuple => "tuple" | .dict => "dict"
def isinD (a : D) (t : Ty) : Option Bool := match t, a with
  | .int, .int _ => some true
  | .int, .bl _ => some true
  | .bool, .bl _ => some true
  | .str, .str _ => some true
  | .list, .lst _ => some true
  | .tuple, .tup _ => some true
  | .tuple, .ctup _ => some true
  | .dict, .dk _ => some true
  | _, a => (tyD a).map fun _ => false
/-- a method that changes a container: its value, the container behind it; the receiver owned to the depth n -/
def mutD (m : Mm) (o : D) (n : Nat) (l : List Sl) : Option (Sl × D) := match m, o, l with
  | .append, .lst xs, [x] => if xs.length < sizeLine && hasd (n - 1) x then some ((.non, 0), .lst (xs ++ [x.1])) else none
  | .pop, .lst xs, [] => (xs[xs.length - 1]?).map fun y => ((y, n - 1), .lst xs.dropLast)
  | .pop, .lst xs, [(.int i, _)] => match ixN xs.length i with
    | some j => (xs[j]?).map fun y => ((y, n - 1), .lst (xs.eraseIdx j))
    | none => none
  | .extend, .lst xs, [(.lst ys, k)] => if xs.length + ys.length ≤ sizeLine && (n == 1 || decide (n ≤ k) || immL ys) then some ((.non, 0), .lst (xs ++ ys)) else none
  | .setdefault, .dk kvs, [(k, _), x] => match isKey k with
    | some k => match getK kvs k with
      | some y => if n == 1 then some ((y, 0), .dk kvs) else none
      | none => if kvs.length < sizeLine && imm x.1 then some ((x.1, 0), .dk (kvs ++ [(k, x.1)])) else none
    | none => none
  | _, _, _ => none
/-- o[i] = v -/
def setD (o : D) (n : Nat) (i : D) (v : Sl) : Option D := match o, i with
  | .lst xs, .int k => match ixN xs.length k with
    | some j => if hasd (n - 1) v then some (.lst (xs.set j v.1)) else none
    | none => none
  | .dk l, k => match isKey k with
    | some k => if l.length < sizeLine && hasd (n - 1) v then some (.dk (putD l k v.1)) else none
    | none => none
  | _, _ => none

def kndD : Option Sl → Nat
  | some (.lst _, _) => 1
  | some (.dk _, _) => 2
  | _ => 0
def kndK : Option Sl → Str → Nat
  | some (.dk kvs, _), key => match getK kvs (.inr key) with
    | some d => kndD (some (d, 0))
    | none => 0
  | _, _ => 0
def mmK : Mm → Nat
  | .setdefault => 2
  | _ => 1
structure Cf where
  call : Str → List Sl → Cr
  con : List D
  fuel : Nat

def setT (tg : Tg) (d : D) (ρ : Env) : Option Env := match tg with
  | .nm i => some (st ρ i (some (d, 0)))
  | .tp l => match d with
    | .tup ds => go l ds ρ
    | _ => none
where
  go : List Nat → List D → Env → Option Env
    | [], [], ρ => some ρ
    | i :: is, x :: xs, ρ => go is xs (st ρ i (some (x, 0)))
    | _, _, _ => none
def lcL (f : D → Env → Rs (Option D)) : List D → Env → Rs (List D)
  | [], ρ => .ok [] ρ
  | x :: xs, ρ => (f x ρ).bind fun y ρ1 => (lcL f xs ρ1).bind fun ys ρ2 => .ok (match y with | some z => z :: ys | none => ys) ρ2
/-- an argument: a value, or a name whose object is lent -/
inductive Ar where
  | val (s : Sl)
  | ln (i : Nat)
def valsA : List Ar → Option (List Sl)
  | [] => some []
  | .val s :: r => (valsA r).map (s :: ·)
  | .ln _ :: _ => none
/-- the lent objects are taken out of their slots -/
def resolveA : List Ar → Env → Option (List Sl × Env)
  | [], ρ => some ([], ρ)
  | .val s :: r, ρ => match resolveA r ρ with
    | some (xs, ρ') => some (s :: xs, ρ')
    | none => none
  | .ln i :: r, ρ => match gt ρ i with
    | some s => match resolveA r (st ρ i none) with
      | some (xs, ρ') => some (s :: xs, ρ')
      | none => none
    | none => none
def demL (l : List Sl) : List D := l.map (·.1)
def selL {α : Type} (l : List α) : List Nat → List α
  | [] => l
  | ks => ks.filterMap fun k => l[k]?
def backsTo (outs : List (Option Sl)) (ρ : Env) : List (Nat × Nat) → Env
  | [] => ρ
  | (i, j) :: r => backsTo outs (st ρ i ((outs[j]?).getD none)) r
def pairsK : List D → Option (List (Key × D))
  | [] => some []
  | k :: v :: r => match isKey k, pairsK r with
    | some k, some ps => some ((k, v) :: ps)
    | _, _ => none
  | _ => none
def mergeD {κ α : Type} [DecidableEq κ] (acc : List (κ × α)) : List (κ × α) → List (κ × α)
  | [] => acc
  | (k, v) :: r => mergeD (putD acc k v) r
/-- the ints of a range -/
def rngD (a b : D) : Option (List D) := match a, b with
  | .int a, .int b => if decide (-(2 ^ 62) ≤ a) && decide (a < 2 ^ 62) && decide (-(2 ^ 62) ≤ b) && decide (b < 2 ^ 62) then
      some ((List.range (b - a).toNat).map fun k => .int (a + (k : Nat))) else none
  | _, _ => none
/-- the ints of a range with a step -/
def rng3D (a b c : D) : Option (List D) := match a, b, c with
  | .int i, .int j, .int k => if decide (k ≠ 0) && decide (k.natAbs < 1073741824) && Builtin.Range.small i j k && decide (0 ≤ Builtin.Range.rangeSize i j k) then
      some ((List.range (Builtin.Range.rangeSize i j k).toNat).map fun n => .int (i + (n : Nat) * k)) else none
  | _, _, _ => none
/-- the items with their places -/
def enumD (l : List D) : List D := l.zipIdx.map fun p => .tup [.int (p.2 : Nat), p.1]
def itemsD : D → Option (List D)
  | .lst l => some l
  | .tup l => some l
  | .ctup l => some l
  | .scr l => some (l.map .int)
  | _ => none

mutual
def ev (cf : Cf) : Ex → Env → Rs Sl
  | .var i, ρ => match gt ρ i with
    | some s => .ok (s.1, 0) (st ρ i (some (s.1, 0)))
    | none => .stk
  | .mv i, ρ => match gt ρ i with
    | some s => .ok s (st ρ i none)
    | none => .stk
  | .q e, ρ => (ev cf e ρ).bind fun s ρ1 => .ok s (if nofz s.2 s.1 then ρ else ρ1)
  | .int i, ρ => .ok (.int i, 0) ρ
  | .bl b, ρ => .ok (.bl b, 0) ρ
  | .non, ρ => .ok (.non, 0) ρ
  | .str s, ρ => .ok (.str s, 0) ρ
  | .con j, ρ => (Rs.of cf.con[j]? ρ).bind fun d ρ1 => .ok (d, 0) ρ1
  | .op2 o a b, ρ => (ev cf a ρ).bind fun x ρ1 => (ev cf b ρ1).bind fun y ρ2 => (Rs.of (op2D o x.1 y.1) ρ2).bind fun d ρ3 => .ok (fr d) ρ3
  | .neg a, ρ => (ev cf a ρ).bind fun x ρ1 => match x.1 with
    | .int i => .ok (.int (-i), 0) ρ1
    | _ => .stk
  | .not a, ρ => (ev cf a ρ).bind fun x ρ1 => (Rs.of (truthD x.1) ρ1).bind fun b ρ2 => .ok (.bl (!b), 0) ρ2
  | .cmp o a b, ρ => (ev cf a ρ).bind fun x ρ1 => (ev cf b ρ1).bind fun y ρ2 => (Rs.of (cmpD o x.1 y.1) ρ2).bind fun d ρ3 => .ok (.bl d, 0) ρ3
  | .chain o o' a b c, ρ => (ev cf a ρ).bind fun x ρ1 => (ev cf b ρ1).bind fun y ρ2 => (Rs.of (cmpD o x.1 y.1) ρ2).bind fun d ρ3 =>
      if d then (ev cf c ρ3).bind fun z ρ4 => (Rs.of (cmpD o' y.1 z.1) ρ4).bind fun d' ρ5 => .ok (.bl d', 0) ρ5 else .ok (.bl false, 0) ρ3
  | .and a b, ρ => (ev cf a ρ).bind fun x ρ1 => match x.1 with
    | .bl true => ev cf b ρ1
    | .bl false => .ok (.bl false, 0) ρ1
    | _ => .stk
  | .or a b, ρ => (ev cf a ρ).bind fun x ρ1 => match x.1 with
    | .bl true => .ok (.bl true, 0) ρ1
    | .bl false => ev cf b ρ1
    | _ => .stk
  | .ite c a b, ρ => (evT cf c ρ).bind fun t ρ1 => if t then ev cf a ρ1 else ev cf b ρ1
  | .tup k l, ρ => ((evA cf l ρ).bind fun as ρa => Rs.of (valsA as) ρa).bind fun xs ρ1 => if xs.all (hasd k) && decide (xs.length ≤ sizeLine) then .ok (.tup (demL xs), k) ρ1 else .stk
  | .lst k l, ρ => ((evA cf l ρ).bind fun as ρa => Rs.of (valsA as) ρa).bind fun xs ρ1 => if xs.all (hasd k) && decide (xs.length ≤ sizeLine) then .ok (.lst (demL xs), k + 1) ρ1 else .stk
  | .dict k l, ρ => ((evA cf l ρ).bind fun as ρa => Rs.of (valsA as) ρa).bind fun xs ρ1 => if xs.all (hasd k) && decide (xs.length ≤ 30) then
      (match pairsK (demL xs) with | some ps => .ok (.dk (mergeD [] ps), k + 1) ρ1 | none => .stk) else .stk
  | .ix a b, ρ => (ev cf a ρ).bind fun x ρ1 => (ev cf b ρ1).bind fun y ρ2 => (Rs.of (ixD x.1 y.1) ρ2).bind fun d ρ3 => .ok (d, 0) ρ3
  | .fld a f, ρ => (ev cf a ρ).bind fun x ρ1 => match x.1 with
    | .ins _ fs => (Rs.of (fs.lookup f) ρ1).bind fun d ρ2 => .ok (d, 0) ρ2
    | _ => .stk
  | .sl a lo hi, ρ => (ev cf a ρ).bind fun x ρ1 => (evO cf lo ρ1).bind fun l ρ2 => (evO cf hi ρ2).bind fun h ρ3 => (Rs.of (slD x.1 l h) ρ3).bind fun d ρ4 => .ok (fr d) ρ4
  | .rev a, ρ => (ev cf a ρ).bind fun x ρ1 => (Rs.of (revD x.1) ρ1).bind fun d ρ2 => .ok (fr d) ρ2
  | .call f args sel backs, ρ => (evA cf args ρ).bind fun as ρ0 => match resolveA as ρ0 with
    | some (xs, ρ1) => if backs.all (fun p => (gt ρ1 p.1).isNone) then (match cf.call f (selL xs sel) with
      | .stk => .stk
      | .ok v outs => .ok v (backsTo outs ρ1 backs)
      | .ex e outs => .ex e (backsTo outs ρ1 backs)) else .stk
    | none => .stk
  | .blt f args, ρ => ((evA cf args ρ).bind fun as ρa => Rs.of (valsA as) ρa).bind fun xs ρ1 => (Rs.of (bltD f (demL xs)) ρ1).bind fun d ρ2 => .ok (fr d) ρ2
  | .mth m o args, ρ => (ev cf o ρ).bind fun x ρ1 => ((evA cf args ρ1).bind fun as ρa => Rs.of (valsA as) ρa).bind fun xs ρ2 => (Rs.of (mthD m x.1 (demL xs)) ρ2).bind fun d ρ3 => .ok (d, 0) ρ3
  | .mutv m i args, ρ => if kndD (gt ρ i) != mmK m then .stk else ((evA cf args ρ).bind fun as ρa => Rs.of (valsA as) ρa).bind fun xs ρ1 => match gt ρ1 i with
    | some (d, n + 1) => match mutD m d (n + 1) xs with
      | some (v, d') => .ok v (st ρ1 i (some (d', n + 1)))
      | none => .stk
    | _ => .stk
  | .mutk m i key args, ρ => if kndK (gt ρ i) key != mmK m then .stk else ((evA cf args ρ).bind fun as ρa => Rs.of (valsA as) ρa).bind fun xs ρ1 => match gt ρ1 i with
    | some (.dk kvs, n + 2) => match getK kvs (.inr key) with
      | some d => match mutD m d (n + 1) xs with
        | some (v, d') => .ok v (st ρ1 i (some (.dk (putD kvs (.inr key) d'), n + 2)))
        | none => .stk
      | none => .stk
    | _ => .stk
  | .lc k own elt tg it cnd, ρ => (evI cf it ρ).bind fun xs ρ1 =>
      (lcL (fun x ρ => match setT tg x ρ with
        | none => .stk
        | some ρ2 => (evT cf cnd ρ2).bind fun t ρ3 => if t then
            (ev cf elt ρ3).bind fun s ρ4 => if hasd k s then .ok (some s.1) (wp ρ4 own) else .stk
          else .ok none (wp ρ3 own)) xs (wp ρ1 own)).bind fun ys ρ5 => if ys.length ≤ sizeLine then .ok (.lst ys, k + 1) (rst ρ1 ρ5 own) else .stk
  | .lrng1 a, ρ => (ev cf a ρ).bind fun x ρ1 => (Rs.of (rngD (.int 0) x.1) ρ1).bind fun l ρ2 => if l.length ≤ 2 ^ 24 then .ok (.lst l, 1) ρ2 else .stk
  | .lrng2 a b, ρ => (ev cf a ρ).bind fun x ρ1 => (ev cf b ρ1).bind fun y ρ2 => (Rs.of (rngD x.1 y.1) ρ2).bind fun l ρ3 => if l.length ≤ 2 ^ 24 then .ok (.lst l, 1) ρ3 else .stk
  | .isin a t, ρ => (ev cf a ρ).bind fun x ρ1 => (Rs.of (isinD x.1 t) ρ1).bind fun b ρ2 => .ok (.bl b, 0) ρ2
  | _, _ => .stk
def evA (cf : Cf) : Ex → Env → Rs (List Ar)
  | .nil, ρ => .ok [] ρ
  | .cons (.lend i) r, ρ => if (gt ρ i).isSome then (evA cf r ρ).bind fun xs ρ2 => .ok (.ln i :: xs) ρ2 else .stk
  | .cons a r, ρ => (ev cf a ρ).bind fun x ρ1 => (evA cf r ρ1).bind fun xs ρ2 => .ok (.val x :: xs) ρ2
  | _, _ => .stk
def evO (cf : Cf) : Ex → Env → Rs (Option Int)
  | .nil, ρ => .ok none ρ
  | .ival a, ρ => (ev cf a ρ).bind fun x ρ1 => match x.1 with
    | .int i => .ok (some i) ρ1
    | _ => .stk
  | _, _ => .stk
def evT (cf : Cf) : Ex → Env → Rs Bool
  | .tyes, ρ => .ok true ρ
  | .tnot a, ρ => (evT cf a ρ).bind fun b ρ1 => .ok (!b) ρ1
  | .tand a b, ρ => (evT cf a ρ).bind fun x ρ1 => if x then evT cf b ρ1 else .ok false ρ1
  | .tor a b, ρ => (evT cf a ρ).bind fun x ρ1 => if x then .ok true ρ1 else evT cf b ρ1
  | .tval a, ρ => (ev cf a ρ).bind fun x ρ1 => Rs.of (truthD x.1) ρ1
  | .tq a, ρ => (evT cf a ρ).bind fun b _ => .ok b ρ
  | .tcmp o a b, ρ => (ev cf a ρ).bind fun x ρ1 => (ev cf b ρ1).bind fun y ρ2 => Rs.of (cmpD o x.1 y.1) ρ2
  | .tchain o o' a b c, ρ => (ev cf a ρ).bind fun x ρ1 => (ev cf b ρ1).bind fun y ρ2 => (Rs.of (cmpD o x.1 y.1) ρ2).bind fun d ρ3 =>
      if d then (ev cf c ρ3).bind fun z ρ4 => Rs.of (cmpD o' y.1 z.1) ρ4 else .ok false ρ3
  | _, _ => .stk
def evI (cf : Cf) : Ex → Env → Rs (List D)
  | .ival a, ρ => (ev cf a ρ).bind fun x ρ1 => Rs.of (itemsD x.1) ρ1
  | .irng1 a, ρ => (ev cf a ρ).bind fun x ρ1 => Rs.of (rngD (.int 0) x.1) ρ1
  | .irng2 a b, ρ => (ev cf a ρ).bind fun x ρ1 => (ev cf b ρ1).bind fun y ρ2 => Rs.of (rngD x.1 y.1) ρ2
  | .irng3 a b c, ρ => (ev cf a ρ).bind fun x ρ1 => (ev cf b ρ1).bind fun y ρ2 => (ev cf c ρ2).bind fun z ρ3 => Rs.of (rng3D x.1 y.1 z.1) ρ3
  | .ienum a, ρ => (ev cf a ρ).bind fun x ρ1 => match x.1 with
    | .lst l => .ok (enumD l) ρ1
    | .tup l => .ok (enumD l) ρ1
    | _ => .stk
  | .izip a b, ρ => (ev cf a ρ).bind fun x ρ1 => (ev cf b ρ1).bind fun y ρ2 => (Rs.of (itemsD x.1) ρ2).bind fun l ρ3 => (Rs.of (itemsD y.1) ρ3).bind fun m ρ4 =>
      .ok (List.zipWith (fun u v => .tup [u, v]) l m) ρ4
  | _, _ => .stk
end

/-! ### statements -/
inductive Sm where
  | skip | seq (a b : Sm)
  | expr (e : Ex) | asg (t : Tg) (e : Ex) | par (l : List Nat) (e : Ex)
  | aug (i : Nat) (o : Operator) (e : Ex)
  | setix (i : Nat) (k e : Ex) | augix (i : Nat) (k : Ex) (o : Operator) (e : Ex)
  | ret (e : Ex) | retn | ifs (c : Ex) (a b : Sm) | whl (c : Ex) (b : Sm) | fors (hide : Option Nat) (t : Tg) (it : Ex) (b : Sm)
  | brk | cnt | never
  /-- behind an __init__: the new instance (its slot is the first) -/
  | mkins (c : Str) (fs : List (Str × Nat))
inductive Fl where
  | nx | bk | ct | rt (v : Sl)
def forL (f : D → Env → Rs Fl) : List D → Env → Rs Fl
  | [], ρ => .ok .nx ρ
  | x :: xs, ρ => (f x ρ).bind fun fl ρ1 => match fl with
    | .nx => forL f xs ρ1
    | .ct => forL f xs ρ1
    | .bk => .ok .nx ρ1
    | .rt v => .ok (.rt v) ρ1
def whileL (c : Env → Rs Bool) (f : Env → Rs Fl) : Nat → Env → Rs Fl
  | 0, _ => .stk
  | n + 1, ρ => (c ρ).bind fun b ρ1 => if b then (f ρ1).bind fun fl ρ2 => (match fl with
      | .nx => whileL c f n ρ2
      | .ct => whileL c f n ρ2
      | .bk => .ok .nx ρ2
      | .rt v => .ok (.rt v) ρ2) else .ok .nx ρ1
def setAll : List Nat → List Sl → Env → Option Env
  | [], [], ρ => some ρ
  | i :: is, x :: xs, ρ => setAll is xs (st ρ i (some x))
  | _, _, _ => none
def fldsOf : List (Str × Nat) → Env → Option (List (Str × D))
  | [], _ => some []
  | (f, j) :: r, ρ => match gt ρ j, fldsOf r ρ with
    | some (d, _), some l => if flatD d then some ((f, d) :: l) else none
    | _, _ => none
/-- an __init__'s body -/
def isMk : Sm → Bool
  | .seq _ b => isMk b
  | .mkins _ _ => true
  | _ => false
def exec (cf : Cf) : Sm → Env → Rs Fl
  | .skip, ρ => .ok .nx ρ
  | .seq a b, ρ => (exec cf a ρ).bind fun fl ρ1 => match fl with
    | .nx => exec cf b ρ1
    | fl => .ok fl ρ1
  | .expr e, ρ => (ev cf e ρ).bind fun _ ρ1 => .ok .nx ρ1
  | .asg (.nm i) e, ρ => (ev cf e ρ).bind fun x ρ1 => .ok .nx (st ρ1 i (some x))
  | .asg t e, ρ => (ev cf e ρ).bind fun x ρ1 => (Rs.of (setT t x.1 ρ1) ρ1).bind fun ρ2 _ => .ok .nx ρ2
  | .par l e, ρ => ((evA cf e ρ).bind fun as ρa => Rs.of (valsA as) ρa).bind fun xs ρ1 => (Rs.of (setAll l xs ρ1) ρ1).bind fun ρ2 _ => .ok .nx ρ2
  | .aug i o e, ρ => match gt ρ i with
    | some (x, _) => if flatD x then (ev cf e ρ).bind fun y ρ1 => (Rs.of (augD o x y.1) ρ1).bind fun d ρ2 => .ok .nx (st ρ2 i (some (d, 0))) else .stk
    | _ => .stk
  | .setix i k e, ρ => (ev cf e ρ).bind fun v ρ1 => if (gt ρ1 i).isNone then .stk else (ev cf k ρ1).bind fun kk ρ2 => match gt ρ2 i with
    | some (d, n + 1) => match setD d (n + 1) kk.1 v with
      | some d' => .ok .nx (st ρ2 i (some (d', n + 1)))
      | none => .stk
    | _ => .stk
  | .augix i k o e, ρ => if (gt ρ i).isNone then .stk else (ev cf k ρ).bind fun kk ρ1 => match gt ρ1 i, kk.1 with
    | some (.lst l, _), .int j => match atI l j with
      | some (.int x) => if 0 ≤ j then (ev cf e ρ1).bind fun y ρ2 => match gt ρ2 i, augD o (.int x) y.1 with
        | some (d, n + 1), some (.int z) => match setD d (n + 1) (.int j) (.int z, 0) with
          | some d' => .ok .nx (st ρ2 i (some (d', n + 1)))
          | none => .stk
        | _, _ => .stk
        else .stk
      | _ => .stk
    | _, _ => .stk
  | .ret e, ρ => (ev cf e ρ).bind fun x ρ1 => .ok (.rt x) ρ1
  | .retn, ρ => .ok (.rt (.non, 0)) ρ
  | .ifs c a b, ρ => (evT cf c ρ).bind fun t ρ1 => if t then exec cf a ρ1 else exec cf b ρ1
  | .whl c b, ρ => whileL (evT cf c) (exec cf b) cf.fuel ρ
  | .fors hide t it b, ρ => (evI cf it ρ).bind fun xs ρ1 => match hide with
    | none => forL (fun x ρ => match setT t x ρ with | some ρ2 => exec cf b ρ2 | none => .stk) xs ρ1
    | some i => if immL xs then
        (forL (fun x ρ => match setT t x ρ with | some ρ2 => exec cf b ρ2 | none => .stk) xs (st ρ1 i none)).bind fun fl ρ3 => .ok fl (st ρ3 i (gt ρ i))
      else .stk
  | .brk, ρ => .ok .bk ρ
  | .cnt, ρ => .ok .ct ρ
  | .never, _ => .stk
  | .mkins c fs, ρ => match fldsOf fs ρ with
    | some l => .ok (.rt (.ins c l, 0)) ρ
    | none => .stk

/-- a def: parameters, slots, the parameters that go back, the body -/
structure Df where
  np : Nat
  nl : Nat
  io : List Nat
  body : Sm
def outsOf (df : Df) (ρ : Env) : List (Option Sl) := (List.range df.np).map fun j => if df.io.contains j then gt ρ j else none
def runDf (cf : Cf) (df : Df) (args : List Sl) : Cr := if args.length = df.np then
    match exec cf df.body (args.map some ++ List.replicate (df.nl - df.np) none) with
    | .ok (.rt v) ρ => .ok v (outsOf df ρ)
    | .ok .nx ρ => .ok (.non, 0) (outsOf df ρ)
    | .ok _ _ => .stk
    | .ex e ρ => .ex e (outsOf df ρ)
    | .stk => .stk
  else .stk
/-- a class's call: np counts the parameters without self -/
def runCl (cf : Cf) (df : Df) (args : List Sl) : Cr := if args.length = df.np then
    match exec cf df.body (none :: (args.map some ++ List.replicate (df.nl - df.np - 1) none)) with
    | .ok (.rt v) _ => .ok v (List.replicate df.np none)
    | _ => .stk
  else .stk
def callN (defs : List (Str × Df)) (con : List D) (fuel : Nat) : Nat → Str → List Sl → Cr
  | 0 => fun _ _ => .stk
  | k + 1 => fun f args => match defs.lookup f with
    | some df => if isMk df.body then (match k with
      | 0 => .stk
      | k' + 1 => runCl ⟨callN defs con fuel k', con, fuel⟩ df args) else runDf ⟨callN defs con fuel k, con, fuel⟩ df args
    | none => .stk
end Pi
/-! Pi1: how a datum lies in the abstract heap. -/
namespace Pi
open PySem L2

/-- a list of the written part -/
def KL (K : PySem.W.Frag) (a : Addr) (xs : List V) : Prop :=
  ∃ (o : Obj) (its : Array Value) (n : Nat), K.lookup a = some o ∧ o.cls = .type "list" ∧ o.dict = none ∧ o.data = .seq its n ∧ its.size ≤ sizeLine ∧ Vals xs its.toList

/-- flat data as values -/
def FlatV : D → V → Prop
  | .non, v => v = .non
  | .bl b, v => v = .bl b
  | .int i, v => v = .int i
  | .str s, v => v = .str s
  | _, _ => False
/-- an instance of the class c (a global name of the program) at C with flat fields -/
structure InsOk (K : PySem.W.Frag) (c : Str) (C : Addr) (fs : List (Str × D)) (vs : List (Str × V)) : Prop where
  at_ : PySem.W.nsIn K mainGlobals c = some (some (.ref C))
  cls : Cls K C
  fld : ∀ f d, fs.lookup f = some d → NoAttr K C f ∧ ∃ v, vs.lookup f = some v ∧ FlatV d v

section
variable (K : PySem.W.Frag) (H : Hp)
mutual
def Rep : D → Nat → V → List Addr → List Addr → Prop
  | .non, _, v, fp, fz => v = .non ∧ fp = [] ∧ fz = []
  | .bl b, _, v, fp, fz => v = .bl b ∧ fp = [] ∧ fz = []
  | .int i, _, v, fp, fz => v = .int i ∧ fp = [] ∧ fz = []
  | .str s, _, v, fp, fz => v = .str s ∧ fp = [] ∧ fz = []
  | .ty n, _, v, fp, fz => v = .ty n ∧ fp = [] ∧ fz = []
  | .tup l, n, v, fp, fz => ∃ a vs, v = .ref a ∧ H a = some (.tup vs) ∧ RepL l n vs fp fz
  | .ctup l, n, v, fp, fz => ∃ a vs, v = .ref a ∧ SqT K H a vs ∧ RepL l n vs fp fz
  | .lst l, n, v, fp, fz => ∃ a vs f z, v = .ref a ∧ RepL l (n - 1) vs f z ∧
      ((n = 0 ∧ H a = some (.lst vs) ∧ fp = f ∧ fz = a :: z) ∨ (n ≠ 0 ∧ H a = some (.lst vs) ∧ fp = a :: f ∧ fz = z))
  | .dk l, n, v, fp, fz => ∃ a kvs f z, v = .ref a ∧ RepK l (n - 1) kvs f z ∧
      ((n = 0 ∧ Rd H a (.dK kvs) ∧ fp = f ∧ fz = a :: z) ∨ (n ≠ 0 ∧ H a = some (.dK kvs) ∧ fp = a :: f ∧ fz = z))
  | .dt l, n, v, fp, fz => ∃ a kvs f z, v = .ref a ∧ RepT l (n - 1) kvs f z ∧
      ((n = 0 ∧ Rd H a (.dT kvs) ∧ fp = f ∧ fz = a :: z) ∨ (n ≠ 0 ∧ H a = some (.dT kvs) ∧ fp = a :: f ∧ fz = z))
  | .ins c fs, _, v, fp, fz => ∃ a C dx vs, v = .ref a ∧ fp = [] ∧ fz = [a] ∧ H a = some (.ins C dx vs) ∧ InsOk K c C fs vs
  | .scr l, _, v, fp, fz => ∃ a, v = .ref a ∧ fp = [] ∧ ((Rd H a (.lst (l.map .int)) ∧ fz = [a]) ∨ (KL K a (l.map .int) ∧ fz = []))
def RepL : List D → Nat → List V → List Addr → List Addr → Prop
  | [], _, vs, fp, fz => vs = [] ∧ fp = [] ∧ fz = []
  | d :: ds, n, vs, fp, fz => ∃ v vs' f1 f2 z1 z2, vs = v :: vs' ∧ fp = f1 ++ f2 ∧ fz = z1 ++ z2 ∧ Rep d n v f1 z1 ∧ RepL ds n vs' f2 z2
def RepK : List (Key × D) → Nat → List (Key × V) → List Addr → List Addr → Prop
  | [], _, vs, fp, fz => vs = [] ∧ fp = [] ∧ fz = []
  | (k, d) :: ds, n, vs, fp, fz => ∃ v vs' f1 f2 z1 z2, vs = (k, v) :: vs' ∧ fp = f1 ++ f2 ∧ fz = z1 ++ z2 ∧ Rep d n v f1 z1 ∧ RepK ds n vs' f2 z2
def RepT : List (List Key × D) → Nat → List (List Key × V) → List Addr → List Addr → Prop
  | [], _, vs, fp, fz => vs = [] ∧ fp = [] ∧ fz = []
  | (k, d) :: ds, n, vs, fp, fz => ∃ v vs' f1 f2 z1 z2, vs = (k, v) :: vs' ∧ fp = f1 ++ f2 ∧ fz = z1 ++ z2 ∧ Rep d n v f1 z1 ∧ RepT ds n vs' f2 z2
end
end

/-- what is not in W, and what can't be written, stands as before -/
def Stay (W : List Addr) (H H' : Hp) : Prop := ∀ a o, H a = some o → (a ∈ W → ¬ Mut (some o)) → H' a = some o
theorem Stay.refl (W : List Addr) (H : Hp) : Stay W H H := fun _ _ h _ => h
theorem Stay.mono {W W' : List Addr} {H H' : Hp} (s : Stay W H H') (h : ∀ a ∈ W, a ∈ W') : Stay W' H H' := fun a o e n => s a o e fun m => n (h a m)
theorem Stay.some {W : List Addr} {H H' : Hp} (s : Stay W H H') {a : Addr} (h : H' a = none) : H a = none ∨ a ∈ W := by
  by_cases m : a ∈ W
  · exact .inr m
  · cases e : H a with
    | none => exact .inl rfl
    | some o => have := s a o e (fun z => absurd z m); rw [h] at this; cases this
theorem Stay.rd {W : List Addr} {H H' : Hp} (s : Stay W H H') {a : Addr} {u : HO} (r : Rd H a u) (m : a ∉ W) : Rd H' a u := by
  rcases r with r | ⟨o, r⟩
  · exact .inl (s a _ r fun z => absurd z m)
  · exact .inr ⟨o, s a _ r fun z => absurd z m⟩
theorem Stay.sqt {K : PySem.W.Frag} {W : List Addr} {H H' : Hp} (s : Stay W H H') {a : Addr} {xs : List V} (r : SqT K H a xs) : SqT K H' a xs := by
  rcases r with (r | ⟨o, r⟩) | r
  · exact .inl (.inl (s a _ r fun _ => id))
  · exact .inl (.inr ⟨o, s a _ r fun _ => id⟩)
  · exact .inr r

section
variable {K : PySem.W.Frag} {H H' : Hp} {W : List Addr}
mutual
theorem Rep.stay (s : Stay W H H') : ∀ (d : D) (n : Nat) (v : V) (fp fz : List Addr), Rep K H d n v fp fz → (∀ a ∈ fp, a ∉ W) → (∀ a ∈ fz, a ∉ W) → Rep K H' d n v fp fz
  | .non, _, _, _, _, r, _, _ => by simpa only [Rep] using r
  | .bl _, _, _, _, _, r, _, _ => by simpa only [Rep] using r
  | .int _, _, _, _, _, r, _, _ => by simpa only [Rep] using r
  | .str _, _, _, _, _, r, _, _ => by simpa only [Rep] using r
  | .ty _, _, _, _, _, r, _, _ => by simpa only [Rep] using r
  | .tup l, n, v, fp, fz, r, h1, h2 => by
    simp only [Rep] at r ⊢
    obtain ⟨a, vs, e, q, r⟩ := r
    exact ⟨a, vs, e, s a _ q (fun _ => id), RepL.stay s l n vs fp fz r h1 h2⟩
  | .ctup l, n, v, fp, fz, r, h1, h2 => by
    simp only [Rep] at r ⊢
    obtain ⟨a, vs, e, q, r⟩ := r
    exact ⟨a, vs, e, s.sqt q, RepL.stay s l n vs fp fz r h1 h2⟩
  | .lst l, n, v, fp, fz, r, h1, h2 => by
    simp only [Rep] at r ⊢
    obtain ⟨a, vs, f, z, e, r, q⟩ := r
    refine ⟨a, vs, f, z, e, ?_, ?_⟩
    · refine RepL.stay s l (n - 1) vs f z r (fun b hb => h1 b ?_) (fun b hb => h2 b ?_)
      · rcases q with ⟨_, _, e1, _⟩ | ⟨_, _, e1, _⟩ <;> rw [e1]
        · exact hb
        · exact List.mem_cons_of_mem _ hb
      · rcases q with ⟨_, _, _, e1⟩ | ⟨_, _, _, e1⟩ <;> rw [e1]
        · exact List.mem_cons_of_mem _ hb
        · exact hb
    · rcases q with ⟨e0, q, e1, e2⟩ | ⟨e0, q, e1, e2⟩
      · exact .inl ⟨e0, s a _ q (fun m => absurd m (h2 a (by rw [e2]; exact List.mem_cons_self))), e1, e2⟩
      · exact .inr ⟨e0, s a _ q (fun m => absurd m (h1 a (by rw [e1]; exact List.mem_cons_self))), e1, e2⟩
  | .dk l, n, v, fp, fz, r, h1, h2 => by
    simp only [Rep] at r ⊢
    obtain ⟨a, vs, f, z, e, r, q⟩ := r
    refine ⟨a, vs, f, z, e, ?_, ?_⟩
    · refine RepK.stay s l (n - 1) vs f z r (fun b hb => h1 b ?_) (fun b hb => h2 b ?_)
      · rcases q with ⟨_, _, e1, _⟩ | ⟨_, _, e1, _⟩ <;> rw [e1]
        · exact hb
        · exact List.mem_cons_of_mem _ hb
      · rcases q with ⟨_, _, _, e1⟩ | ⟨_, _, _, e1⟩ <;> rw [e1]
        · exact List.mem_cons_of_mem _ hb
        · exact hb
    · rcases q with ⟨e0, q, e1, e2⟩ | ⟨e0, q, e1, e2⟩
      · exact .inl ⟨e0, s.rd q (h2 a (by rw [e2]; exact List.mem_cons_self)), e1, e2⟩
      · exact .inr ⟨e0, s a _ q (fun m => absurd m (h1 a (by rw [e1]; exact List.mem_cons_self))), e1, e2⟩
  | .dt l, n, v, fp, fz, r, h1, h2 => by
    simp only [Rep] at r ⊢
    obtain ⟨a, vs, f, z, e, r, q⟩ := r
    refine ⟨a, vs, f, z, e, ?_, ?_⟩
    · refine RepT.stay s l (n - 1) vs f z r (fun b hb => h1 b ?_) (fun b hb => h2 b ?_)
      · rcases q with ⟨_, _, e1, _⟩ | ⟨_, _, e1, _⟩ <;> rw [e1]
        · exact hb
        · exact List.mem_cons_of_mem _ hb
      · rcases q with ⟨_, _, _, e1⟩ | ⟨_, _, _, e1⟩ <;> rw [e1]
        · exact List.mem_cons_of_mem _ hb
        · exact hb
    · rcases q with ⟨e0, q, e1, e2⟩ | ⟨e0, q, e1, e2⟩
      · exact .inl ⟨e0, s.rd q (h2 a (by rw [e2]; exact List.mem_cons_self)), e1, e2⟩
      · exact .inr ⟨e0, s a _ q (fun m => absurd m (h1 a (by rw [e1]; exact List.mem_cons_self))), e1, e2⟩
  | .ins c fs, n, v, fp, fz, r, h1, h2 => by
    simp only [Rep] at r ⊢
    obtain ⟨a, C, dx, vs, e, e1, e2, q, i⟩ := r
    exact ⟨a, C, dx, vs, e, e1, e2, s a _ q (fun m => absurd m (h2 a (by rw [e2]; exact List.mem_cons_self))), i⟩
  | .scr l, n, v, fp, fz, r, h1, h2 => by
    simp only [Rep] at r ⊢
    obtain ⟨a, e, e1, q⟩ := r
    refine ⟨a, e, e1, ?_⟩
    rcases q with ⟨q, e2⟩ | q
    · exact .inl ⟨s.rd q (h2 a (by rw [e2]; exact List.mem_cons_self)), e2⟩
    · exact .inr q
theorem RepL.stay (s : Stay W H H') : ∀ (ds : List D) (n : Nat) (vs : List V) (fp fz : List Addr), RepL K H ds n vs fp fz → (∀ a ∈ fp, a ∉ W) → (∀ a ∈ fz, a ∉ W) → RepL K H' ds n vs fp fz
  | [], _, _, _, _, r, _, _ => by simpa only [RepL] using r
  | d :: ds, n, vs, fp, fz, r, h1, h2 => by
    simp only [RepL] at r ⊢
    obtain ⟨v, vs', f1, f2, z1, z2, e, e1, e2, r1, r2⟩ := r
    subst e1 e2
    exact ⟨v, vs', f1, f2, z1, z2, e, rfl, rfl, Rep.stay s d n v f1 z1 r1 (fun a m => h1 a (List.mem_append_left _ m)) (fun a m => h2 a (List.mem_append_left _ m)),
      RepL.stay s ds n vs' f2 z2 r2 (fun a m => h1 a (List.mem_append_right _ m)) (fun a m => h2 a (List.mem_append_right _ m))⟩
theorem RepK.stay (s : Stay W H H') : ∀ (ds : List (Key × D)) (n : Nat) (vs : List (Key × V)) (fp fz : List Addr), RepK K H ds n vs fp fz → (∀ a ∈ fp, a ∉ W) → (∀ a ∈ fz, a ∉ W) → RepK K H' ds n vs fp fz
  | [], _, _, _, _, r, _, _ => by simpa only [RepK] using r
  | (k, d) :: ds, n, vs, fp, fz, r, h1, h2 => by
    simp only [RepK] at r ⊢
    obtain ⟨v, vs', f1, f2, z1, z2, e, e1, e2, r1, r2⟩ := r
    subst e1 e2
    exact ⟨v, vs', f1, f2, z1, z2, e, rfl, rfl, Rep.stay s d n v f1 z1 r1 (fun a m => h1 a (List.mem_append_left _ m)) (fun a m => h2 a (List.mem_append_left _ m)),
      RepK.stay s ds n vs' f2 z2 r2 (fun a m => h1 a (List.mem_append_right _ m)) (fun a m => h2 a (List.mem_append_right _ m))⟩
theorem RepT.stay (s : Stay W H H') : ∀ (ds : List (List Key × D)) (n : Nat) (vs : List (List Key × V)) (fp fz : List Addr), RepT K H ds n vs fp fz → (∀ a ∈ fp, a ∉ W) → (∀ a ∈ fz, a ∉ W) → RepT K H' ds n vs fp fz
  | [], _, _, _, _, r, _, _ => by simpa only [RepT] using r
  | (k, d) :: ds, n, vs, fp, fz, r, h1, h2 => by
    simp only [RepT] at r ⊢
    obtain ⟨v, vs', f1, f2, z1, z2, e, e1, e2, r1, r2⟩ := r
    subst e1 e2
    exact ⟨v, vs', f1, f2, z1, z2, e, rfl, rfl, Rep.stay s d n v f1 z1 r1 (fun a m => h1 a (List.mem_append_left _ m)) (fun a m => h2 a (List.mem_append_left _ m)),
      RepT.stay s ds n vs' f2 z2 r2 (fun a m => h1 a (List.mem_append_right _ m)) (fun a m => h2 a (List.mem_append_right _ m))⟩
end
/-! what is told of addresses: they are tracked, the owned ones can be written -/
mutual
theorem Rep.own : ∀ (d : D) (n : Nat) (v : V) (fp fz : List Addr), Rep K H d n v fp fz → (∀ a ∈ fp, ∃ o, H a = some o ∧ Mut (some o)) ∧ (∀ a ∈ fz, ∃ o, H a = some o)
  | .non, _, _, _, _, r => by simp only [Rep] at r; simp [r]
  | .bl _, _, _, _, _, r => by simp only [Rep] at r; simp [r]
  | .int _, _, _, _, _, r => by simp only [Rep] at r; simp [r]
  | .str _, _, _, _, _, r => by simp only [Rep] at r; simp [r]
  | .ty _, _, _, _, _, r => by simp only [Rep] at r; simp [r]
  | .tup l, n, v, fp, fz, r => by
    simp only [Rep] at r
    obtain ⟨a, vs, e, q, r⟩ := r
    exact RepL.own l n vs fp fz r
  | .ctup l, n, v, fp, fz, r => by
    simp only [Rep] at r
    obtain ⟨a, vs, e, q, r⟩ := r
    exact RepL.own l n vs fp fz r
  | .lst l, n, v, fp, fz, r => by
    simp only [Rep] at r
    obtain ⟨a, vs, f, z, e, r, q⟩ := r
    obtain ⟨h1, h2⟩ := RepL.own l (n - 1) vs f z r
    rcases q with ⟨e0, q, e1, e2⟩ | ⟨e0, q, e1, e2⟩ <;> rw [e1, e2]
    · exact ⟨h1, fun b m => (List.mem_cons.mp m).elim (fun e => by rw [e]; exact ⟨_, q⟩) (h2 b)⟩
    · exact ⟨fun b m => (List.mem_cons.mp m).elim (fun e => by rw [e]; exact ⟨_, q, trivial⟩) (h1 b), h2⟩
  | .dk l, n, v, fp, fz, r => by
    simp only [Rep] at r
    obtain ⟨a, vs, f, z, e, r, q⟩ := r
    obtain ⟨h1, h2⟩ := RepK.own l (n - 1) vs f z r
    rcases q with ⟨e0, q, e1, e2⟩ | ⟨e0, q, e1, e2⟩ <;> rw [e1, e2]
    · exact ⟨h1, fun b m => (List.mem_cons.mp m).elim (fun e => by rw [e]; rcases q with q | ⟨o, q⟩ <;> exact ⟨_, q⟩) (h2 b)⟩
    · exact ⟨fun b m => (List.mem_cons.mp m).elim (fun e => by rw [e]; exact ⟨_, q, trivial⟩) (h1 b), h2⟩
  | .dt l, n, v, fp, fz, r => by
    simp only [Rep] at r
    obtain ⟨a, vs, f, z, e, r, q⟩ := r
    obtain ⟨h1, h2⟩ := RepT.own l (n - 1) vs f z r
    rcases q with ⟨e0, q, e1, e2⟩ | ⟨e0, q, e1, e2⟩ <;> rw [e1, e2]
    · exact ⟨h1, fun b m => (List.mem_cons.mp m).elim (fun e => by rw [e]; rcases q with q | ⟨o, q⟩ <;> exact ⟨_, q⟩) (h2 b)⟩
    · exact ⟨fun b m => (List.mem_cons.mp m).elim (fun e => by rw [e]; exact ⟨_, q, trivial⟩) (h1 b), h2⟩
  | .ins c fs, n, v, fp, fz, r => by
    simp only [Rep] at r
    obtain ⟨a, C, dx, vs, e, e1, e2, q, i⟩ := r
    rw [e1, e2]
    exact ⟨fun _ m => absurd m List.not_mem_nil, fun b m => by rw [List.mem_singleton.mp m]; exact ⟨_, q⟩⟩
  | .scr l, n, v, fp, fz, r => by
    simp only [Rep] at r
    obtain ⟨a, e, e1, q⟩ := r
    rw [e1]
    refine And.intro (fun _ m => absurd m List.not_mem_nil) (fun b m => ?_)
    rcases q with ⟨q, e2⟩ | ⟨_, e2⟩
    · rw [e2] at m
      obtain rfl := List.mem_singleton.mp m
      rcases q with q | ⟨o, q⟩ <;> exact ⟨_, q⟩
    · rw [e2] at m; exact nomatch m
theorem RepL.own : ∀ (ds : List D) (n : Nat) (vs : List V) (fp fz : List Addr), RepL K H ds n vs fp fz → (∀ a ∈ fp, ∃ o, H a = some o ∧ Mut (some o)) ∧ (∀ a ∈ fz, ∃ o, H a = some o)
  | [], _, _, _, _, r => by simp only [RepL] at r; simp [r]
  | d :: ds, n, vs, fp, fz, r => by
    simp only [RepL] at r
    obtain ⟨v, vs', f1, f2, z1, z2, e, e1, e2, r1, r2⟩ := r
    subst e1 e2
    have h1 := Rep.own d n v f1 z1 r1
    have h2 := RepL.own ds n vs' f2 z2 r2
    exact ⟨fun a m => (List.mem_append.mp m).elim (h1.1 a) (h2.1 a), fun a m => (List.mem_append.mp m).elim (h1.2 a) (h2.2 a)⟩
theorem RepK.own : ∀ (ds : List (Key × D)) (n : Nat) (vs : List (Key × V)) (fp fz : List Addr), RepK K H ds n vs fp fz → (∀ a ∈ fp, ∃ o, H a = some o ∧ Mut (some o)) ∧ (∀ a ∈ fz, ∃ o, H a = some o)
  | [], _, _, _, _, r => by simp only [RepK] at r; simp [r]
  | (k, d) :: ds, n, vs, fp, fz, r => by
    simp only [RepK] at r
    obtain ⟨v, vs', f1, f2, z1, z2, e, e1, e2, r1, r2⟩ := r
    subst e1 e2
    have h1 := Rep.own d n v f1 z1 r1
    have h2 := RepK.own ds n vs' f2 z2 r2
    exact ⟨fun a m => (List.mem_append.mp m).elim (h1.1 a) (h2.1 a), fun a m => (List.mem_append.mp m).elim (h1.2 a) (h2.2 a)⟩
theorem RepT.own : ∀ (ds : List (List Key × D)) (n : Nat) (vs : List (List Key × V)) (fp fz : List Addr), RepT K H ds n vs fp fz → (∀ a ∈ fp, ∃ o, H a = some o ∧ Mut (some o)) ∧ (∀ a ∈ fz, ∃ o, H a = some o)
  | [], _, _, _, _, r => by simp only [RepT] at r; simp [r]
  | (k, d) :: ds, n, vs, fp, fz, r => by
    simp only [RepT] at r
    obtain ⟨v, vs', f1, f2, z1, z2, e, e1, e2, r1, r2⟩ := r
    subst e1 e2
    have h1 := Rep.own d n v f1 z1 r1
    have h2 := RepT.own ds n vs' f2 z2 r2
    exact ⟨fun a m => (List.mem_append.mp m).elim (h1.1 a) (h2.1 a), fun a m => (List.mem_append.mp m).elim (h1.2 a) (h2.2 a)⟩
end
end
end Pi
/-! Pi2: owned less deep; slots. -/
namespace Pi
open PySem L2

def Disj (fp fz : List Addr) : Prop := fp.Nodup ∧ ∀ a ∈ fp, a ∉ fz
theorem Disj.of {fp fz fp' fz' : List Addr} (d : Disj fp fz) (p : fp.Perm fp') (s : ∀ a ∈ fz', a ∈ fz) : Disj fp' fz' :=
  ⟨p.nodup d.1, fun a m z => d.2 a (p.mem_iff.mpr m) (s a z)⟩
theorem Disj.part {fp fz f1 f2 fz' : List Addr} (d : Disj fp fz) (p : fp.Perm (f1 ++ f2)) (s : ∀ a ∈ fz', a ∈ fz ∨ a ∈ f2) : Disj f1 fz' := by
  have n := p.nodup d.1
  have n' := List.nodup_append.mp n
  refine ⟨n'.1, fun a m z => ?_⟩
  rcases s a z with s | s
  · exact d.2 a (p.mem_iff.mpr (List.mem_append_left _ m)) s
  · exact n'.2.2 a m a s rfl

section
variable {K : PySem.W.Frag} {H H' : Hp} {W : List Addr}
mutual
/-- frozen: nothing is owned -/
theorem Rep.zero : ∀ (d : D) (v : V) (fp fz : List Addr), Rep K H d 0 v fp fz → fp = []
  | .non, _, _, _, r => by simp only [Rep] at r; simp [r]
  | .bl _, _, _, _, r => by simp only [Rep] at r; simp [r]
  | .int _, _, _, _, r => by simp only [Rep] at r; simp [r]
  | .str _, _, _, _, r => by simp only [Rep] at r; simp [r]
  | .ty _, _, _, _, r => by simp only [Rep] at r; simp [r]
  | .tup l, v, fp, fz, r => by
    simp only [Rep] at r
    obtain ⟨a, vs, e, q, r⟩ := r
    exact RepL.zero l vs fp fz r
  | .ctup l, v, fp, fz, r => by
    simp only [Rep] at r
    obtain ⟨a, vs, e, q, r⟩ := r
    exact RepL.zero l vs fp fz r
  | .lst l, v, fp, fz, r => by
    simp only [Rep] at r
    obtain ⟨a, vs, f, z, e, r, q⟩ := r
    have := RepL.zero l vs f z r
    rcases q with ⟨e0, q, e1, e2⟩ | ⟨e0, q, e1, e2⟩
    · rw [e1, this]
    · exact absurd rfl e0
  | .dk l, v, fp, fz, r => by
    simp only [Rep] at r
    obtain ⟨a, vs, f, z, e, r, q⟩ := r
    have := RepK.zero l vs f z r
    rcases q with ⟨e0, q, e1, e2⟩ | ⟨e0, q, e1, e2⟩
    · rw [e1, this]
    · exact absurd rfl e0
  | .dt l, v, fp, fz, r => by
    simp only [Rep] at r
    obtain ⟨a, vs, f, z, e, r, q⟩ := r
    have := RepT.zero l vs f z r
    rcases q with ⟨e0, q, e1, e2⟩ | ⟨e0, q, e1, e2⟩
    · rw [e1, this]
    · exact absurd rfl e0
  | .ins _ _, _, _, _, r => by
    simp only [Rep] at r
    obtain ⟨a, C, dx, vs, e, e1, e2, q, i⟩ := r
    exact e1
  | .scr _, _, _, _, r => by
    simp only [Rep] at r
    obtain ⟨a, e, e1, q⟩ := r
    exact e1
theorem RepL.zero : ∀ (ds : List D) (vs : List V) (fp fz : List Addr), RepL K H ds 0 vs fp fz → fp = []
  | [], _, _, _, r => by simp only [RepL] at r; simp [r]
  | d :: ds, vs, fp, fz, r => by
    simp only [RepL] at r
    obtain ⟨v, vs', f1, f2, z1, z2, e, e1, e2, r1, r2⟩ := r
    rw [e1, Rep.zero d v f1 z1 r1, RepL.zero ds vs' f2 z2 r2]; rfl
theorem RepK.zero : ∀ (ds : List (Key × D)) (vs : List (Key × V)) (fp fz : List Addr), RepK K H ds 0 vs fp fz → fp = []
  | [], _, _, _, r => by simp only [RepK] at r; simp [r]
  | (k, d) :: ds, vs, fp, fz, r => by
    simp only [RepK] at r
    obtain ⟨v, vs', f1, f2, z1, z2, e, e1, e2, r1, r2⟩ := r
    rw [e1, Rep.zero d v f1 z1 r1, RepK.zero ds vs' f2 z2 r2]; rfl
theorem RepT.zero : ∀ (ds : List (List Key × D)) (vs : List (List Key × V)) (fp fz : List Addr), RepT K H ds 0 vs fp fz → fp = []
  | [], _, _, _, r => by simp only [RepT] at r; simp [r]
  | (k, d) :: ds, vs, fp, fz, r => by
    simp only [RepT] at r
    obtain ⟨v, vs', f1, f2, z1, z2, e, e1, e2, r1, r2⟩ := r
    rw [e1, Rep.zero d v f1 z1 r1, RepT.zero ds vs' f2 z2 r2]; rfl
end
/-- what an owned thing is to a lesser depth: some of its addresses are frozen -/
def Less (fp fz fp' fz' : List Addr) : Prop := ∃ mv, (fp' ++ mv).Perm fp ∧ ∀ a ∈ fz', a ∈ fz ∨ a ∈ mv
theorem Less.refl (fp fz : List Addr) : Less fp fz fp fz := ⟨[], by simp, fun a m => .inl m⟩
theorem Less.app {f1 z1 f1' z1' f2 z2 f2' z2' : List Addr} (a : Less f1 z1 f1' z1') (b : Less f2 z2 f2' z2') : Less (f1 ++ f2) (z1 ++ z2) (f1' ++ f2') (z1' ++ z2') := by
  obtain ⟨m1, p1, s1⟩ := a
  obtain ⟨m2, p2, s2⟩ := b
  refine ⟨m1 ++ m2, ?_, fun x m => ?_⟩
  · refine List.Perm.trans ?_ (p1.append p2)
    rw [List.append_assoc, List.append_assoc]
    refine List.Perm.append_left _ ?_
    rw [← List.append_assoc, ← List.append_assoc]
    exact List.Perm.append_right _ List.perm_append_comm
  · rcases List.mem_append.mp m with m | m
    · rcases s1 x m with h | h
      · exact .inl (List.mem_append_left _ h)
      · exact .inr (List.mem_append_left _ h)
    · rcases s2 x m with h | h
      · exact .inl (List.mem_append_right _ h)
      · exact .inr (List.mem_append_right _ h)
theorem Less.disj {fp fz fp' fz' : List Addr} (l : Less fp fz fp' fz') (d : Disj fp fz) : Disj fp' fz' := by
  obtain ⟨mv, p, s⟩ := l
  exact d.part p.symm s
theorem Less.fp {fp fz fp' fz' : List Addr} (l : Less fp fz fp' fz') : ∀ a ∈ fp', a ∈ fp := by
  obtain ⟨mv, p, s⟩ := l
  exact fun a m => p.mem_iff.mp (List.mem_append_left _ m)
theorem Less.fz {fp fz fp' fz' : List Addr} (l : Less fp fz fp' fz') : ∀ a ∈ fz', a ∈ fz ∨ a ∈ fp := by
  obtain ⟨mv, p, s⟩ := l
  exact fun a m => (s a m).imp id fun h => p.mem_iff.mp (List.mem_append_right _ h)
/-- the head owned no more, the rest less -/
theorem Less.hd {a : Addr} {fp fz fp' fz' : List Addr} (l : Less fp fz fp' fz') : Less (a :: fp) fz fp' (a :: fz') := by
  obtain ⟨mv, p, s⟩ := l
  refine ⟨a :: mv, ?_, fun x m => ?_⟩
  · exact List.Perm.trans List.perm_middle (List.Perm.cons a p)
  · rcases List.mem_cons.mp m with rfl | m
    · exact .inr List.mem_cons_self
    · exact (s x m).imp id fun h => List.mem_cons_of_mem _ h
theorem Less.hd2 {a : Addr} {fp fz fp' fz' : List Addr} (l : Less fp fz fp' fz') : Less (a :: fp) fz (a :: fp') fz' := by
  obtain ⟨mv, p, s⟩ := l
  exact ⟨mv, List.Perm.cons a p, s⟩
theorem Less.hz {a : Addr} {fp fz fp' fz' : List Addr} (l : Less fp fz fp' fz') : Less fp (a :: fz) fp' (a :: fz') := by
  obtain ⟨mv, p, s⟩ := l
  refine ⟨mv, p, fun x m => ?_⟩
  rcases List.mem_cons.mp m with rfl | m
  · exact .inl List.mem_cons_self
  · exact (s x m).imp (fun h => List.mem_cons_of_mem _ h) id
mutual
theorem Rep.less : ∀ (d : D) (n m : Nat) (v : V) (fp fz : List Addr), m ≤ n → Rep K H d n v fp fz → ∃ fp' fz', Rep K H d m v fp' fz' ∧ Less fp fz fp' fz'
  | .non, _, _, _, fp, fz, _, r => ⟨fp, fz, by simpa only [Rep] using r, .refl _ _⟩
  | .bl _, _, _, _, fp, fz, _, r => ⟨fp, fz, by simpa only [Rep] using r, .refl _ _⟩
  | .int _, _, _, _, fp, fz, _, r => ⟨fp, fz, by simpa only [Rep] using r, .refl _ _⟩
  | .str _, _, _, _, fp, fz, _, r => ⟨fp, fz, by simpa only [Rep] using r, .refl _ _⟩
  | .ty _, _, _, _, fp, fz, _, r => ⟨fp, fz, by simpa only [Rep] using r, .refl _ _⟩
  | .tup l, n, m, v, fp, fz, h, r => by
    simp only [Rep] at r ⊢
    obtain ⟨a, vs, e, q, r⟩ := r
    obtain ⟨f', z', r', ls⟩ := RepL.less l n m vs fp fz h r
    exact ⟨f', z', ⟨a, vs, e, q, r'⟩, ls⟩
  | .ctup l, n, m, v, fp, fz, h, r => by
    simp only [Rep] at r ⊢
    obtain ⟨a, vs, e, q, r⟩ := r
    obtain ⟨f', z', r', ls⟩ := RepL.less l n m vs fp fz h r
    exact ⟨f', z', ⟨a, vs, e, q, r'⟩, ls⟩
  | .lst l, n, m, v, fp, fz, h, r => by
    simp only [Rep] at r ⊢
    obtain ⟨a, vs, f, z, e, r, q⟩ := r
    obtain ⟨f', z', r', ls⟩ := RepL.less l (n - 1) (m - 1) vs f z (by omega) r
    rcases q with ⟨e0, q, e1, e2⟩ | ⟨e0, q, e1, e2⟩
    · exact ⟨f', a :: z', ⟨a, vs, f', z', e, r', .inl ⟨by omega, q, rfl, rfl⟩⟩, by rw [e1, e2]; exact ls.hz⟩
    · by_cases hm : m = 0
      · exact ⟨f', a :: z', ⟨a, vs, f', z', e, r', .inl ⟨hm, q, rfl, rfl⟩⟩, by rw [e1, e2]; exact ls.hd⟩
      · exact ⟨a :: f', z', ⟨a, vs, f', z', e, r', .inr ⟨hm, q, rfl, rfl⟩⟩, by rw [e1, e2]; exact ls.hd2⟩
  | .dk l, n, m, v, fp, fz, h, r => by
    simp only [Rep] at r ⊢
    obtain ⟨a, vs, f, z, e, r, q⟩ := r
    obtain ⟨f', z', r', ls⟩ := RepK.less l (n - 1) (m - 1) vs f z (by omega) r
    rcases q with ⟨e0, q, e1, e2⟩ | ⟨e0, q, e1, e2⟩
    · exact ⟨f', a :: z', ⟨a, vs, f', z', e, r', .inl ⟨by omega, q, rfl, rfl⟩⟩, by rw [e1, e2]; exact ls.hz⟩
    · by_cases hm : m = 0
      · exact ⟨f', a :: z', ⟨a, vs, f', z', e, r', .inl ⟨hm, .inl q, rfl, rfl⟩⟩, by rw [e1, e2]; exact ls.hd⟩
      · exact ⟨a :: f', z', ⟨a, vs, f', z', e, r', .inr ⟨hm, q, rfl, rfl⟩⟩, by rw [e1, e2]; exact ls.hd2⟩
  | .dt l, n, m, v, fp, fz, h, r => by
    simp only [Rep] at r ⊢
    obtain ⟨a, vs, f, z, e, r, q⟩ := r
    obtain ⟨f', z', r', ls⟩ := RepT.less l (n - 1) (m - 1) vs f z (by omega) r
    rcases q with ⟨e0, q, e1, e2⟩ | ⟨e0, q, e1, e2⟩
    · exact ⟨f', a :: z', ⟨a, vs, f', z', e, r', .inl ⟨by omega, q, rfl, rfl⟩⟩, by rw [e1, e2]; exact ls.hz⟩
    · by_cases hm : m = 0
      · exact ⟨f', a :: z', ⟨a, vs, f', z', e, r', .inl ⟨hm, .inl q, rfl, rfl⟩⟩, by rw [e1, e2]; exact ls.hd⟩
      · exact ⟨a :: f', z', ⟨a, vs, f', z', e, r', .inr ⟨hm, q, rfl, rfl⟩⟩, by rw [e1, e2]; exact ls.hd2⟩
  | .ins _ _, _, _, _, fp, fz, _, r => ⟨fp, fz, by simpa only [Rep] using r, .refl _ _⟩
  | .scr _, _, _, _, fp, fz, _, r => ⟨fp, fz, by simpa only [Rep] using r, .refl _ _⟩
theorem RepL.less : ∀ (ds : List D) (n m : Nat) (vs : List V) (fp fz : List Addr), m ≤ n → RepL K H ds n vs fp fz → ∃ fp' fz', RepL K H ds m vs fp' fz' ∧ Less fp fz fp' fz'
  | [], _, _, _, fp, fz, _, r => ⟨fp, fz, by simpa only [RepL] using r, .refl _ _⟩
  | d :: ds, n, m, vs, fp, fz, h, r => by
    simp only [RepL] at r ⊢
    obtain ⟨v, vs', f1, f2, z1, z2, e, e1, e2, r1, r2⟩ := r
    obtain ⟨f1', z1', r1', l1⟩ := Rep.less d n m v f1 z1 h r1
    obtain ⟨f2', z2', r2', l2⟩ := RepL.less ds n m vs' f2 z2 h r2
    subst e1 e2
    exact ⟨f1' ++ f2', z1' ++ z2', ⟨v, vs', f1', f2', z1', z2', e, rfl, rfl, r1', r2'⟩, l1.app l2⟩
theorem RepK.less : ∀ (ds : List (Key × D)) (n m : Nat) (vs : List (Key × V)) (fp fz : List Addr), m ≤ n → RepK K H ds n vs fp fz → ∃ fp' fz', RepK K H ds m vs fp' fz' ∧ Less fp fz fp' fz'
  | [], _, _, _, fp, fz, _, r => ⟨fp, fz, by simpa only [RepK] using r, .refl _ _⟩
  | (k, d) :: ds, n, m, vs, fp, fz, h, r => by
    simp only [RepK] at r ⊢
    obtain ⟨v, vs', f1, f2, z1, z2, e, e1, e2, r1, r2⟩ := r
    obtain ⟨f1', z1', r1', l1⟩ := Rep.less d n m v f1 z1 h r1
    obtain ⟨f2', z2', r2', l2⟩ := RepK.less ds n m vs' f2 z2 h r2
    subst e1 e2
    exact ⟨f1' ++ f2', z1' ++ z2', ⟨v, vs', f1', f2', z1', z2', e, rfl, rfl, r1', r2'⟩, l1.app l2⟩
theorem RepT.less : ∀ (ds : List (List Key × D)) (n m : Nat) (vs : List (List Key × V)) (fp fz : List Addr), m ≤ n → RepT K H ds n vs fp fz → ∃ fp' fz', RepT K H ds m vs fp' fz' ∧ Less fp fz fp' fz'
  | [], _, _, _, fp, fz, _, r => ⟨fp, fz, by simpa only [RepT] using r, .refl _ _⟩
  | (k, d) :: ds, n, m, vs, fp, fz, h, r => by
    simp only [RepT] at r ⊢
    obtain ⟨v, vs', f1, f2, z1, z2, e, e1, e2, r1, r2⟩ := r
    obtain ⟨f1', z1', r1', l1⟩ := Rep.less d n m v f1 z1 h r1
    obtain ⟨f2', z2', r2', l2⟩ := RepT.less ds n m vs' f2 z2 h r2
    subst e1 e2
    exact ⟨f1' ++ f2', z1' ++ z2', ⟨v, vs', f1', f2', z1', z2', e, rfl, rfl, r1', r2'⟩, l1.app l2⟩
end
mutual
theorem Rep.imm : ∀ (d : D) (n m : Nat) (v : V) (fp fz : List Addr), imm d = true → Rep K H d n v fp fz → fp = [] ∧ fz = [] ∧ Rep K H d m v [] []
  | .non, _, _, _, fp, fz, _, r => by simp only [Rep] at r ⊢; simp [r]
  | .bl _, _, _, _, fp, fz, _, r => by simp only [Rep] at r ⊢; simp [r]
  | .int _, _, _, _, fp, fz, _, r => by simp only [Rep] at r ⊢; simp [r]
  | .str _, _, _, _, fp, fz, _, r => by simp only [Rep] at r ⊢; simp [r]
  | .ty _, _, _, _, fp, fz, _, r => by simp only [Rep] at r ⊢; simp [r]
  | .tup l, n, m, v, fp, fz, h, r => by
    simp only [Rep] at r ⊢
    obtain ⟨a, vs, e, q, r⟩ := r
    obtain ⟨h1, h2, r'⟩ := RepL.imm l n m vs fp fz (by simpa only [Pi.imm] using h) r
    exact ⟨h1, h2, a, vs, e, q, r'⟩
  | .ctup l, n, m, v, fp, fz, h, r => by
    simp only [Rep] at r ⊢
    obtain ⟨a, vs, e, q, r⟩ := r
    obtain ⟨h1, h2, r'⟩ := RepL.imm l n m vs fp fz (by simpa only [Pi.imm] using h) r
    exact ⟨h1, h2, a, vs, e, q, r'⟩
  | .lst _, _, _, _, _, _, h, _ => by simp [Pi.imm] at h
  | .dk _, _, _, _, _, _, h, _ => by simp [Pi.imm] at h
  | .dt _, _, _, _, _, _, h, _ => by simp [Pi.imm] at h
  | .ins _ _, _, _, _, _, _, h, _ => by simp [Pi.imm] at h
  | .scr _, _, _, _, _, _, h, _ => by simp [Pi.imm] at h
theorem RepL.imm : ∀ (ds : List D) (n m : Nat) (vs : List V) (fp fz : List Addr), immL ds = true → RepL K H ds n vs fp fz → fp = [] ∧ fz = [] ∧ RepL K H ds m vs [] []
  | [], _, _, _, fp, fz, _, r => by simp only [RepL] at r ⊢; simp [r]
  | d :: ds, n, m, vs, fp, fz, h, r => by
    simp only [immL, Bool.and_eq_true] at h
    simp only [RepL] at r ⊢
    obtain ⟨v, vs', f1, f2, z1, z2, e, e1, e2, r1, r2⟩ := r
    obtain ⟨a1, b1, c1⟩ := Rep.imm d n m v f1 z1 h.1 r1
    obtain ⟨a2, b2, c2⟩ := RepL.imm ds n m vs' f2 z2 h.2 r2
    subst e1 e2 a1 b1 a2 b2
    exact ⟨rfl, rfl, v, vs', [], [], [], [], e, rfl, rfl, c1, c2⟩
end
mutual
theorem Rep.nofz : ∀ (d : D) (n : Nat) (v : V) (fp fz : List Addr), nofz n d = true → Rep K H d n v fp fz → fz = []
  | .non, _, _, fp, fz, _, r => by simp only [Rep] at r; simp [r]
  | .bl _, _, _, fp, fz, _, r => by simp only [Rep] at r; simp [r]
  | .int _, _, _, fp, fz, _, r => by simp only [Rep] at r; simp [r]
  | .str _, _, _, fp, fz, _, r => by simp only [Rep] at r; simp [r]
  | .ty _, _, _, fp, fz, _, r => by simp only [Rep] at r; simp [r]
  | .tup l, n, v, fp, fz, h, r => by
    simp only [Rep] at r
    obtain ⟨a, vs, e, q, r⟩ := r
    exact RepL.nofz l n vs fp fz (by simpa only [Pi.nofz] using h) r
  | .ctup l, n, v, fp, fz, h, r => by
    simp only [Rep] at r
    obtain ⟨a, vs, e, q, r⟩ := r
    exact RepL.nofz l n vs fp fz (by simpa only [Pi.nofz] using h) r
  | .lst l, n, v, fp, fz, h, r => by
    simp only [Pi.nofz, Bool.and_eq_true, bne_iff_ne] at h
    simp only [Rep] at r
    obtain ⟨a, vs, f, z, e, r, q⟩ := r
    have := RepL.nofz l (n - 1) vs f z h.2 r
    rcases q with ⟨e0, q, e1, e2⟩ | ⟨e0, q, e1, e2⟩
    · exact absurd e0 h.1
    · rw [e2, this]
  | .dk l, n, v, fp, fz, h, r => by
    simp only [Pi.nofz, Bool.and_eq_true, bne_iff_ne] at h
    simp only [Rep] at r
    obtain ⟨a, vs, f, z, e, r, q⟩ := r
    have := RepK.nofz l (n - 1) vs f z h.2 r
    rcases q with ⟨e0, q, e1, e2⟩ | ⟨e0, q, e1, e2⟩
    · exact absurd e0 h.1
    · rw [e2, this]
  | .dt l, n, v, fp, fz, h, r => by
    simp only [Pi.nofz, Bool.and_eq_true, bne_iff_ne] at h
    simp only [Rep] at r
    obtain ⟨a, vs, f, z, e, r, q⟩ := r
    have := RepT.nofz l (n - 1) vs f z h.2 r
    rcases q with ⟨e0, q, e1, e2⟩ | ⟨e0, q, e1, e2⟩
    · exact absurd e0 h.1
    · rw [e2, this]
  | .ins _ _, _, _, _, _, h, _ => by simp [Pi.nofz] at h
  | .scr _, _, _, _, _, h, _ => by simp [Pi.nofz] at h
theorem RepL.nofz : ∀ (ds : List D) (n : Nat) (vs : List V) (fp fz : List Addr), nofzL n ds = true → RepL K H ds n vs fp fz → fz = []
  | [], _, _, fp, fz, _, r => by simp only [RepL] at r; simp [r]
  | d :: ds, n, vs, fp, fz, h, r => by
    simp only [nofzL, Bool.and_eq_true] at h
    simp only [RepL] at r
    obtain ⟨v, vs', f1, f2, z1, z2, e, e1, e2, r1, r2⟩ := r
    rw [e2, Rep.nofz d n v f1 z1 h.1 r1, RepL.nofz ds n vs' f2 z2 h.2 r2]; rfl
theorem RepK.nofz : ∀ (ds : List (Key × D)) (n : Nat) (vs : List (Key × V)) (fp fz : List Addr), nofzK n ds = true → RepK K H ds n vs fp fz → fz = []
  | [], _, _, fp, fz, _, r => by simp only [RepK] at r; simp [r]
  | (k, d) :: ds, n, vs, fp, fz, h, r => by
    simp only [nofzK, Bool.and_eq_true] at h
    simp only [RepK] at r
    obtain ⟨v, vs', f1, f2, z1, z2, e, e1, e2, r1, r2⟩ := r
    rw [e2, Rep.nofz d n v f1 z1 h.1 r1, RepK.nofz ds n vs' f2 z2 h.2 r2]; rfl
theorem RepT.nofz : ∀ (ds : List (List Key × D)) (n : Nat) (vs : List (List Key × V)) (fp fz : List Addr), nofzT n ds = true → RepT K H ds n vs fp fz → fz = []
  | [], _, _, fp, fz, _, r => by simp only [RepT] at r; simp [r]
  | (k, d) :: ds, n, vs, fp, fz, h, r => by
    simp only [nofzT, Bool.and_eq_true] at h
    simp only [RepT] at r
    obtain ⟨v, vs', f1, f2, z1, z2, e, e1, e2, r1, r2⟩ := r
    rw [e2, Rep.nofz d n v f1 z1 h.1 r1, RepT.nofz ds n vs' f2 z2 h.2 r2]; rfl
end
theorem Rep.hasd {d : D} {n k : Nat} {v : V} {fp fz : List Addr} (h : hasd k (d, n) = true) (r : Rep K H d n v fp fz) : ∃ fp' fz', Rep K H d k v fp' fz' ∧ Less fp fz fp' fz' := by
  simp only [Pi.hasd, Bool.or_eq_true, decide_eq_true_eq] at h
  rcases h with h | h
  · exact Rep.less d n k v fp fz h r
  · obtain ⟨e1, e2, r'⟩ := Rep.imm d n k v fp fz h r
    subst e1 e2
    exact ⟨[], [], r', .refl _ _⟩
/-- frozen -/
theorem Rep.frz {d : D} {n : Nat} {v : V} {fp fz : List Addr} (r : Rep K H d n v fp fz) : ∃ fz', Rep K H d 0 v [] fz' ∧ Less fp fz [] fz' := by
  obtain ⟨fp', fz', r', l⟩ := Rep.less d n 0 v fp fz (Nat.zero_le _) r
  have := Rep.zero d v fp' fz' r'
  subst this
  exact ⟨fz', r', l⟩

/-! ### slots -/
def SL (K : PySem.W.Frag) (H : Hp) : St → Env → List Addr → List Addr → Prop
  | [], [], fp, fz => fp = [] ∧ fz = []
  | _ :: σ, none :: ρ, fp, fz => SL K H σ ρ fp fz
  | s :: σ, some (d, n) :: ρ, fp, fz => ∃ v f1 f2 z1 z2, s = some v ∧ fp = f1 ++ f2 ∧ fz = z1 ++ z2 ∧ Rep K H d n v f1 z1 ∧ SL K H σ ρ f2 z2
  | _, _, _, _ => False
theorem SL.stay (s : Stay W H H') : ∀ {σ : St} {ρ : Env} {fp fz : List Addr}, SL K H σ ρ fp fz → (∀ a ∈ fp, a ∉ W) → (∀ a ∈ fz, a ∉ W) → SL K H' σ ρ fp fz
  | [], [], _, _, r, _, _ => r
  | _ :: σ, none :: ρ, fp, fz, r, h1, h2 => SL.stay s (σ := σ) (ρ := ρ) r h1 h2
  | x :: σ, some (d, n) :: ρ, fp, fz, r, h1, h2 => by
    obtain ⟨v, f1, f2, z1, z2, e, e1, e2, r1, r2⟩ := r
    subst e1 e2
    exact ⟨v, f1, f2, z1, z2, e, rfl, rfl, Rep.stay s d n v f1 z1 r1 (fun a m => h1 a (List.mem_append_left _ m)) (fun a m => h2 a (List.mem_append_left _ m)),
      SL.stay s (σ := σ) (ρ := ρ) r2 (fun a m => h1 a (List.mem_append_right _ m)) (fun a m => h2 a (List.mem_append_right _ m))⟩
  | [], _ :: _, _, _, r, _, _ => False.elim r
  | _ :: _, [], _, _, r, _, _ => False.elim r
theorem SL.own : ∀ {σ : St} {ρ : Env} {fp fz : List Addr}, SL K H σ ρ fp fz → (∀ a ∈ fp, ∃ o, H a = some o ∧ Mut (some o)) ∧ (∀ a ∈ fz, ∃ o, H a = some o)
  | [], [], _, _, r => by obtain ⟨rfl, rfl⟩ := r; simp
  | _ :: σ, none :: ρ, fp, fz, r => SL.own (σ := σ) (ρ := ρ) r
  | x :: σ, some (d, n) :: ρ, fp, fz, r => by
    obtain ⟨v, f1, f2, z1, z2, e, e1, e2, r1, r2⟩ := r
    subst e1 e2
    have h1 := Rep.own d n v f1 z1 r1
    have h2 := SL.own (σ := σ) (ρ := ρ) r2
    exact ⟨fun a m => (List.mem_append.mp m).elim (h1.1 a) (h2.1 a), fun a m => (List.mem_append.mp m).elim (h1.2 a) (h2.2 a)⟩
  | [], _ :: _, _, _, r => False.elim r
  | _ :: _, [], _, _, r => False.elim r
theorem SL.len : ∀ {σ : St} {ρ : Env} {fp fz : List Addr}, SL K H σ ρ fp fz → σ.length = ρ.length
  | [], [], _, _, _ => rfl
  | _ :: σ, none :: ρ, fp, fz, r => by simp [SL.len (σ := σ) (ρ := ρ) r]
  | x :: σ, some (d, n) :: ρ, fp, fz, r => by
    obtain ⟨v, f1, f2, z1, z2, e, e1, e2, r1, r2⟩ := r
    simp [SL.len (σ := σ) (ρ := ρ) r2]
  | [], _ :: _, _, _, r => False.elim r
  | _ :: _, [], _, _, r => False.elim r
/-- a slot is taken out -/
theorem SL.take : ∀ {σ : St} {ρ : Env} {fp fz : List Addr} {i : Nat} {d : D} {n : Nat}, SL K H σ ρ fp fz → gt ρ i = some (d, n) →
    ∃ v f1 f2 z1 z2, σ[i]? = some (some v) ∧ Rep K H d n v f1 z1 ∧ SL K H σ (st ρ i none) f2 z2 ∧ (f1 ++ f2).Perm fp ∧ (z1 ++ z2).Perm fz
  | [], [], _, _, _, _, _, _, g => by simp [gt] at g
  | s :: σ, none :: ρ, fp, fz, 0, d, n, r, g => by simp [gt] at g
  | s :: σ, some (d, n) :: ρ, fp, fz, 0, d', n', r, g => by
    simp only [gt, Option.some.injEq, Prod.mk.injEq] at g
    obtain ⟨rfl, rfl⟩ := g
    obtain ⟨v, f1, f2, z1, z2, e, e1, e2, r1, r2⟩ := r
    exact ⟨v, f1, f2, z1, z2, by simp [e], r1, r2, by rw [e1], by rw [e2]⟩
  | s :: σ, none :: ρ, fp, fz, i + 1, d, n, r, g => by
    obtain ⟨v, f1, f2, z1, z2, a, b, c, p, q⟩ := SL.take (σ := σ) (ρ := ρ) r g
    exact ⟨v, f1, f2, z1, z2, by simpa using a, b, c, p, q⟩
  | s :: σ, some (d', n') :: ρ, fp, fz, i + 1, d, n, r, g => by
    obtain ⟨w, g1, g2, y1, y2, e, e1, e2, r1, r2⟩ := r
    obtain ⟨v, f1, f2, z1, z2, a, b, c, p, q⟩ := SL.take (σ := σ) (ρ := ρ) r2 g
    refine ⟨v, f1, g1 ++ f2, z1, y1 ++ z2, by simpa using a, b, ⟨w, g1, f2, y1, z2, e, rfl, rfl, r1, c⟩, ?_, ?_⟩
    · rw [e1]
      exact List.Perm.trans (by rw [← List.append_assoc, ← List.append_assoc]; exact List.Perm.append_right _ List.perm_append_comm) (List.Perm.append_left g1 p)
    · rw [e2]
      exact List.Perm.trans (by rw [← List.append_assoc, ← List.append_assoc]; exact List.Perm.append_right _ List.perm_append_comm) (List.Perm.append_left y1 q)
  | [], _ :: _, _, _, _, _, _, r, _ => False.elim r
  | _ :: _, [], _, _, _, _, _, r, _ => False.elim r
/-- a slot is filled (whatever stood there is forgotten before) -/
theorem SL.fill : ∀ {σ : St} {ρ : Env} {f2 z2 : List Addr} {i : Nat} {d : D} {n : Nat} {v : V} {f1 z1 : List Addr}, SL K H σ (st ρ i none) f2 z2 → σ[i]? = some (some v) → Rep K H d n v f1 z1 →
    ∃ fp fz, SL K H σ (st ρ i (some (d, n))) fp fz ∧ (f1 ++ f2).Perm fp ∧ (z1 ++ z2).Perm fz
  | [], _, _, _, _, _, _, _, _, _, _, g, _ => by simp at g
  | s :: σ, [], _, _, _, _, _, _, _, _, r, _, _ => False.elim r
  | s :: σ, x :: ρ, f2, z2, 0, d, n, v, f1, z1, r, g, rv => by
    simp only [List.length_cons, Nat.zero_lt_succ, getElem?_pos, List.getElem_cons_zero, Option.some.injEq] at g
    exact ⟨f1 ++ f2, z1 ++ z2, ⟨v, f1, f2, z1, z2, g, rfl, rfl, rv, r⟩, .refl _, .refl _⟩
  | s :: σ, none :: ρ, f2, z2, i + 1, d, n, v, f1, z1, r, g, rv => by
    obtain ⟨fp, fz, a, p, q⟩ := SL.fill (σ := σ) (ρ := ρ) (i := i) r (by simpa using g) rv
    exact ⟨fp, fz, a, p, q⟩
  | s :: σ, some (d', n') :: ρ, f2, z2, i + 1, d, n, v, f1, z1, r, g, rv => by
    obtain ⟨w, g1, g2, y1, y2, e, e1, e2, r1, r2⟩ := r
    obtain ⟨fp, fz, a, p, q⟩ := SL.fill (σ := σ) (ρ := ρ) (i := i) r2 (by simpa using g) rv
    refine ⟨g1 ++ fp, y1 ++ fz, ⟨w, g1, fp, y1, fz, e, rfl, rfl, r1, a⟩, ?_, ?_⟩
    · rw [e1]
      exact List.Perm.trans (by rw [← List.append_assoc, ← List.append_assoc]; exact List.Perm.append_right _ List.perm_append_comm) (List.Perm.append_left g1 p)
    · rw [e2]
      exact List.Perm.trans (by rw [← List.append_assoc, ← List.append_assoc]; exact List.Perm.append_right _ List.perm_append_comm) (List.Perm.append_left y1 q)
/-- a slot is forgotten -/
theorem SL.drop : ∀ {σ : St} {ρ : Env} {fp fz : List Addr} (i : Nat), SL K H σ ρ fp fz → ∃ f z, SL K H σ (st ρ i none) f z ∧ Less fp fz f z
  | [], [], fp, fz, i, r => ⟨fp, fz, by simpa [st] using r, .refl _ _⟩
  | s :: σ, none :: ρ, fp, fz, 0, r => ⟨fp, fz, r, .refl _ _⟩
  | s :: σ, some (d, n) :: ρ, fp, fz, 0, r => by
    obtain ⟨v, f1, f2, z1, z2, e, e1, e2, r1, r2⟩ := r
    refine ⟨f2, z2, r2, f1, ?_, fun a m => .inl (by rw [e2]; exact List.mem_append_right _ m)⟩
    rw [e1]; exact List.perm_append_comm
  | s :: σ, none :: ρ, fp, fz, i + 1, r => by
    obtain ⟨f, z, a, b⟩ := SL.drop (σ := σ) (ρ := ρ) i r
    exact ⟨f, z, a, b⟩
  | s :: σ, some (d, n) :: ρ, fp, fz, i + 1, r => by
    obtain ⟨v, f1, f2, z1, z2, e, e1, e2, r1, r2⟩ := r
    obtain ⟨f, z, a, b⟩ := SL.drop (σ := σ) (ρ := ρ) i r2
    subst e1 e2
    exact ⟨f1 ++ f, z1 ++ z, ⟨v, f1, f, z1, z, e, rfl, rfl, r1, a⟩, (Less.refl f1 z1).app b⟩
  | [], _ :: _, _, _, _, r => False.elim r
  | _ :: _, [], _, _, _, r => False.elim r
/-- the value of a slot of which nothing is told may be another one -/
theorem SL.other : ∀ {σ : St} {ρ : Env} {fp fz : List Addr} {i : Nat} (x : Option V), SL K H σ (st ρ i none) fp fz → SL K H (σ.set i x) (st ρ i none) fp fz
  | [], [], _, _, _, _, r => by simpa [st] using r
  | s :: σ, t :: ρ, fp, fz, 0, x, r => r
  | s :: σ, none :: ρ, fp, fz, i + 1, x, r => SL.other (σ := σ) (ρ := ρ) (i := i) x r
  | s :: σ, some (d, n) :: ρ, fp, fz, i + 1, x, r => by
    obtain ⟨v, f1, f2, z1, z2, e, e1, e2, r1, r2⟩ := r
    exact ⟨v, f1, f2, z1, z2, e, e1, e2, r1, SL.other (σ := σ) (ρ := ρ) (i := i) x r2⟩
  | [], _ :: _, _, _, 0, _, r => by simp [st, SL] at r
  | [], _ :: _, _, _, _ + 1, _, r => by simp [st, SL] at r
  | _ :: _, [], _, _, _, _, r => by simp [st, SL] at r
/-- x = v -/
theorem SL.set {σ : St} {ρ : Env} {fp fz : List Addr} {i : Nat} {d : D} {n : Nat} {v : V} {f1 z1 : List Addr} (r : SL K H σ ρ fp fz) (hi : i < σ.length) (rv : Rep K H d n v f1 z1) :
    ∃ f z, SL K H (σ.set i (some v)) (st ρ i (some (d, n))) f z ∧ Less (f1 ++ fp) (z1 ++ fz) f z := by
  obtain ⟨f2, z2, a, b⟩ := SL.drop i r
  obtain ⟨f, z, c, p, q⟩ := SL.fill (SL.other (some v) a) (by simp [hi]) rv
  refine ⟨f, z, c, ?_⟩
  obtain ⟨mv, pp, ss⟩ := (Less.refl f1 z1).app b
  exact ⟨mv, List.Perm.trans (List.Perm.append_right mv p.symm) pp, fun x m => ss x (q.mem_iff.mpr m)⟩
end
end Pi
/-! Pi3: operations on data are operations on values. -/
namespace Pi
open PySem L2

theorem Stay.new {H : Hp} {p : Addr} {o : HO} (hp : H p = none) : Stay [] H (upd H p o) := fun a u e _ => by
  rw [upd_ne (ne_of_none e hp)]; exact e
theorem Stay.trans0 {H H1 H2 : Hp} (a : Stay [] H H1) (b : Stay [] H1 H2) : Stay [] H H2 := fun x o e _ => b x o (a x o e (fun m => absurd m List.not_mem_nil)) (fun m => absurd m List.not_mem_nil)
/-- the value d of an operation on frozen things at fz -/
def PQ (K : PySem.W.Frag) (H : Hp) (fz : List Addr) (d : D) (Q : VK) : Prop :=
  ∀ v H' f z, Rep K H' d (dep d) v f z → Stay [] H H' → (∀ a ∈ f, H a = none) → f.Nodup → (∀ a ∈ f, a ∉ z) → (∀ a ∈ z, a ∈ fz ∨ H a = none) → Q v H'
section
variable {K : PySem.W.Frag} {H H' : Hp} {fz : List Addr} {Q : VK}
theorem PQ.mono {fz' : List Addr} {d : D} (q : PQ K H fz d Q) (h : ∀ a ∈ fz', a ∈ fz) : PQ K H fz' d Q := fun v H' f z r s a b c e => q v H' f z r s a b c fun x m => (e x m).imp (h x) id
theorem PQ.int {i : Int} (q : PQ K H fz (.int i) Q) : Q (.int i) H := q _ H [] [] (by simp [Rep]) (.refl _ _) (by simp) (by simp) (by simp) (by simp)
theorem PQ.str {i : Str} (q : PQ K H fz (.str i) Q) : Q (.str i) H := q _ H [] [] (by simp [Rep]) (.refl _ _) (by simp) (by simp) (by simp) (by simp)
theorem PQ.bl {i : Bool} (q : PQ K H fz (.bl i) Q) : Q (.bl i) H := q _ H [] [] (by simp [Rep]) (.refl _ _) (by simp) (by simp) (by simp) (by simp)
theorem PQ.non (q : PQ K H fz .non Q) : Q .non H := q _ H [] [] (by simp [Rep]) (.refl _ _) (by simp) (by simp) (by simp) (by simp)
/-- a thing that stands already -/
theorem PQ.same {d : D} {v : V} {z : List Addr} (q : PQ K H fz d Q) (hd : dep d = 0) (r : Rep K H d 0 v [] z) (hz : ∀ a ∈ z, a ∈ fz) : Q v H :=
  q v H [] z (by rw [hd]; exact r) (.refl _ _) (by simp) (by simp) (by simp) fun a m => .inl (hz a m)
theorem RepL.stay0 (s : Stay [] H H') {ds : List D} {n : Nat} {vs : List V} {fp fz : List Addr} (r : RepL K H ds n vs fp fz) : RepL K H' ds n vs fp fz := RepL.stay s ds n vs fp fz r (by simp) (by simp)
theorem Rep.stay0 (s : Stay [] H H') {d : D} {n : Nat} {v : V} {fp fz : List Addr} (r : Rep K H d n v fp fz) : Rep K H' d n v fp fz := Rep.stay s d n v fp fz r (by simp) (by simp)
theorem PQ.lst {l : List D} {vs : List V} {z : List Addr} (q : PQ K H fz (.lst l) Q) (r : RepL K H l 0 vs [] z) (hz : ∀ a ∈ z, a ∈ fz) (p : Addr) (hp : H p = none) : Q (.ref p) (upd H p (.lst vs)) := by
  have own := (RepL.own l 0 vs [] z r).2
  refine q _ _ [p] z ?_ (.new hp) (fun a m => by rw [List.mem_singleton.mp m]; exact hp) (by simp) (fun a m => ?_) fun a m => .inl (hz a m)
  · simp only [Rep, dep]
    exact ⟨p, vs, [], z, rfl, RepL.stay0 (.new hp) r, .inr ⟨by decide, upd_same, rfl, rfl⟩⟩
  · rw [List.mem_singleton.mp m]
    intro m2
    obtain ⟨o, e⟩ := own p m2
    rw [hp] at e; cases e
theorem PQ.tup {l : List D} {vs : List V} {z : List Addr} (q : PQ K H fz (.tup l) Q) (r : RepL K H l 0 vs [] z) (hz : ∀ a ∈ z, a ∈ fz) (p : Addr) (hp : H p = none) : Q (.ref p) (upd H p (.tup vs)) := by
  refine q _ _ [] z ?_ (.new hp) (by simp) (by simp) (by simp) fun a m => .inl (hz a m)
  simp only [Rep, dep]
  exact ⟨p, vs, rfl, upd_same, RepL.stay0 (.new hp) r⟩
theorem RepL.len : ∀ {ds : List D} {n : Nat} {vs : List V} {fp fz : List Addr}, RepL K H ds n vs fp fz → vs.length = ds.length
  | [], _, _, _, _, r => by simp only [RepL] at r; simp [r]
  | d :: ds, n, vs, fp, fz, r => by
    simp only [RepL] at r
    obtain ⟨v, vs', f1, f2, z1, z2, e, e1, e2, r1, r2⟩ := r
    simp [e, RepL.len r2]
theorem RepL.app : ∀ {ds es : List D} {n : Nat} {vs ws : List V} {f1 z1 f2 z2 : List Addr}, RepL K H ds n vs f1 z1 → RepL K H es n ws f2 z2 → RepL K H (ds ++ es) n (vs ++ ws) (f1 ++ f2) (z1 ++ z2)
  | [], es, n, vs, ws, f1, z1, f2, z2, r, s => by
    simp only [RepL] at r
    obtain ⟨rfl, rfl, rfl⟩ := r
    exact s
  | d :: ds, es, n, vs, ws, f1, z1, f2, z2, r, s => by
    simp only [RepL] at r
    obtain ⟨v, vs', g1, g2, y1, y2, e, e1, e2, r1, r2⟩ := r
    subst e e1 e2
    simp only [List.cons_append, RepL]
    exact ⟨v, vs' ++ ws, g1, g2 ++ f2, y1, y2 ++ z2, rfl, List.append_assoc .., List.append_assoc .., r1, RepL.app r2 s⟩
/-- frozen items, from their values -/
theorem RepL.at0 : ∀ {ds : List D} {vs : List V} {z : List Addr}, RepL K H ds 0 vs [] z → ∀ (i : Nat) (d : D), ds[i]? = some d → ∃ v z', vs[i]? = some v ∧ Rep K H d 0 v [] z' ∧ ∀ a ∈ z', a ∈ z
  | [], _, _, _, i, d, h => by simp at h
  | x :: ds, vs, z, r, 0, d, h => by
    simp only [RepL] at r
    obtain ⟨v, vs', g1, g2, y1, y2, e, e1, e2, r1, r2⟩ := r
    have hx : x = d := by simpa using h
    subst hx
    have : g1 = [] := Rep.zero _ _ _ _ r1
    subst this
    exact ⟨v, y1, by simp [e], r1, fun a m => by rw [e2]; exact List.mem_append_left _ m⟩
  | x :: ds, vs, z, r, i + 1, d, h => by
    simp only [RepL] at r
    obtain ⟨v, vs', g1, g2, y1, y2, e, e1, e2, r1, r2⟩ := r
    have : g2 = [] := RepL.zero _ _ _ _ r2
    subst this
    obtain ⟨w, z', a, b, c⟩ := RepL.at0 r2 i d (by simpa using h)
    exact ⟨w, z', by simp [e, a], b, fun x m => by rw [e2]; exact List.mem_append_right _ (c x m)⟩
/-- any list of items of a frozen list: by a choice of places -/
theorem RepL.of_at {z : List Addr} : ∀ (es : List D) (ws : List V), es.length = ws.length → (∀ (i : Nat) (d : D) (v : V), es[i]? = some d → ws[i]? = some v → ∃ z', Rep K H d 0 v [] z' ∧ ∀ a ∈ z', a ∈ z) → ∃ z', RepL K H es 0 ws [] z' ∧ ∀ a ∈ z', a ∈ z
  | [], [], _, _ => ⟨[], by simp [RepL], by simp⟩
  | d :: es, v :: ws, hl, h => by
    obtain ⟨z1, r1, s1⟩ := h 0 d v rfl rfl
    obtain ⟨z2, r2, s2⟩ := RepL.of_at es ws (by simpa using hl) fun i d v a b => h (i + 1) d v (by simpa using a) (by simpa using b)
    refine ⟨z1 ++ z2, ?_, fun a m => (List.mem_append.mp m).elim (s1 a) (s2 a)⟩
    simp only [RepL]
    exact ⟨v, ws, [], [], z1, z2, rfl, rfl, rfl, r1, r2⟩
  | [], _ :: _, hl, _ => by simp at hl
  | _ :: _, [], hl, _ => by simp at hl
theorem RepL.drop {ds : List D} {vs : List V} {z : List Addr} (r : RepL K H ds 0 vs [] z) (k : Nat) : ∃ z', RepL K H (ds.drop k) 0 (vs.drop k) [] z' ∧ ∀ a ∈ z', a ∈ z := by
  refine RepL.of_at _ _ (by simp [RepL.len r]) fun i d v a b => ?_
  rw [List.getElem?_drop] at a b
  obtain ⟨w, z', e, r', s⟩ := RepL.at0 r _ d a
  rw [b] at e; cases e
  exact ⟨z', r', s⟩
theorem RepL.takeN {ds : List D} {vs : List V} {z : List Addr} (r : RepL K H ds 0 vs [] z) (k : Nat) : ∃ z', RepL K H (ds.take k) 0 (vs.take k) [] z' ∧ ∀ a ∈ z', a ∈ z := by
  refine RepL.of_at _ _ (by simp [RepL.len r]) fun i d v a b => ?_
  rw [List.getElem?_take] at a b
  split at a
  · rename_i hk
    rw [if_pos hk] at b
    obtain ⟨w, z', e, r', s⟩ := RepL.at0 r _ d a
    rw [b] at e; cases e
    exact ⟨z', r', s⟩
  · cases a
theorem RepL.rev {ds : List D} {vs : List V} {z : List Addr} (r : RepL K H ds 0 vs [] z) : ∃ z', RepL K H ds.reverse 0 vs.reverse [] z' ∧ ∀ a ∈ z', a ∈ z := by
  have hl := RepL.len r
  refine RepL.of_at _ _ (by simp [hl]) fun i d v a b => ?_
  by_cases hi : i < ds.length
  · rw [List.getElem?_reverse hi] at a
    rw [List.getElem?_reverse (by omega), hl] at b
    obtain ⟨w, z', e, r', s⟩ := RepL.at0 r _ d a
    rw [b] at e; cases e
    exact ⟨z', r', s⟩
  · rw [List.getElem?_eq_none (by simp; omega)] at a; cases a
theorem RepL.rep {ds : List D} {vs : List V} {z : List Addr} (r : RepL K H ds 0 vs [] z) : ∀ k : Nat, ∃ z', RepL K H (List.replicate k ds).flatten 0 (List.replicate k vs).flatten [] z' ∧ ∀ a ∈ z', a ∈ z
  | 0 => ⟨[], by simp [RepL], by simp⟩
  | k + 1 => by
    obtain ⟨z', r', s⟩ := RepL.rep r k
    exact ⟨z ++ z', by simpa [List.replicate_succ] using RepL.app r r', fun a m => (List.mem_append.mp m).elim id (s a)⟩
theorem RepL.ints : ∀ (ns : List Int), RepL K H (ns.map .int) 0 (ns.map .int) [] []
  | [] => by simp [RepL]
  | n :: ns => by
    simp only [List.map_cons, RepL]
    exact ⟨.int n, ns.map .int, [], [], [], [], rfl, rfl, rfl, by simp [Rep], RepL.ints ns⟩
theorem Rep.toInt {i : Int} {n : Nat} {v : V} {fp fz : List Addr} (r : Rep K H (.int i) n v fp fz) : v = .int i := by simp only [Rep] at r; exact r.1
theorem Rep.toStr {i : Str} {n : Nat} {v : V} {fp fz : List Addr} (r : Rep K H (.str i) n v fp fz) : v = .str i := by simp only [Rep] at r; exact r.1
theorem Rep.toBl {i : Bool} {n : Nat} {v : V} {fp fz : List Addr} (r : Rep K H (.bl i) n v fp fz) : v = .bl i := by simp only [Rep] at r; exact r.1
theorem Rep.toNon {n : Nat} {v : V} {fp fz : List Addr} (r : Rep K H .non n v fp fz) : v = .non := by simp only [Rep] at r; exact r.1
theorem Rep.toLst {l : List D} {v : V} {fz : List Addr} (r : Rep K H (.lst l) 0 v [] fz) : ∃ a vs z, v = .ref a ∧ H a = some (.lst vs) ∧ RepL K H l 0 vs [] z ∧ fz = a :: z := by
  simp only [Rep] at r
  obtain ⟨a, vs, f, z, e, r, q⟩ := r
  rcases q with ⟨_, q, e1, e2⟩ | ⟨h, _⟩
  · subst e1; exact ⟨a, vs, z, e, q, r, e2⟩
  · exact absurd rfl h
theorem Rep.toTup {l : List D} {n : Nat} {v : V} {fp fz : List Addr} (r : Rep K H (.tup l) n v fp fz) : ∃ a vs, v = .ref a ∧ H a = some (.tup vs) ∧ RepL K H l n vs fp fz := by
  simpa only [Rep] using r
theorem Rep.toCtup {l : List D} {n : Nat} {v : V} {fp fz : List Addr} (r : Rep K H (.ctup l) n v fp fz) : ∃ a vs, v = .ref a ∧ SqT K H a vs ∧ RepL K H l n vs fp fz := by
  simpa only [Rep] using r
theorem Rep.toDk {l : List (Key × D)} {v : V} {fz : List Addr} (r : Rep K H (.dk l) 0 v [] fz) : ∃ a vs z, v = .ref a ∧ Rd H a (.dK vs) ∧ RepK K H l 0 vs [] z ∧ fz = a :: z := by
  simp only [Rep] at r
  obtain ⟨a, vs, f, z, e, r, q⟩ := r
  rcases q with ⟨_, q, e1, e2⟩ | ⟨h, _⟩
  · subst e1; exact ⟨a, vs, z, e, q, r, e2⟩
  · exact absurd rfl h
theorem Rep.toDt {l : List (List Key × D)} {v : V} {fz : List Addr} (r : Rep K H (.dt l) 0 v [] fz) : ∃ a vs z, v = .ref a ∧ Rd H a (.dT vs) ∧ RepT K H l 0 vs [] z ∧ fz = a :: z := by
  simp only [Rep] at r
  obtain ⟨a, vs, f, z, e, r, q⟩ := r
  rcases q with ⟨_, q, e1, e2⟩ | ⟨h, _⟩
  · subst e1; exact ⟨a, vs, z, e, q, r, e2⟩
  · exact absurd rfl h
theorem sql_rd {a : Addr} {xs : List V} (r : Rd H a (.lst xs)) : SqL K H a xs := .inl r
end
/-- what is known of a list's object -/
theorem lst_rd {X : Cx} {pins : List (Addr × Obj)} {σ : St} {H : Hp} {s : Shared} {l : Addr} {xs : List V} (I : Inv X pins σ H s) (r : Rd H l (.lst xs)) :
    xs.length ≤ sizeLine ∧ ∃ (its : List Value) (n : Nat), Vals xs its ∧ s.heap.get? l = some { cls := .type "list", data := .seq its.toArray n } :=
  r.ok I.hok
section
variable {X : Cx}
/-- an operation of two frozen data -/
def r2D (K : PySem.W.Frag) (f : D → D → Option D) : R2 := fun x y H Q => ∃ d1 z1 d2 z2 d, Rep K H d1 0 x [] z1 ∧ Rep K H d2 0 y [] z2 ∧ f d1 d2 = some d ∧ PQ K H (z1 ++ z2) d Q
theorem opr_imp {f : Value → Value → Sem Value} {r r' : R2} (h : OpR X f r) (i : ∀ x y H Q, r' x y H Q → r x y H Q) : OpR X f r' := fun pins s σ H x y v u Q I rx ry q => h pins s σ H x y v u Q I rx ry (i x y H Q q)
theorem opr_false {f : Value → Value → Sem Value} {r' : R2} (i : ∀ x y H Q, ¬ r' x y H Q) : OpR X f r' := fun pins s σ H x y v u Q I rx ry q => absurd q (i x y H Q)
theorem mulOk_c {i j : Int} (h : mulOk i j = true) : CMul i j ∨ CMulW i j := by
  simp only [mulOk, Bool.or_eq_true, decide_eq_true_eq] at h
  rcases h with (h | h) | h
  · exact .inl (.inl (by omega))
  · exact .inl (.inr (by omega))
  · exact .inr h
theorem divOk_c {j : Int} (h : divOk j = true) : (∀ i : Int, CDiv i j) ∨ (∀ i : Int, CDivW i j) := by
  simp only [divOk, Bool.and_eq_true, Bool.or_eq_true, decide_eq_true_eq] at h
  rcases h with ⟨h0, h | h⟩
  · exact .inl fun _ => ⟨h0, h⟩
  · exact .inr fun _ => ⟨h0, h⟩
theorem op2_ok (o : Operator) : OpR X (binaryOp o) (r2D X.K (op2D o)) := by
  cases o
  case Add =>
    intro pins s σ H x y v u Q I rx ry ⟨d1, z1, d2, z2, d, r1, r2, e, q⟩
    simp only [op2D] at e
    unfold addD at e
    split at e
    · cases e
      cases r1.toInt; cases r2.toInt
      exact op_add pins s σ H _ _ v u Q I rx ry ⟨_, _, rfl, rfl, q.int⟩
    · split at e
      · rename_i hl
        cases e
        cases r1.toStr; cases r2.toStr
        exact op_add_str pins s σ H _ _ v u Q I rx ry ⟨_, _, rfl, rfl, hl, q.str⟩
      · cases e
    · split at e
      · rename_i hl
        cases e
        obtain ⟨a, vs, z, rfl, h1, rl1, rfl⟩ := r1.toLst
        obtain ⟨b, ws, y, rfl, h2, rl2, rfl⟩ := r2.toLst
        refine op_cat pins s σ H _ _ v u Q I rx ry ⟨a, b, vs, ws, rfl, rfl, h1, h2, by rw [RepL.len rl1, RepL.len rl2]; exact hl, fun p hp => ?_⟩
        exact q.lst (RepL.app rl1 rl2) (fun a m => by simp only [List.mem_append, List.mem_cons] at m ⊢; rcases m with m | m <;> simp [m]) p hp
      · cases e
    · rename_i l m
      split at e
      · rename_i hl
        split at e
        · cases e
        · rename_i hne
          cases e
          obtain ⟨a, vs, rfl, h1, rl1⟩ := r1.toTup
          obtain ⟨b, ws, rfl, h2, rl2⟩ := r2.toTup
          have l1 := RepL.len rl1
          have l2 := RepL.len rl2
          refine op_catT pins s σ H _ _ v u Q I rx ry ⟨a, b, vs, ws, rfl, rfl, SqT.of h1, SqT.of h2, ?_, by rw [l1, l2]; exact hl, fun e => ?_, fun _ p hp => ?_⟩
          · rintro rfl
            cases l with
            | nil => exact hne rfl
            | cons _ _ => simp at l1
          · subst e
            have : m = [] := by cases m with | nil => rfl | cons _ _ => simp at l2
            subst this
            refine q.same (z := z1) rfl ?_ (fun a m => List.mem_append_left _ m)
            rw [List.append_nil]
            exact r1
          · exact q.tup (RepL.app rl1 rl2) (fun a m => m) p hp
      · cases e
    · cases e
  case Sub =>
    intro pins s σ H x y v u Q I rx ry ⟨d1, z1, d2, z2, d, r1, r2, e, q⟩
    simp only [op2D] at e
    unfold subD at e
    split at e
    · cases e
      cases r1.toInt; cases r2.toInt
      exact op_sub pins s σ H _ _ v u Q I rx ry ⟨_, _, rfl, rfl, q.int⟩
    · cases e
  case Mult =>
    intro pins s σ H x y v u Q I rx ry ⟨d1, z1, d2, z2, d, r1, r2, e, q⟩
    simp only [op2D] at e
    unfold mulD at e
    split at e
    · split at e
      · rename_i hm
        cases e
        cases r1.toInt; cases r2.toInt
        rcases mulOk_c hm with c | c
        · exact op_mul pins s σ H _ _ v u Q I rx ry ⟨_, _, rfl, rfl, c, q.int⟩
        · exact op_mulW pins s σ H _ _ v u Q I rx ry ⟨_, _, rfl, rfl, c, q.int⟩
      · cases e
    · split at e
      · rename_i hm
        simp only [Bool.and_eq_true, decide_eq_true_eq] at hm
        cases e
        obtain ⟨a, vs, z, rfl, h1, rl1, rfl⟩ := r1.toLst
        cases r2.toInt
        refine op_rep pins s σ H _ _ v u Q I rx ry ⟨a, _, vs, rfl, rfl, h1, hm.1.1, hm.1.2, by rw [RepL.len rl1]; exact hm.2, fun p hp => ?_⟩
        obtain ⟨z', r', s'⟩ := RepL.rep rl1 _
        exact q.lst r' (fun a m => List.mem_append_left _ (List.mem_cons_of_mem _ (s' a m))) p hp
      · cases e
    · cases e
  case FloorDiv =>
    intro pins s σ H x y v u Q I rx ry ⟨d1, z1, d2, z2, d, r1, r2, e, q⟩
    simp only [op2D] at e
    unfold fdivD at e
    split at e
    · split at e
      · rename_i hm
        cases e
        cases r1.toInt; cases r2.toInt
        rcases divOk_c hm with c | c
        · exact op_fdiv pins s σ H _ _ v u Q I rx ry ⟨_, _, rfl, rfl, c _, q.int⟩
        · exact op_fdivW pins s σ H _ _ v u Q I rx ry ⟨_, _, rfl, rfl, c _, q.int⟩
      · cases e
    · cases e
  case Mod =>
    intro pins s σ H x y v u Q I rx ry ⟨d1, z1, d2, z2, d, r1, r2, e, q⟩
    simp only [op2D] at e
    unfold modD at e
    split at e
    · split at e
      · rename_i hm
        cases e
        cases r1.toInt; cases r2.toInt
        exact op_mod pins s σ H _ _ v u Q I rx ry ⟨_, _, rfl, rfl, hm, q.int⟩
      · split at e
        · rename_i hm
          cases e
          cases r1.toInt; cases r2.toInt
          exact op_modN pins s σ H _ _ v u Q I rx ry ⟨_, _, rfl, rfl, hm, q.int⟩
        · cases e
    · cases e
  case Pow =>
    intro pins s σ H x y v u Q I rx ry ⟨d1, z1, d2, z2, d, r1, r2, e, q⟩
    simp only [op2D] at e
    unfold powD at e
    split at e
    · split at e
      · rename_i hm
        simp only [Bool.and_eq_true, decide_eq_true_eq] at hm
        cases e
        cases r1.toInt; cases r2.toInt
        exact op_pow pins s σ H _ _ v u Q I rx ry ⟨_, _, rfl, rfl, ⟨hm.1.1, hm.1.2, hm.2⟩, q.int⟩
      · cases e
    · cases e
  case LShift =>
    intro pins s σ H x y v u Q I rx ry ⟨d1, z1, d2, z2, d, r1, r2, e, q⟩
    simp only [op2D] at e
    unfold shlD at e
    split at e
    · split at e
      · rename_i hm
        simp only [Bool.and_eq_true, decide_eq_true_eq] at hm
        cases e
        cases r1.toInt; cases r2.toInt
        exact op_shl pins s σ H _ _ v u Q I rx ry ⟨_, _, rfl, rfl, ⟨hm.1.1, hm.1.2, hm.2⟩, q.int⟩
      · cases e
    · cases e
  case RShift =>
    intro pins s σ H x y v u Q I rx ry ⟨d1, z1, d2, z2, d, r1, r2, e, q⟩
    simp only [op2D] at e
    unfold shrD at e
    split at e
    · split at e
      · rename_i hm
        cases e
        cases r1.toInt; cases r2.toInt
        exact op_shr pins s σ H _ _ v u Q I rx ry ⟨_, _, rfl, rfl, hm, q.int⟩
      · cases e
    · cases e
  case BitAnd =>
    intro pins s σ H x y v u Q I rx ry ⟨d1, z1, d2, z2, d, r1, r2, e, q⟩
    simp only [op2D] at e
    unfold andD at e
    split at e
    · cases e
      cases r1.toInt; cases r2.toInt
      exact op_and pins s σ H _ _ v u Q I rx ry ⟨_, _, rfl, rfl, q.int⟩
    · cases e
  case BitOr =>
    intro pins s σ H x y v u Q I rx ry ⟨d1, z1, d2, z2, d, r1, r2, e, q⟩
    simp only [op2D] at e
    unfold orD at e
    split at e
    · cases e
      cases r1.toInt; cases r2.toInt
      exact op_or pins s σ H _ _ v u Q I rx ry ⟨_, _, rfl, rfl, q.int⟩
    · cases e
  all_goals exact opr_false fun x y H Q ⟨d1, z1, d2, z2, d, r1, r2, e, q⟩ => by simp [op2D] at e
end
end Pi
/-! Pi4: comparisons, places, built-in functions. -/
namespace Pi
open PySem L2

section
variable {K : PySem.W.Frag} {H H' : Hp} {fz : List Addr}
/-! ### data that == compares -/
mutual
theorem Rep.dp : ∀ (d : D) (v : V) (z : List Addr) (p : PyData), Rep K H d 0 v [] z → toPy d = some p → p.canLay0 = true → Dp K H v p
  | .non, v, z, p, r, t, _ => by cases r.toNon; simp only [toPy, Option.some.injEq] at t; subst t; exact .non
  | .bl b, v, z, p, r, t, _ => by cases r.toBl; simp only [toPy, Option.some.injEq] at t; subst t; exact .bl b
  | .int b, v, z, p, r, t, _ => by cases r.toInt; simp only [toPy, Option.some.injEq] at t; subst t; exact .int b
  | .str b, v, z, p, r, t, _ => by cases r.toStr; simp only [toPy, Option.some.injEq] at t; subst t; exact .str b
  | .tup l, v, z, p, r, t, c => by
    obtain ⟨a, vs, rfl, q, rl⟩ := r.toTup
    simp only [toPy, Option.map_eq_some_iff] at t
    obtain ⟨ps, t, rfl⟩ := t
    exact .tup (SqT.of q) (RepL.dp l vs z ps rl t (by simpa only [PyData.canLay0] using c))
  | .ctup l, v, z, p, r, t, c => by
    obtain ⟨a, vs, rfl, q, rl⟩ := r.toCtup
    simp only [toPy, Option.map_eq_some_iff] at t
    obtain ⟨ps, t, rfl⟩ := t
    exact .tup q (RepL.dp l vs z ps rl t (by simpa only [PyData.canLay0] using c))
  | .lst l, v, z, p, r, t, c => by
    obtain ⟨a, vs, y, rfl, q, rl, rfl⟩ := r.toLst
    simp only [toPy, Option.map_eq_some_iff] at t
    obtain ⟨ps, t, rfl⟩ := t
    exact .lst (SqL.of q) (RepL.dp l vs y ps rl t (by simpa only [PyData.canLay0] using c))
  | .dk l, v, z, p, r, t, c => by
    simp only [toPy, Option.map_eq_some_iff] at t
    obtain ⟨ps, t, rfl⟩ := t
    simp [PyData.canLay0] at c
  | .dt _, _, _, _, _, t, _ => by simp [toPy] at t
  | .ins _ _, _, _, _, _, t, _ => by simp [toPy] at t
  | .ty _, _, _, _, _, t, _ => by simp [toPy] at t
  | .scr _, _, _, _, _, t, _ => by simp [toPy] at t
theorem RepL.dp : ∀ (l : List D) (vs : List V) (z : List Addr) (ps : List PyData), RepL K H l 0 vs [] z → toPyL l = some ps → PyData.canLayAll0 ps = true → DpAll K H vs ps
  | [], vs, z, ps, r, t, _ => by
    simp only [RepL] at r
    simp only [toPyL, Option.some.injEq] at t
    obtain ⟨rfl, _, _⟩ := r
    subst t; exact .nil
  | d :: l, vs, z, ps, r, t, c => by
    simp only [RepL] at r
    obtain ⟨v, vs', g1, g2, y1, y2, e, e1, e2, r1, r2⟩ := r
    have h1 := Rep.zero _ _ _ _ r1
    have h2 := RepL.zero _ _ _ _ r2
    subst e e2 h1 h2
    simp only [toPyL] at t
    split at t
    · rename_i p ps' e1 e2
      cases t
      simp only [PyData.canLayAll0, Bool.and_eq_true] at c
      exact .cons (Rep.dp d v y1 _ r1 e1 c.1) (RepL.dp l vs' y2 _ r2 e2 c.2)
    · cases t
end
theorem flat_rep {d : D} {v : V} {z : List Addr} (r : Rep K H d 0 v [] z) (f : flatD d = true) : flatV v = true := by
  cases d <;> simp [flatD] at f <;> simp only [Rep] at r <;> rw [r.1] <;> rfl
theorem flat_repL : ∀ {l : List D} {vs : List V} {z : List Addr}, RepL K H l 0 vs [] z → flatL l = true → vs.all flatV = true
  | [], vs, z, r, _ => by simp only [RepL] at r; rw [r.1]; rfl
  | d :: l, vs, z, r, f => by
    simp only [RepL] at r
    obtain ⟨v, vs', g1, g2, y1, y2, e, e1, e2, r1, r2⟩ := r
    have h1 := Rep.zero _ _ _ _ r1
    have h2 := RepL.zero _ _ _ _ r2
    subst e h1 h2
    simp only [flatL, Bool.and_eq_true] at f
    simp only [List.all_cons, Bool.and_eq_true]
    exact ⟨flat_rep r1 f.1, flat_repL r2 f.2⟩
theorem eqF_rep {d e : D} {v w : V} {z y : List Addr} (r : Rep K H d 0 v [] z) (s : Rep K H e 0 w [] y) (f : flatD d = true) (g : flatD e = true) : eqV v w = eqF d e := by
  cases d <;> simp [flatD] at f <;> cases e <;> simp [flatD] at g <;> simp only [Rep] at r s <;> rw [r.1, s.1] <;> rfl
theorem memF_rep {d : D} {v : V} {z : List Addr} (r : Rep K H d 0 v [] z) (f : flatD d = true) : ∀ {l : List D} {vs : List V} {y : List Addr}, RepL K H l 0 vs [] y → flatL l = true → inV v vs = memF d l
  | [], vs, y, r2, _ => by simp only [RepL] at r2; rw [r2.1]; rfl
  | e :: l, vs, y, r2, g => by
    simp only [RepL] at r2
    obtain ⟨w, vs', g1, g2, y1, y2, e0, e1, e2, s1, s2⟩ := r2
    have h1 := Rep.zero _ _ _ _ s1
    have h2 := RepL.zero _ _ _ _ s2
    subst e0 h1 h2
    simp only [flatL, Bool.and_eq_true] at g
    have := memF_rep r f s2 g.2
    simp only [inV, List.any_cons, memF] at this ⊢
    rw [this, eqF_rep s1 r g.1 f]
theorem key_rep {d : D} {k : Key} {v : V} {z : List Addr} (r : Rep K H d 0 v [] z) (h : isKey d = some k) : v = kV k := by
  cases d <;> simp [isKey] at h <;> subst h <;> simp only [Rep] at r <;> rw [r.1] <;> rfl
theorem keys_rep : ∀ {l : List D} {ks : List Key} {vs : List V} {z : List Addr}, RepL K H l 0 vs [] z → isKeys l = some ks → vs = ks.map kV
  | [], ks, vs, z, r, h => by simp only [RepL] at r; simp only [isKeys, Option.some.injEq] at h; rw [r.1, ← h]; rfl
  | d :: l, ks, vs, z, r, h => by
    simp only [RepL] at r
    obtain ⟨w, vs', g1, g2, y1, y2, e0, e1, e2, s1, s2⟩ := r
    have h1 := Rep.zero _ _ _ _ s1
    have h2 := RepL.zero _ _ _ _ s2
    subst e0 h1 h2
    simp only [isKeys] at h
    split at h
    · rename_i k ks' a b
      cases h
      rw [key_rep s1 a, keys_rep s2 b]; rfl
    · cases h
theorem RepK.val {n : Nat} : ∀ {l : List (Key × D)} {kvs : List (Key × V)} {fp z : List Addr}, RepK K H l n kvs fp z → ∀ (k : Key), (getK l k = none ∧ valV kvs k = none) ∨ (∃ d v, getK l k = some d ∧ valV kvs k = some v)
  | [], kvs, fp, z, r, k => by
    simp only [RepK] at r
    rw [r.1]; exact .inl ⟨rfl, valV_nil⟩
  | (j, d) :: l, kvs, fp, z, r, k => by
    simp only [RepK] at r
    obtain ⟨w, vs', g1, g2, y1, y2, e0, e1, e2, s1, s2⟩ := r
    subst e0
    by_cases hj : j = k
    · exact .inr ⟨d, w, by simp [getK, hj], valV_pos hj⟩
    · rcases RepK.val s2 k with ⟨a, b⟩ | ⟨d', v', a, b⟩
      · exact .inl ⟨by simp [getK, hj, a], by rw [valV_neg hj]; exact b⟩
      · exact .inr ⟨d', v', by simp [getK, hj, a], by rw [valV_neg hj]; exact b⟩
theorem RepT.val {n : Nat} : ∀ {l : List (List Key × D)} {kvs : List (List Key × V)} {fp z : List Addr}, RepT K H l n kvs fp z → ∀ (k : List Key), (getK l k = none ∧ valV kvs k = none) ∨ (∃ d v, getK l k = some d ∧ valV kvs k = some v)
  | [], kvs, fp, z, r, k => by
    simp only [RepT] at r
    rw [r.1]; exact .inl ⟨rfl, valV_nil⟩
  | (j, d) :: l, kvs, fp, z, r, k => by
    simp only [RepT] at r
    obtain ⟨w, vs', g1, g2, y1, y2, e0, e1, e2, s1, s2⟩ := r
    subst e0
    by_cases hj : j = k
    · exact .inr ⟨d, w, by simp [getK, hj], valV_pos hj⟩
    · rcases RepT.val s2 k with ⟨a, b⟩ | ⟨d', v', a, b⟩
      · exact .inl ⟨by simp [getK, hj, a], by rw [valV_neg hj]; exact b⟩
      · exact .inr ⟨d', v', by simp [getK, hj, a], by rw [valV_neg hj]; exact b⟩
/-- what a frozen dict holds -/
theorem RepK.at0 : ∀ {l : List (Key × D)} {kvs : List (Key × V)} {z : List Addr}, RepK K H l 0 kvs [] z → ∀ (k : Key) (d : D), getK l k = some d → ∃ v z', valV kvs k = some v ∧ Rep K H d 0 v [] z' ∧ ∀ a ∈ z', a ∈ z
  | [], kvs, z, r, k, d, h => by simp [getK] at h
  | (j, x) :: l, kvs, z, r, k, d, h => by
    simp only [RepK] at r
    obtain ⟨w, vs', g1, g2, y1, y2, e0, e1, e2, s1, s2⟩ := r
    have h1 := Rep.zero _ _ _ _ s1
    have h2 := RepK.zero _ _ _ _ s2
    subst e0 h1 h2
    by_cases hj : j = k
    · simp only [getK, if_pos hj, Option.some.injEq] at h
      subst h
      exact ⟨w, y1, valV_pos hj, s1, fun a m => by rw [e2]; exact List.mem_append_left _ m⟩
    · simp only [getK, if_neg hj] at h
      obtain ⟨v, z', a, b, c⟩ := RepK.at0 s2 k d h
      exact ⟨v, z', by rw [valV_neg hj]; exact a, b, fun a m => by rw [e2]; exact List.mem_append_right _ (c a m)⟩
theorem RepT.at0 : ∀ {l : List (List Key × D)} {kvs : List (List Key × V)} {z : List Addr}, RepT K H l 0 kvs [] z → ∀ (k : List Key) (d : D), getK l k = some d → ∃ v z', valV kvs k = some v ∧ Rep K H d 0 v [] z' ∧ ∀ a ∈ z', a ∈ z
  | [], kvs, z, r, k, d, h => by simp [getK] at h
  | (j, x) :: l, kvs, z, r, k, d, h => by
    simp only [RepT] at r
    obtain ⟨w, vs', g1, g2, y1, y2, e0, e1, e2, s1, s2⟩ := r
    have h1 := Rep.zero _ _ _ _ s1
    have h2 := RepT.zero _ _ _ _ s2
    subst e0 h1 h2
    by_cases hj : j = k
    · simp only [getK, if_pos hj, Option.some.injEq] at h
      subst h
      exact ⟨w, y1, valV_pos hj, s1, fun a m => by rw [e2]; exact List.mem_append_left _ m⟩
    · simp only [getK, if_neg hj] at h
      obtain ⟨v, z', a, b, c⟩ := RepT.at0 s2 k d h
      exact ⟨v, z', by rw [valV_neg hj]; exact a, b, fun a m => by rw [e2]; exact List.mem_append_right _ (c a m)⟩
theorem RepK.len : ∀ {l : List (Key × D)} {n : Nat} {kvs : List (Key × V)} {fp z : List Addr}, RepK K H l n kvs fp z → kvs.length = l.length
  | [], n, kvs, fp, z, r => by simp only [RepK] at r; simp [r]
  | (k, d) :: l, n, kvs, fp, z, r => by
    simp only [RepK] at r
    obtain ⟨w, vs', g1, g2, y1, y2, e0, e1, e2, s1, s2⟩ := r
    simp [e0, RepK.len s2]
theorem hasK_get {κ α : Type} [DecidableEq κ] (l : List (κ × α)) (k : κ) : hasK l k = (getK l k).isSome := by
  induction l with
  | nil => rfl
  | cons p r ih => simp only [hasK, getK]; split <;> simp [ih]
/-- what the dict d at its address holds at the key x -/
theorem dget_rep {o x : D} {v w : V} {z y : List Addr} (r : Rep K H o 0 v [] z) (s : Rep K H x 0 w [] y) {b : Bool} (h : inD x o = some b) (hd : (∃ l, o = .dk l) ∨ ∃ l, o = .dt l) :
    ∃ a u, v = .ref a ∧ DGet H a w u ∧ u.isSome = b := by
  rcases hd with ⟨l, rfl⟩ | ⟨l, rfl⟩
  · obtain ⟨a, kvs, z', rfl, q, rk, rfl⟩ := r.toDk
    simp only [inD] at h
    split at h
    · rename_i k hk
      cases h
      refine ⟨a, valV kvs k, rfl, .inl ⟨kvs, k, q, key_rep s hk, rfl⟩, ?_⟩
      rw [hasK_get]
      rcases rk.val k with ⟨a, b⟩ | ⟨_, _, a, b⟩ <;> rw [a, b] <;> rfl
    · cases h
  · obtain ⟨a, kvs, z', rfl, q, rk, rfl⟩ := r.toDt
    simp only [inD] at h
    split at h
    · rename_i ks
      simp only [Option.map_eq_some_iff] at h
      obtain ⟨k, hk, rfl⟩ := h
      obtain ⟨c, vs, rfl, hc, rl⟩ := s.toTup
      refine ⟨a, valV kvs k, rfl, .inr ⟨kvs, k, c, q, rfl, by rw [hc, keys_rep rl hk], rfl⟩, ?_⟩
      rw [hasK_get]
      rcases rk.val k with ⟨a, b⟩ | ⟨_, _, a, b⟩ <;> rw [a, b] <;> rfl
    · cases h
theorem shaped_lay {p : PyData} (h : SeqAt.shaped p = true) : p.canLay0 = true := SeqAt.canLay_of_shaped h
end
section
variable {X : Cx}
/-- a comparison of two frozen data -/
def rC (K : PySem.W.Frag) (f : D → D → Option Bool) : R2 := fun x y H Q => ∃ d1 z1 d2 z2 b, Rep K H d1 0 x [] z1 ∧ Rep K H d2 0 y [] z2 ∧ f d1 d2 = some b ∧ Q (.bl b) H
theorem scal_rep {K : PySem.W.Frag} {H : Hp} {d e : D} {v w : V} {z y : List Addr} {b : Bool} (r : Rep K H d 0 v [] z) (s : Rep K H e 0 w [] y) (h : scalD d e = some b) : scal v w = true ∧ decide (v = w) = b := by
  cases d <;> cases e <;> simp only [scalD, Option.some.injEq, reduceCtorEq] at h <;> simp only [Rep] at r s <;> rw [r.1, s.1] <;> subst h <;> refine ⟨rfl, ?_⟩ <;>
    first | exact dec_int | exact dec_bl | exact dec_str | (rw [decide_eq_true]; rfl) | (exact decide_eq_false (fun q => nomatch q))
theorem eq_ok (hu : X.A.units + 64 < cLine) : OpR X (compareOp .Eq) (rC X.K eqD) := by
  intro pins s σ H x y v u Q I rx ry ⟨d1, z1, d2, z2, b, r1, r2, e, q⟩
  unfold eqD at e
  split at e
  · rename_i c h
    cases e
    obtain ⟨h1, h2⟩ := scal_rep r1 r2 h
    exact op_eq pins s σ H x y v u Q I rx ry ⟨h1, by rw [h2]; exact q⟩
  · split at e
    · rename_i p q' hp hq
      split at e
      · rename_i h
        cases e
        simp only [Bool.and_eq_true] at h
        exact op_eqD hu pins s σ H x y v u Q I rx ry ⟨p, q', r1.dp _ _ _ _ hp (shaped_lay h.1), r2.dp _ _ _ _ hq (shaped_lay h.2), h.1, h.2, q⟩
      · cases e
    · cases e
theorem ne_ok (hu : X.A.units + 64 < cLine) : OpR X (compareOp .NotEq) (rC X.K fun a b => (eqD a b).map (!·)) := by
  intro pins s σ H x y v u Q I rx ry ⟨d1, z1, d2, z2, b, r1, r2, e, q⟩
  simp only [Option.map_eq_some_iff] at e
  obtain ⟨b, e, rfl⟩ := e
  unfold eqD at e
  split at e
  · rename_i c h
    cases e
    obtain ⟨h1, h2⟩ := scal_rep r1 r2 h
    exact op_ne pins s σ H x y v u Q I rx ry ⟨h1, by rw [h2]; exact q⟩
  · split at e
    · rename_i p q' hp hq
      split at e
      · rename_i h
        cases e
        simp only [Bool.and_eq_true] at h
        exact op_neD hu pins s σ H x y v u Q I rx ry ⟨p, q', r1.dp _ _ _ _ hp (shaped_lay h.1), r2.dp _ _ _ _ hq (shaped_lay h.2), h.1, h.2, q⟩
      · cases e
    · cases e
theorem toPy_lst {l : List D} {ps : List PyData} (h : toPyL l = some ps) : toPy (.lst l) = some (.list ps) := by simp [toPy, h]
theorem in_ok (hu : X.A.units + 65 < cLine) : OpR X (compareOp .In) (rC X.K inD) := by
  intro pins s σ H x y v u Q I rx ry ⟨d1, z1, d2, z2, b, r1, r2, e, q⟩
  cases d2 with
  | lst l =>
    simp only [inD] at e
    split at e
    · rename_i h
      cases e
      simp only [Bool.and_eq_true] at h
      obtain ⟨a, vs, z', rfl, hq, rl, rfl⟩ := r2.toLst
      refine op_in_seq pins s σ H x _ v u Q I rx ry ⟨a, vs, rfl, .inl (SqL.of hq), flat_rep r1 h.1, flat_repL rl h.2, ?_⟩
      simp only [Bool.false_eq_true, if_false]
      rw [memF_rep r1 h.1 rl h.2]; exact q
    · split at e
      · rename_i p ps hp hps
        split at e
        · rename_i h
          cases e
          simp only [Bool.and_eq_true] at h
          exact op_inD hu pins s σ H x y v u Q I rx ry ⟨p, ps, r1.dp _ _ _ _ hp (shaped_lay h.1), r2.dp _ _ _ _ (toPy_lst hps) (shaped_lay h.2), h.1, h.2, q⟩
        · cases e
      · cases e
  | tup l =>
    simp only [inD] at e
    split at e
    · rename_i h
      cases e
      simp only [Bool.and_eq_true] at h
      obtain ⟨a, vs, rfl, hq, rl⟩ := r2.toTup
      refine op_in_seq pins s σ H x _ v u Q I rx ry ⟨a, vs, rfl, .inr (SqT.of hq), flat_rep r1 h.1, flat_repL rl h.2, ?_⟩
      simp only [Bool.false_eq_true, if_false]
      rw [memF_rep r1 h.1 rl h.2]; exact q
    · cases e
  | ctup l =>
    simp only [inD] at e
    split at e
    · rename_i h
      cases e
      simp only [Bool.and_eq_true] at h
      obtain ⟨a, vs, rfl, hq, rl⟩ := r2.toCtup
      refine op_in_seq pins s σ H x _ v u Q I rx ry ⟨a, vs, rfl, .inr hq, flat_rep r1 h.1, flat_repL rl h.2, ?_⟩
      simp only [Bool.false_eq_true, if_false]
      rw [memF_rep r1 h.1 rl h.2]; exact q
    · cases e
  | dk l =>
    obtain ⟨a, o, rfl, g, ho⟩ := dget_rep r2 r1 e (.inl ⟨l, rfl⟩)
    obtain rfl : u = .ref a := ry
    exact d_in (by omega) I g rx fun s' I' => ⟨.bl _, H, I', rfl, by rw [ho]; exact q⟩
  | dt l =>
    obtain ⟨a, o, rfl, g, ho⟩ := dget_rep r2 r1 e (.inr ⟨l, rfl⟩)
    obtain rfl : u = .ref a := ry
    exact d_in (by omega) I g rx fun s' I' => ⟨.bl _, H, I', rfl, by rw [ho]; exact q⟩
  | _ => simp [inD] at e
theorem notin_ok (hu : X.A.units + 65 < cLine) : OpR X (compareOp .NotIn) (rC X.K fun a b => (inD a b).map (!·)) := by
  intro pins s σ H x y v u Q I rx ry ⟨d1, z1, d2, z2, b, r1, r2, e, q⟩
  simp only [Option.map_eq_some_iff] at e
  obtain ⟨b, e, rfl⟩ := e
  cases d2 with
  | lst l =>
    simp only [inD] at e
    split at e
    · rename_i h
      cases e
      simp only [Bool.and_eq_true] at h
      obtain ⟨a, vs, z', rfl, hq, rl, rfl⟩ := r2.toLst
      refine op_notIn_seq pins s σ H x _ v u Q I rx ry ⟨a, vs, rfl, .inl (SqL.of hq), flat_rep r1 h.1, flat_repL rl h.2, ?_⟩
      simp only [if_true]
      rw [memF_rep r1 h.1 rl h.2]; exact q
    · split at e
      · rename_i p ps hp hps
        split at e
        · rename_i h
          cases e
          simp only [Bool.and_eq_true] at h
          exact op_notInD hu pins s σ H x y v u Q I rx ry ⟨p, ps, r1.dp _ _ _ _ hp (shaped_lay h.1), r2.dp _ _ _ _ (toPy_lst hps) (shaped_lay h.2), h.1, h.2, q⟩
        · cases e
      · cases e
  | tup l =>
    simp only [inD] at e
    split at e
    · rename_i h
      cases e
      simp only [Bool.and_eq_true] at h
      obtain ⟨a, vs, rfl, hq, rl⟩ := r2.toTup
      refine op_notIn_seq pins s σ H x _ v u Q I rx ry ⟨a, vs, rfl, .inr (SqT.of hq), flat_rep r1 h.1, flat_repL rl h.2, ?_⟩
      simp only [if_true]
      rw [memF_rep r1 h.1 rl h.2]; exact q
    · cases e
  | ctup l =>
    simp only [inD] at e
    split at e
    · rename_i h
      cases e
      simp only [Bool.and_eq_true] at h
      obtain ⟨a, vs, rfl, hq, rl⟩ := r2.toCtup
      refine op_notIn_seq pins s σ H x _ v u Q I rx ry ⟨a, vs, rfl, .inr hq, flat_rep r1 h.1, flat_repL rl h.2, ?_⟩
      simp only [if_true]
      rw [memF_rep r1 h.1 rl h.2]; exact q
    · cases e
  | dk l =>
    obtain ⟨a, o, rfl, g, ho⟩ := dget_rep r2 r1 e (.inl ⟨l, rfl⟩)
    obtain rfl : u = .ref a := ry
    exact d_notIn (by omega) I g rx fun s' I' => ⟨.bl _, H, I', rfl, by rw [ho]; exact q⟩
  | dt l =>
    obtain ⟨a, o, rfl, g, ho⟩ := dget_rep r2 r1 e (.inr ⟨l, rfl⟩)
    obtain rfl : u = .ref a := ry
    exact d_notIn (by omega) I g rx fun s' I' => ⟨.bl _, H, I', rfl, by rw [ho]; exact q⟩
  | _ => simp [inD] at e
theorem is_rep {K : PySem.W.Frag} {H : Hp} {d : D} {v : V} {z : List Addr} (r : Rep K H d 0 v [] z) : decide (v = .non) = isNon d := by
  cases d with
  | non => cases r.toNon; rfl
  | bl b => cases r.toBl; exact decide_eq_false (fun q => nomatch q)
  | int b => cases r.toInt; exact decide_eq_false (fun q => nomatch q)
  | str b => cases r.toStr; exact decide_eq_false (fun q => nomatch q)
  | tup l => obtain ⟨a, vs, rfl, _⟩ := r.toTup; exact decide_eq_false (fun q => nomatch q)
  | ctup l => obtain ⟨a, vs, rfl, _⟩ := r.toCtup; exact decide_eq_false (fun q => nomatch q)
  | lst l => obtain ⟨a, vs, _, rfl, _⟩ := r.toLst; exact decide_eq_false (fun q => nomatch q)
  | dk l => obtain ⟨a, vs, _, rfl, _⟩ := r.toDk; exact decide_eq_false (fun q => nomatch q)
  | dt l => obtain ⟨a, vs, _, rfl, _⟩ := r.toDt; exact decide_eq_false (fun q => nomatch q)
  | ty n => simp only [Rep] at r; rw [r.1]; exact decide_eq_false (fun q => nomatch q)
  | scr l => simp only [Rep] at r; obtain ⟨a, rfl, _⟩ := r; exact decide_eq_false (fun q => nomatch q)
  | ins c fs => simp only [Rep] at r; obtain ⟨a, C, dx, vs, rfl, _⟩ := r; exact decide_eq_false (fun q => nomatch q)
theorem cmp_ok (hu : X.A.units + 65 < cLine) (o : CmpOp) : OpR X (compareOp o) (rC X.K (cmpD o)) := by
  cases o with
  | Eq => exact eq_ok (by omega)
  | NotEq => exact ne_ok (by omega)
  | In => exact in_ok hu
  | NotIn => exact notin_ok hu
  | Lt =>
    intro pins s σ H x y v u Q I rx ry ⟨d1, z1, d2, z2, b, r1, r2, e, q⟩
    simp only [cmpD] at e
    split at e
    · cases e; cases r1.toInt; cases r2.toInt
      exact op_lt pins s σ H _ _ v u Q I rx ry ⟨_, _, rfl, rfl, q⟩
    · cases e
  | LtE =>
    intro pins s σ H x y v u Q I rx ry ⟨d1, z1, d2, z2, b, r1, r2, e, q⟩
    simp only [cmpD] at e
    split at e
    · cases e; cases r1.toInt; cases r2.toInt
      exact op_le pins s σ H _ _ v u Q I rx ry ⟨_, _, rfl, rfl, q⟩
    · cases e
  | Gt =>
    intro pins s σ H x y v u Q I rx ry ⟨d1, z1, d2, z2, b, r1, r2, e, q⟩
    simp only [cmpD] at e
    split at e
    · cases e; cases r1.toInt; cases r2.toInt
      exact op_gt pins s σ H _ _ v u Q I rx ry ⟨_, _, rfl, rfl, q⟩
    · cases e
  | GtE =>
    intro pins s σ H x y v u Q I rx ry ⟨d1, z1, d2, z2, b, r1, r2, e, q⟩
    simp only [cmpD] at e
    split at e
    · cases e; cases r1.toInt; cases r2.toInt
      exact op_ge pins s σ H _ _ v u Q I rx ry ⟨_, _, rfl, rfl, q⟩
    · cases e
  | Is =>
    intro pins s σ H x y v u Q I rx ry ⟨d1, z1, d2, z2, b, r1, r2, e, q⟩
    simp only [cmpD] at e
    split at e
    · cases e
      cases r2.toNon
      exact op_isN pins s σ H _ _ v u Q I rx ry ⟨rfl, by rw [is_rep r1]; exact q⟩
    · cases e
  | IsNot =>
    intro pins s σ H x y v u Q I rx ry ⟨d1, z1, d2, z2, b, r1, r2, e, q⟩
    simp only [cmpD] at e
    split at e
    · cases e
      cases r2.toNon
      refine op_notN pins s σ H _ _ v u Q I rx ry ⟨rfl, ?_⟩
      rw [is_rep r1]; exact q
    · cases e
end
end Pi
/-! Pi5: places, slices, truth, built-in functions, repr. -/
namespace Pi
open PySem L2

/-! ### data read in the heap -/
section
variable {X : Cx} {pins : List (Addr × Obj)} {σ : St} {H : Hp} {s : Shared}
/-- addresses of lists and dicts, sys.modules not among them -/
abbrev NoSys (as : List Addr) : Prop := ∀ a ∈ as, (a == sysModules) = false
theorem NoSys.mem {as : List Addr} (h : NoSys as) : sysModules ∉ as := fun m => by have := h _ m; simp at this
theorem kV_reads {h : Heap} {k : Key} {u : Value} (r : keyIs k u = true) : Reads h u (keyPy k) [] := by
  rcases keyIs_shape r with ⟨i, t, rfl, rfl⟩ | ⟨x, t, rfl, rfl⟩
  · exact .int i t
  · exact .str x t
mutual
theorem Rep.reads (I : Inv X pins σ H s) : ∀ (d : D) (v : V) (z : List Addr) (p : PyData) (u : Value), Rep X.K H d 0 v [] z → toPy d = some p → RelV v u → ∃ as, Reads s.heap u p as ∧ (noListP p = true → NoSys as)
  | .non, v, z, p, u, r, t, q => by
    cases r.toNon; simp only [toPy, Option.some.injEq] at t; subst t
    obtain rfl : u = .none := q
    exact ⟨[], .none, fun _ _ m => absurd m List.not_mem_nil⟩
  | .bl b, v, z, p, u, r, t, q => by
    cases r.toBl; simp only [toPy, Option.some.injEq] at t; subst t
    obtain rfl : u = .bool b := q
    exact ⟨[], .bool b, fun _ _ m => absurd m List.not_mem_nil⟩
  | .int b, v, z, p, u, r, t, q => by
    cases r.toInt; simp only [toPy, Option.some.injEq] at t; subst t
    obtain ⟨tk, rfl⟩ := q
    exact ⟨[], .int b tk, fun _ _ m => absurd m List.not_mem_nil⟩
  | .str b, v, z, p, u, r, t, q => by
    cases r.toStr; simp only [toPy, Option.some.injEq] at t; subst t
    obtain ⟨tk, rfl⟩ := q
    exact ⟨[], .str b tk, fun _ _ m => absurd m List.not_mem_nil⟩
  | .tup l, v, z, p, u, r, t, q => by
    obtain ⟨a, vs, rfl, qa, rl⟩ := r.toTup
    simp only [toPy, Option.map_eq_some_iff] at t
    obtain ⟨ps, t, rfl⟩ := t
    obtain rfl : u = .ref a := q
    obtain ⟨its, rv, hT, _⟩ := I.tuple (SqT.of qa)
    obtain ⟨as, ra, ns⟩ := RepL.reads I l vs z ps its rl t rv
    obtain ⟨o, e, c, n, dd⟩ := hT
    exact ⟨as, .tuple e c dd (by simpa using ra), by simpa only [noListP] using ns⟩
  | .ctup l, v, z, p, u, r, t, q => by
    obtain ⟨a, vs, rfl, qa, rl⟩ := r.toCtup
    simp only [toPy, Option.map_eq_some_iff] at t
    obtain ⟨ps, t, rfl⟩ := t
    obtain rfl : u = .ref a := q
    obtain ⟨its, rv, hT, _⟩ := I.tuple qa
    obtain ⟨as, ra, ns⟩ := RepL.reads I l vs z ps its rl t rv
    obtain ⟨o, e, c, n, dd⟩ := hT
    exact ⟨as, .tuple e c dd (by simpa using ra), by simpa only [noListP] using ns⟩
  | .lst l, v, z, p, u, r, t, q => by
    obtain ⟨a, vs, y, rfl, qa, rl, rfl⟩ := r.toLst
    simp only [toPy, Option.map_eq_some_iff] at t
    obtain ⟨ps, t, rfl⟩ := t
    obtain rfl : u = .ref a := q
    obtain ⟨_, its, n, rv, e⟩ := lst_rd I (.inl qa)
    obtain ⟨as, ra, ns⟩ := RepL.reads I l vs y ps its rl t rv
    exact ⟨a :: as, .list e rfl rfl (by simpa using ra), by simp [noListP]⟩
  | .dk l, v, z, p, u, r, t, q => by
    obtain ⟨a, vs, y, rfl, qa, rl, rfl⟩ := r.toDk
    simp only [toPy, Option.map_eq_some_iff] at t
    obtain ⟨ps, t, rfl⟩ := t
    obtain rfl : u = .ref a := q
    obtain ⟨_, hsys, ws, kv, o, es, ep, e, ex, ed, _, prs, _⟩ := dk_rd I.hok qa
    obtain ⟨as, bs, r1, r2, n1, ns⟩ := RepK.reads I l vs y ps ws es.toList rl t kv prs
    refine ⟨a :: as ++ bs, .dict e ex.1 ed r1 r2, fun hn => ?_⟩
    simp only [noListP] at hn
    intro b m
    simp only [List.cons_append, List.mem_cons, List.mem_append] at m
    rcases m with rfl | m | m
    · exact hsys
    · rw [n1] at m; exact absurd m List.not_mem_nil
    · exact ns hn b m
  | .dt _, _, _, _, _, _, t, _ => by simp [toPy] at t
  | .ins _ _, _, _, _, _, _, t, _ => by simp [toPy] at t
  | .ty _, _, _, _, _, _, t, _ => by simp [toPy] at t
  | .scr _, _, _, _, _, _, t, _ => by simp [toPy] at t
theorem RepL.reads (I : Inv X pins σ H s) : ∀ (l : List D) (vs : List V) (z : List Addr) (ps : List PyData) (us : List Value), RepL X.K H l 0 vs [] z → toPyL l = some ps → Vals vs us → ∃ as, ReadsAll s.heap us ps as ∧ (noListPs ps = true → NoSys as)
  | [], vs, z, ps, us, r, t, q => by
    simp only [RepL] at r
    simp only [toPyL, Option.some.injEq] at t
    obtain ⟨rfl, _, _⟩ := r
    cases q; subst t
    exact ⟨[], .nil, fun _ _ m => absurd m List.not_mem_nil⟩
  | d :: l, vs, z, ps, us, r, t, q => by
    simp only [RepL] at r
    obtain ⟨w, vs', g1, g2, y1, y2, e0, e1, e2, s1, s2⟩ := r
    have h1 := Rep.zero _ _ _ _ s1
    have h2 := RepL.zero _ _ _ _ s2
    subst e0 h1 h2
    simp only [toPyL] at t
    split at t
    · rename_i p ps' a b
      cases t
      cases q with
      | cons q1 q2 =>
        obtain ⟨as, ra, na⟩ := Rep.reads I d w y1 _ _ s1 a q1
        obtain ⟨bs, rb, nb⟩ := RepL.reads I l vs' y2 _ _ s2 b q2
        refine ⟨as ++ bs, .cons ra rb, fun hn => ?_⟩
        simp only [noListPs, Bool.and_eq_true] at hn
        exact fun c m => (List.mem_append.mp m).elim (na hn.1 c) (nb hn.2 c)
    · cases t
theorem RepK.reads (I : Inv X pins σ H s) : ∀ (l : List (Key × D)) (vs : List (Key × V)) (z : List Addr) (ps : List (PyData × PyData)) (us : List (Key × Value)) (es : List DictEntry), RepK X.K H l 0 vs [] z → toPyK l = some ps → KV vs us → Pairs (mixKind X.prog X.w) es us →
    ∃ as bs, ReadsAll s.heap (es.map (·.key)) (ps.map (·.1)) as ∧ ReadsAll s.heap (es.map (·.val)) (ps.map (·.2)) bs ∧ as = [] ∧ (noListPk ps = true → NoSys bs)
  | [], vs, z, ps, us, es, r, t, q, pr => by
    simp only [RepK] at r
    simp only [toPyK, Option.some.injEq] at t
    obtain ⟨rfl, _, _⟩ := r
    cases q; cases pr; subst t
    exact ⟨[], [], .nil, .nil, rfl, fun _ _ m => absurd m List.not_mem_nil⟩
  | (k, d) :: l, vs, z, ps, us, es, r, t, q, pr => by
    simp only [RepK] at r
    obtain ⟨w, vs', g1, g2, y1, y2, e0, e1, e2, s1, s2⟩ := r
    have h1 := Rep.zero _ _ _ _ s1
    have h2 := RepK.zero _ _ _ _ s2
    subst e0 h1 h2
    simp only [toPyK] at t
    split at t
    · rename_i p ps' a b
      cases t
      cases q with
      | cons q1 q2 =>
        cases pr with
        | cons k1 k2 k3 =>
          obtain ⟨as, bs, ra, rb, na, nb⟩ := RepK.reads I l vs' y2 _ _ _ s2 b q2 k3
          obtain ⟨cs, rc, nc⟩ := Rep.reads I d w y1 _ _ s1 a q1.2
          rw [← k2] at rc
          subst na
          refine ⟨[], cs ++ bs, ?_, ?_, rfl, fun hn => ?_⟩
          · have hk : k = _ := q1.1
            rw [← hk] at k1
            exact .cons (as := []) (kV_reads k1) ra
          · exact .cons rc rb
          · simp only [noListPk, Bool.and_eq_true] at hn
            exact fun c m => (List.mem_append.mp m).elim (nc hn.1.2 c) (nb hn.2 c)
    · cases t
end
end
section
variable {X : Cx}
theorem inv_kept {pins : List (Addr × Obj)} {σ : St} {H : Hp} {s : Shared} (I : Inv X pins σ H s) {h' : Heap} {t : Nat} (k : ∀ b o, s.heap.get? b = some o → h'.get? b = some o) : Inv X pins σ H { s with heap := h', toks := t } :=
  I.kept k
def rB (K : PySem.W.Frag) (f : List D → Option D) : List V → Hp → VK → Prop := fun vs H Q => ∃ ds z d, RepL K H ds 0 vs [] z ∧ f ds = some d ∧ PQ K H z d Q
theorem RepL.one {K : PySem.W.Frag} {H : Hp} {d : D} {vs : List V} {z : List Addr} (r : RepL K H [d] 0 vs [] z) : ∃ v, vs = [v] ∧ Rep K H d 0 v [] z := by
  simp only [RepL] at r
  obtain ⟨w, vs', g1, g2, y1, y2, e0, e1, e2, s1, rfl, rfl, rfl⟩ := r
  rw [List.append_nil] at e1 e2
  subst e1 e2
  exact ⟨w, e0, s1⟩
theorem RepL.two {K : PySem.W.Frag} {H : Hp} {d e : D} {vs : List V} {z : List Addr} (r : RepL K H [d, e] 0 vs [] z) : ∃ v w z1 z2, vs = [v, w] ∧ Rep K H d 0 v [] z1 ∧ Rep K H e 0 w [] z2 ∧ z = z1 ++ z2 := by
  simp only [RepL] at r
  obtain ⟨v, vs', g1, g2, y1, y2, e0, e1, e2, s1, w, vs2, f1, f2, x1, x2, q0, q1, q2, s2, h5, h6, h7⟩ := r
  have h1 := Rep.zero _ _ _ _ s1
  have h2 := Rep.zero _ _ _ _ s2
  subst h1 h2 h5 h6 h7 q0
  rw [List.append_nil] at q2
  subst q2
  exact ⟨v, w, y1, y2, e0, s1, s2, e2⟩
def rU1 (K : PySem.W.Frag) (f : D → Option D) : List V → Hp → VK → Prop := fun vs H Q => ∃ x d z d', vs = [x] ∧ Rep K H d 0 x [] z ∧ f d = some d' ∧ PQ K H z d' Q
theorem one_ok {g : Value} {f : D → Option D} (h : CallR X g (rU1 X.K f)) : CallR X g (rB X.K (one f)) := by
  intro pins s σ H xs us Q I r ⟨ds, z, d, rl, e, q⟩
  unfold one at e
  split at e
  · obtain ⟨v, e0, rv⟩ := rl.one
    exact h pins s σ H xs us Q I r ⟨v, _, z, d, e0, rv, e, q⟩
  · cases e
theorem repr_ok (hg : X.A.guards = some []) (hu : X.A.units + 100 < cLine) : CallR X (.builtin "repr") (rB X.K (one reprB)) := by
  refine one_ok ?_
  intro pins s σ H xs us Q I r ⟨x, d, z, d', e0, rv, e, q⟩
  subst e0
  simp only [reprB, Option.map_eq_some_iff] at e
  obtain ⟨t, e, rfl⟩ := e
  unfold reprD at e
  split at e
  · rename_i p hp
    split at e
    · rename_i hc
      cases e
      simp only [Bool.and_eq_true, decide_eq_true_eq, Bool.or_eq_true, Bool.not_eq_true'] at hc
      obtain ⟨⟨⟨hs, hd⟩, hl⟩, hn⟩ := hc
      obtain ⟨u, rfl, ru⟩ := vals1 r
      have fin : ∀ (h' : Heap) (tk : Nat) (w : Tok), (∀ b o, s.heap.get? b = some o → h'.get? b = some o) → EP X pins σ Q (.str p.shown w) { s with heap := h', toks := tk } :=
        fun h' tk w k => ⟨.str p.shown, H, inv_kept I k, ⟨w, rfl⟩, q.str⟩
      obtain ⟨as, rd, ns⟩ := Rep.reads I d x z p u rv hp ru
      cases rd with
      | none => exact PySem.P.repr_of_none (fin _ _ _ fun _ _ h => h)
      | bool b => exact PySem.P.repr_of_bool (by simpa [PyData.shown] using fin s.heap (s.toks + 1) s.toks fun _ _ h => h)
      | int i t => exact PySem.P.repr_of_int (by simpa [PyData.showable] using hs) (by simpa [PyData.shown] using fin s.heap (s.toks + 1) s.toks fun _ _ h => h)
      | str y t => exact PySem.P.repr_of_str (by simpa [PyData.shown] using fin s.heap (s.toks + 1) s.toks fun _ _ h => h) (by simpa [PyData.shown] using hl)
      | list a b c e =>
        exact repr_of_reads' (Reads.list a b c e) hs (fun h => (ns (hn.resolve_left (by rw [h]; simp))).mem) hg (by omega) (fun _ _ h => h) (fun h' u tk k => fin h' tk u k) hl
      | tuple a b c e =>
        exact repr_of_reads' (Reads.tuple a b c e) hs (fun h => (ns (hn.resolve_left (by rw [h]; simp))).mem) hg (by omega) (fun _ _ h => h) (fun h' u tk k => fin h' tk u k) hl
      | dict a b c e f =>
        exact repr_of_reads' (Reads.dict a b c e f) hs (fun h => (ns (hn.resolve_left (by rw [h]; simp))).mem) hg (by omega) (fun _ _ h => h) (fun h' u tk k => fin h' tk u k) hl
    · cases e
  · cases e
theorem PQ.num {K : PySem.W.Frag} {H : Hp} {z : List Addr} {i : Int} {Q : VK} (q : PQ K H z (.int i) Q) : Q (.int i) H := q.int
theorem isInts_rep {K : PySem.W.Frag} {H : Hp} : ∀ {l : List D} {ns : List Int} {vs : List V} {fp z : List Addr} {n : Nat}, RepL K H l n vs fp z → isInts l = some ns → vs = ns.map .int
  | [], ns, vs, fp, z, n, r, h => by simp only [RepL] at r; simp only [isInts, Option.some.injEq] at h; rw [r.1, ← h]; rfl
  | d :: l, ns, vs, fp, z, n, r, h => by
    simp only [RepL] at r
    obtain ⟨w, vs', g1, g2, y1, y2, e0, e1, e2, s1, s2⟩ := r
    cases d with
    | int i =>
      simp only [isInts, Option.map_eq_some_iff] at h
      obtain ⟨ns', h, rfl⟩ := h
      rw [e0, isInts_rep s2 h, s1.toInt]; rfl
    | _ => simp [isInts] at h
theorem isBls_rep {K : PySem.W.Frag} {H : Hp} : ∀ {l : List D} {ns : List Bool} {vs : List V} {fp z : List Addr} {n : Nat}, RepL K H l n vs fp z → isBls l = some ns → vs = ns.map .bl
  | [], ns, vs, fp, z, n, r, h => by simp only [RepL] at r; simp only [isBls, Option.some.injEq] at h; rw [r.1, ← h]; rfl
  | d :: l, ns, vs, fp, z, n, r, h => by
    simp only [RepL] at r
    obtain ⟨w, vs', g1, g2, y1, y2, e0, e1, e2, s1, s2⟩ := r
    cases d with
    | bl i =>
      simp only [isBls, Option.map_eq_some_iff] at h
      obtain ⟨ns', h, rfl⟩ := h
      rw [e0, isBls_rep s2 h, s1.toBl]; rfl
    | _ => simp [isBls] at h
theorem len_ok : CallR X (.builtin "len") (rB X.K (one lenB)) := by
  refine one_ok ?_
  intro pins s σ H xs us Q I r ⟨x, d, z, d', e0, rv, e, q⟩
  simp only [lenB, Option.map_eq_some_iff] at e
  obtain ⟨n, e, rfl⟩ := e
  cases d with
  | str y =>
    simp only [lenD] at e
    split at e
    · rename_i h
      cases e; cases rv.toStr
      exact call_len pins s σ H xs us Q I r ⟨_, _, e0, ⟨h, rfl⟩, q.int⟩
    · cases e
  | tup l =>
    simp only [lenD, Option.some.injEq] at e
    obtain ⟨a, vs, rfl, h, rl⟩ := rv.toTup
    refine call_len_seq pins s σ H xs us Q I r ⟨a, vs, e0, .inr (SqT.of h), ?_⟩
    rw [RepL.len rl, e]; exact q.int
  | ctup l =>
    simp only [lenD, Option.some.injEq] at e
    obtain ⟨a, vs, rfl, h, rl⟩ := rv.toCtup
    refine call_len_seq pins s σ H xs us Q I r ⟨a, vs, e0, .inr h, ?_⟩
    rw [RepL.len rl, e]; exact q.int
  | lst l =>
    simp only [lenD, Option.some.injEq] at e
    obtain ⟨a, vs, _, rfl, h, rl, rfl⟩ := rv.toLst
    refine call_len_seq pins s σ H xs us Q I r ⟨a, vs, e0, .inl (SqL.of h), ?_⟩
    rw [RepL.len rl, e]; exact q.int
  | dk l =>
    simp only [lenD, Option.some.injEq] at e
    obtain ⟨a, vs, _, rfl, h, rl, rfl⟩ := rv.toDk
    have hl : vs.length = l.length := RepK.len rl
    subst e0
    obtain ⟨u, rfl, ru⟩ := vals1 r
    obtain rfl : u = .ref a := ru
    exact d_len I h fun t s' I' => ⟨.int _, H, I', ⟨t, rfl⟩, by rw [hl, e]; exact q.int⟩
  | scr l =>
    simp only [lenD, Option.some.injEq] at e
    simp only [Rep] at rv
    obtain ⟨a, rfl, _, h⟩ := rv
    refine call_len_seq pins s σ H xs us Q I r ⟨a, _, e0, .inl (h.elim (fun h => .inl h.1) (fun h => .inr h.1)), ?_⟩
    rw [List.length_map, e]; exact q.int
  | _ => simp [lenD] at e
theorem int_ok : CallR X (.type "int") (rB X.K (one intB)) := by
  refine one_ok ?_
  intro pins s σ H xs us Q I r ⟨x, d, z, d', e0, rv, e, q⟩
  cases d with
  | int i => simp only [intB, Option.some.injEq] at e; subst e; cases rv.toInt; exact call_int1 pins s σ H xs us Q I r (.inl ⟨i, e0, q.int⟩)
  | bl b => simp only [intB, Option.some.injEq] at e; subst e; cases rv.toBl; exact call_int1 pins s σ H xs us Q I r (.inr ⟨b, e0, q.int⟩)
  | _ => simp [intB] at e
theorem bool_ok : CallR X (.type "bool") (rB X.K (one boolB)) := by
  refine one_ok ?_
  intro pins s σ H xs us Q I r ⟨x, d, z, d', e0, rv, e, q⟩
  cases d with
  | int i => simp only [boolB, Option.some.injEq] at e; subst e; cases rv.toInt; exact call_bool1 pins s σ H xs us Q I r (.inl ⟨i, e0, q.bl⟩)
  | bl b => simp only [boolB, Option.some.injEq] at e; subst e; cases rv.toBl; exact call_bool1 pins s σ H xs us Q I r (.inr ⟨b, e0, q.bl⟩)
  | _ => simp [boolB] at e
theorem abs_ok : CallR X (.builtin "abs") (rB X.K (one absB)) := by
  refine one_ok ?_
  intro pins s σ H xs us Q I r ⟨x, d, z, d', e0, rv, e, q⟩
  cases d with
  | int i => simp only [absB, Option.some.injEq] at e; subst e; cases rv.toInt; exact call_abs pins s σ H xs us Q I r ⟨i, e0, q.int⟩
  | _ => simp [absB] at e
theorem str_ok : CallR X (.type "str") (rB X.K (one strB)) := by
  refine one_ok ?_
  intro pins s σ H xs us Q I r ⟨x, d, z, d', e0, rv, e, q⟩
  cases d with
  | int i =>
    simp only [strB] at e
    split at e
    · rename_i h
      cases e; cases rv.toInt; exact call_str_int pins s σ H xs us Q I r ⟨i, e0, h, q.str⟩
    · cases e
  | _ => simp [strB] at e
theorem sum_ok (hc : X.calm = true) : CallR X (.builtin "sum") (rB X.K (one sumB)) := by
  refine one_ok ?_
  intro pins s σ H xs us Q I r ⟨x, d, z, d', e0, rv, e, q⟩
  cases d with
  | lst l =>
    simp only [sumB, Option.map_eq_some_iff] at e
    obtain ⟨ns, e, rfl⟩ := e
    obtain ⟨a, vs, _, rfl, h, rl, rfl⟩ := rv.toLst
    rw [isInts_rep rl e] at h
    exact cr_sum hc pins s σ H xs us Q I r ⟨a, ns, e0, SqL.of h, q.int⟩
  | _ => simp [sumB] at e
theorem insertI_perm (x : Int) : ∀ l : List Int, (insertI x l).Perm (x :: l)
  | [] => .refl _
  | y :: r => by
    simp only [insertI]
    split
    · exact .refl _
    · exact ((insertI_perm x r).cons y).trans (.swap x y r)
theorem sortI_perm : ∀ l : List Int, (sortI l).Perm l
  | [] => .refl _
  | x :: r => (insertI_perm x _).trans ((sortI_perm r).cons x)
theorem insertI_sorted (x : Int) : ∀ l : List Int, l.Pairwise (· ≤ ·) → (insertI x l).Pairwise (· ≤ ·)
  | [], _ => by simp [insertI]
  | y :: r, h => by
    simp only [insertI]
    have h' := List.pairwise_cons.mp h
    split
    · rename_i hx
      refine List.pairwise_cons.mpr ⟨fun z m => ?_, h⟩
      rcases List.mem_cons.mp m with rfl | m
      · exact hx
      · exact Int.le_trans hx (h'.1 z m)
    · rename_i hx
      refine List.pairwise_cons.mpr ⟨fun z m => ?_, insertI_sorted x r h'.2⟩
      rcases List.mem_cons.mp ((insertI_perm x r).mem_iff.mp m) with rfl | m
      · omega
      · exact h'.1 z m
theorem sortI_sorted : ∀ l : List Int, (sortI l).Pairwise (· ≤ ·)
  | [] => List.Pairwise.nil
  | x :: r => insertI_sorted x _ (sortI_sorted r)
theorem sortI_eq {a l : List Int} (p : a.Perm l) (s : a.Pairwise (· ≤ ·)) : a = sortI l :=
  (p.trans (sortI_perm l).symm).eq_of_pairwise (fun _ _ _ _ h1 h2 => Int.le_antisymm h1 h2) s (sortI_sorted l)
theorem sorted_ok : CallR X (.builtin "sorted") (rB X.K (one sortedB)) := by
  refine one_ok ?_
  intro pins s σ H xs us Q I r ⟨x, d, z, d', e0, rv, e, q⟩
  cases d with
  | lst l =>
    simp only [sortedB, Option.map_eq_some_iff] at e
    obtain ⟨ns, e, rfl⟩ := e
    obtain ⟨a, vs, _, rfl, h, rl, rfl⟩ := rv.toLst
    rw [isInts_rep rl e] at h
    refine cr_sortedI pins s σ H xs us Q I r ⟨a, ns, e0, SqL.of h, fun ns' p hp hs hn => ?_⟩
    rw [sortI_eq hp hs]
    exact q.lst (RepL.ints _) (by simp) p hn
  | _ => simp [sortedB] at e
theorem tuple_ok : CallR X (.type "tuple") (rB X.K (one tupleB)) := by
  refine one_ok ?_
  intro pins s σ H xs us Q I r ⟨x, d, z, d', e0, rv, e, q⟩
  cases d with
  | lst l =>
    simp only [tupleB, Option.some.injEq] at e
    subst e
    obtain ⟨a, vs, z', rfl, h, rl, rfl⟩ := rv.toLst
    exact call_tuple_of pins s σ H xs us Q I r ⟨a, vs, e0, .inl ⟨SqL.of h, fun p hp => q.tup rl (fun a m => List.mem_cons_of_mem _ m) p hp⟩⟩
  | tup l =>
    simp only [tupleB, Option.some.injEq] at e
    subst e
    have rv' := rv
    obtain ⟨a, vs, rfl, h, rl⟩ := rv.toTup
    exact call_tuple_of pins s σ H xs us Q I r ⟨a, vs, e0, .inr ⟨SqT.of h, q.same rfl rv' (fun a m => m)⟩⟩
  | ctup l =>
    simp only [tupleB, Option.some.injEq] at e
    subst e
    have rv' := rv
    obtain ⟨a, vs, rfl, h, rl⟩ := rv.toCtup
    exact call_tuple_of pins s σ H xs us Q I r ⟨a, vs, e0, .inr ⟨h, q.same rfl rv' (fun a m => m)⟩⟩
  | _ => simp [tupleB] at e
theorem list_ok : CallR X (.type "list") (rB X.K (one listB)) := by
  refine one_ok ?_
  intro pins s σ H xs us Q I r ⟨x, d, z, d', e0, rv, e, q⟩
  cases d with
  | lst l =>
    simp only [listB, Option.some.injEq] at e
    subst e
    obtain ⟨a, vs, z', rfl, h, rl, rfl⟩ := rv.toLst
    exact call_list_of pins s σ H xs us Q I r ⟨a, vs, e0, .inl (SqL.of h), fun p hp => q.lst rl (fun a m => List.mem_cons_of_mem _ m) p hp⟩
  | tup l =>
    simp only [listB, Option.some.injEq] at e
    subst e
    obtain ⟨a, vs, rfl, h, rl⟩ := rv.toTup
    exact call_list_of pins s σ H xs us Q I r ⟨a, vs, e0, .inr (SqT.of h), fun p hp => q.lst rl (fun a m => m) p hp⟩
  | ctup l =>
    simp only [listB, Option.some.injEq] at e
    subst e
    obtain ⟨a, vs, rfl, h, rl⟩ := rv.toCtup
    exact call_list_of pins s σ H xs us Q I r ⟨a, vs, e0, .inr h, fun p hp => q.lst rl (fun a m => m) p hp⟩
  | scr l =>
    simp only [listB, Option.some.injEq] at e
    subst e
    simp only [Rep] at rv
    obtain ⟨a, rfl, _, h⟩ := rv
    refine call_list_of pins s σ H xs us Q I r ⟨a, _, e0, .inl (h.elim (fun h => .inl h.1) (fun h => .inr h.1)), fun p hp => ?_⟩
    exact q.lst (vs := l.map .int) (RepL.ints l) (by simp) p hp
  | _ => simp [listB] at e
theorem all_ok (hc : X.calm = true) : CallR X (.builtin "all") (rB X.K (one allB)) := by
  refine one_ok ?_
  intro pins s σ H xs us Q I r ⟨x, d, z, d', e0, rv, e, q⟩
  cases d with
  | lst l =>
    simp only [allB, Option.map_eq_some_iff] at e
    obtain ⟨ns, e, rfl⟩ := e
    obtain ⟨a, vs, _, rfl, h, rl, rfl⟩ := rv.toLst
    rw [isBls_rep rl e] at h
    exact cr_all hc pins s σ H xs us Q I r ⟨a, ns, e0, SqL.of h, q.bl⟩
  | _ => simp [allB] at e
theorem any_ok (hc : X.calm = true) : CallR X (.builtin "any") (rB X.K (one anyB)) := by
  refine one_ok ?_
  intro pins s σ H xs us Q I r ⟨x, d, z, d', e0, rv, e, q⟩
  cases d with
  | lst l =>
    simp only [anyB, Option.map_eq_some_iff] at e
    obtain ⟨ns, e, rfl⟩ := e
    obtain ⟨a, vs, _, rfl, h, rl, rfl⟩ := rv.toLst
    rw [isBls_rep rl e] at h
    exact cr_any hc pins s σ H xs us Q I r ⟨a, ns, e0, SqL.of h, q.bl⟩
  | _ => simp [anyB] at e
theorem maxI_spec : ∀ (r : List Int) (x : Int), maxI x r ∈ x :: r ∧ ∀ y ∈ x :: r, y ≤ maxI x r
  | [], x => by simp [maxI]
  | y :: r, x => by
    simp only [maxI]
    obtain ⟨h1, h2⟩ := maxI_spec r (if x < y then y else x)
    refine ⟨?_, fun z m => ?_⟩
    · rcases List.mem_cons.mp h1 with h | h
      · rw [h]; split <;> simp
      · simp [h]
    · have h3 := h2 _ List.mem_cons_self
      have h4 : x ≤ (if x < y then y else x) ∧ y ≤ (if x < y then y else x) := by split <;> omega
      rcases List.mem_cons.mp m with rfl | m
      · exact Int.le_trans h4.1 h3
      · rcases List.mem_cons.mp m with rfl | m
        · exact Int.le_trans h4.2 h3
        · exact h2 z (List.mem_cons_of_mem _ m)
theorem minI_spec : ∀ (r : List Int) (x : Int), minI x r ∈ x :: r ∧ ∀ y ∈ x :: r, minI x r ≤ y
  | [], x => by simp [minI]
  | y :: r, x => by
    simp only [minI]
    obtain ⟨h1, h2⟩ := minI_spec r (if y < x then y else x)
    refine ⟨?_, fun z m => ?_⟩
    · rcases List.mem_cons.mp h1 with h | h
      · rw [h]; split <;> simp
      · simp [h]
    · have h3 := h2 _ List.mem_cons_self
      have h4 : (if y < x then y else x) ≤ x ∧ (if y < x then y else x) ≤ y := by split <;> omega
      rcases List.mem_cons.mp m with rfl | m
      · exact Int.le_trans h3 h4.1
      · rcases List.mem_cons.mp m with rfl | m
        · exact Int.le_trans h3 h4.2
        · exact h2 z (List.mem_cons_of_mem _ m)
theorem max_ok (hc : X.calm = true) : CallR X (.builtin "max") (rB X.K maxB) := by
  intro pins s σ H xs us Q I r ⟨ds, z, d, rl, e, q⟩
  unfold maxB at e
  split at e
  · obtain ⟨v, w, z1, z2, e0, r1, r2, rfl⟩ := rl.two
    cases e; cases r1.toInt; cases r2.toInt
    exact call_max2 hc pins s σ H xs us Q I r ⟨_, _, e0, q.int⟩
  · obtain ⟨v, e0, rv⟩ := rl.one
    split at e
    · rename_i x r' h
      cases e
      obtain ⟨a, vs, _, rfl, hl, rl', rfl⟩ := rv.toLst
      rw [isInts_rep rl' h] at hl
      refine cr_max hc pins s σ H xs us Q I r ⟨a, _, e0, SqL.of hl, by simp, fun m hm hy => ?_⟩
      obtain ⟨h1, h2⟩ := maxI_spec r' x
      have : m = maxI x r' := Int.le_antisymm (h2 m hm) (hy _ h1)
      rw [this]; exact q.int
    · cases e
  · cases e
theorem min_ok (hc : X.calm = true) : CallR X (.builtin "min") (rB X.K minB) := by
  intro pins s σ H xs us Q I r ⟨ds, z, d, rl, e, q⟩
  unfold minB at e
  split at e
  · obtain ⟨v, w, z1, z2, e0, r1, r2, rfl⟩ := rl.two
    cases e; cases r1.toInt; cases r2.toInt
    exact call_min2 hc pins s σ H xs us Q I r ⟨_, _, e0, q.int⟩
  · obtain ⟨v, e0, rv⟩ := rl.one
    split at e
    · rename_i x r' h
      cases e
      obtain ⟨a, vs, _, rfl, hl, rl', rfl⟩ := rv.toLst
      rw [isInts_rep rl' h] at hl
      refine cr_min hc pins s σ H xs us Q I r ⟨a, _, e0, SqL.of hl, by simp, fun m hm hy => ?_⟩
      obtain ⟨h1, h2⟩ := minI_spec r' x
      have : m = minI x r' := Int.le_antisymm (hy _ h1) (h2 m hm)
      rw [this]; exact q.int
    · cases e
  · cases e
/-- what a built-in's name means -/
def bnVal : Bn → Value
  | .int => .type "int" | .tuple => .type "tuple" | .list => .type "list" | .str => .type "str" | .bool => .type "bool"
  | .len => .builtin "len" | .abs => .builtin "abs" | .max => .builtin "max" | .min => .builtin "min" | .sum => .builtin "sum"
  | .sorted => .builtin "sorted" | .repr => .builtin "repr" | .all => .builtin "all" | .any => .builtin "any"
theorem blt_ok (hc : X.calm = true) (hg : X.A.guards = some []) (hu : X.A.units + 100 < cLine) (f : Bn) : CallR X (bnVal f) (rB X.K (bltD f)) := by
  cases f
  · exact len_ok
  · exact int_ok
  · exact abs_ok
  · exact max_ok hc
  · exact min_ok hc
  · exact sum_ok hc
  · exact sorted_ok
  · exact tuple_ok
  · exact list_ok
  · exact repr_ok hg hu
  · exact str_ok
  · exact all_ok hc
  · exact any_ok hc
  · exact bool_ok
end
end Pi
/-! Pi6: what an expression's run leaves; the checker. -/
namespace Pi
open PySem L2

/-- what may be written: nothing (b), or what the slots own -/
abbrev wset (b : Bool) (fp : List Addr) : List Addr := if b then [] else fp
theorem wset_sub {b : Bool} {fp : List Addr} : ∀ a ∈ wset b fp, a ∈ fp := fun a m => by cases b <;> simp_all [wset]
/-- from the slots' addresses fp, fz in H to fp', fz' in H' -/
structure Ext (b : Bool) (H : Hp) (fp fz : List Addr) (H' : Hp) (fp' fz' : List Addr) : Prop where
  stay : Stay (wset b fp) H H'
  fpx : ∀ a ∈ fp', a ∈ fp ∨ H a = none
  fzx : ∀ a ∈ fz', a ∈ fp ∨ a ∈ fz ∨ H a = none
def Trk (H : Hp) (l : List Addr) : Prop := ∀ a ∈ l, H a ≠ none
theorem Trk.nil (H : Hp) : Trk H [] := fun _ m => absurd m List.not_mem_nil
def New (H : Hp) (l : List Addr) : Prop := ∀ a ∈ l, H a = none
section
variable {b : Bool} {H H1 H2 H' : Hp} {fp fz f1 z1 f2 z2 f z : List Addr}
theorem Ext.refl (b : Bool) (H : Hp) (fp fz : List Addr) : Ext b H fp fz H fp fz := ⟨.refl _ _, fun _ m => .inl m, fun _ m => .inr (.inl m)⟩
theorem Ext.weak {b' : Bool} (e : Ext b H fp fz H1 f z) (h : b' = true → b = true) : Ext b' H fp fz H1 f z :=
  ⟨e.stay.mono fun a m => by cases b' <;> cases b <;> simp_all [wset], e.fpx, e.fzx⟩
theorem Ext.to (e : Ext b H fp fz H1 f1 z1) (h1 : ∀ a ∈ f, a ∈ f1) (h2 : ∀ a ∈ z, a ∈ f1 ∨ a ∈ z1) : Ext b H fp fz H1 f z :=
  ⟨e.stay, fun a m => e.fpx a (h1 a m), fun a m => (h2 a m).elim (fun m => (e.fpx a m).elim .inl fun h => .inr (.inr h)) (e.fzx a)⟩
theorem Ext.less (e : Ext b H fp fz H1 f1 z1) (l : Less f1 z1 f z) : Ext b H fp fz H1 f z := e.to l.fp fun a m => (l.fz a m).symm
theorem Ext.perm (e : Ext b H fp fz H1 f1 z1) (p : f1.Perm f) (q : z1.Perm z) : Ext b H fp fz H1 f z := e.to (fun a m => p.mem_iff.mpr m) fun a m => .inr (q.mem_iff.mpr m)
theorem Ext.some (e : Ext b H fp fz H1 f z) {a : Addr} (h : H1 a = none) : H a = none ∨ a ∈ fp := (e.stay.some h).imp id (wset_sub a)
theorem Ext.none (e : Ext true H fp fz H1 f z) {a : Addr} (h : H1 a = none) : H a = none := (e.stay.some h).elim id fun m => absurd m List.not_mem_nil
/-- a temporary (f1, z1) beside the slots (f2, z2), which run on -/
theorem Ext.trans (e : Ext b H fp fz H1 (f1 ++ f2) (z1 ++ z2)) (e2 : Ext b H1 f2 z2 H2 f z) : Ext b H fp fz H2 (f1 ++ f) (z1 ++ z) where
  stay := fun a o h n => e2.stay a o (e.stay a o h n) fun m => by
    cases b with
    | true => exact absurd m List.not_mem_nil
    | false =>
      rcases e.fpx a (List.mem_append_right _ m) with q | q
      · exact n q
      · rw [h] at q; cases q
  fpx := fun a m => by
    rcases List.mem_append.mp m with m | m
    · exact e.fpx a (List.mem_append_left _ m)
    · rcases e2.fpx a m with q | q
      · exact e.fpx a (List.mem_append_right _ q)
      · exact (e.some q).symm
  fzx := fun a m => by
    rcases List.mem_append.mp m with m | m
    · exact e.fzx a (List.mem_append_left _ m)
    · rcases e2.fzx a m with q | q | q
      · exact (e.fpx a (List.mem_append_right _ q)).imp id .inr
      · exact e.fzx a (List.mem_append_right _ q)
      · exact (e.some q).elim (fun h => .inr (.inr h)) .inl
theorem Ext.trans0 (e : Ext b H fp fz H1 f2 z2) (e2 : Ext b H1 f2 z2 H2 f z) : Ext b H fp fz H2 f z :=
  Ext.trans (f1 := []) (z1 := []) e e2
/-- the temporary is apart from what the slots come to -/
theorem Ext.disj (d : Disj (f1 ++ f2) (z1 ++ z2)) (t : Trk H1 f1) (t' : Trk H1 z1) (e2 : Ext b H1 f2 z2 H2 f z) (d2 : Disj f z) : Disj (f1 ++ f) (z1 ++ z) := by
  have n := List.nodup_append.mp d.1
  refine ⟨List.nodup_append.mpr ⟨n.1, d2.1, fun a m b m' => ?_⟩, fun a m m' => ?_⟩
  · rintro rfl
    rcases e2.fpx a m' with q | q
    · exact n.2.2 a m a q rfl
    · exact t a m q
  · rcases List.mem_append.mp m with m | m
    · rcases List.mem_append.mp m' with m' | m'
      · exact d.2 a (List.mem_append_left _ m) (List.mem_append_left _ m')
      · rcases e2.fzx a m' with q | q | q
        · exact n.2.2 a m a q rfl
        · exact d.2 a (List.mem_append_left _ m) (List.mem_append_right _ q)
        · exact t a m q
    · rcases List.mem_append.mp m' with m' | m'
      · rcases e2.fpx a m with q | q
        · exact d.2 a (List.mem_append_right _ q) (List.mem_append_left _ m')
        · exact t' a m' q
      · exact d2.2 a m m'
/-- the temporary is not touched -/
theorem Disj.off1 (d : Disj (f1 ++ f2) (z1 ++ z2)) : ∀ a ∈ f1, a ∉ wset b f2 := fun a m m' => (List.nodup_append.mp d.1).2.2 a m a (wset_sub a m') rfl
theorem Disj.off2 (d : Disj (f1 ++ f2) (z1 ++ z2)) : ∀ a ∈ z1, a ∉ wset b f2 := fun a m m' => d.2 a (List.mem_append_right _ (wset_sub a m')) (List.mem_append_left _ m)
theorem Disj.right (d : Disj (f1 ++ f2) (z1 ++ z2)) : Disj f2 z2 := ⟨(List.nodup_append.mp d.1).2.1, fun a m m' => d.2 a (List.mem_append_right _ m) (List.mem_append_right _ m')⟩
theorem Disj.left (d : Disj (f1 ++ f2) (z1 ++ z2)) : Disj f1 z1 := ⟨(List.nodup_append.mp d.1).1, fun a m m' => d.2 a (List.mem_append_left _ m) (List.mem_append_left _ m')⟩
end
/-- nothing of a slot is written, lent or moved -/
def quiet : Ex → Bool
  | .mv _ | .lend _ | .mutv _ _ _ | .mutk _ _ _ _ => false
  | .q e => quiet e
  | .op2 _ a b => quiet a && quiet b
  | .neg a => quiet a
  | .not a => quiet a
  | .cmp _ a b => quiet a && quiet b
  | .chain _ _ a b c => quiet a && quiet b && quiet c
  | .and a b => quiet a && quiet b
  | .or a b => quiet a && quiet b
  | .ite c a b => quiet c && quiet a && quiet b
  | .cons a b => quiet a && quiet b
  | .tup _ a => quiet a
  | .lst _ a => quiet a
  | .dict _ a => quiet a
  | .ix a b => quiet a && quiet b
  | .sl a b c => quiet a && quiet b && quiet c
  | .rev a => quiet a
  | .fld a _ => quiet a
  | .call _ a _ bs => quiet a && bs.isEmpty
  | .blt _ a => quiet a
  | .mth _ a b => quiet a && quiet b
  | .lc _ _ a _ b c => quiet a && quiet b && quiet c
  | .isin a _ => quiet a
  | .tnot a => quiet a
  | .tand a b => quiet a && quiet b
  | .tor a b => quiet a && quiet b
  | .tval a => quiet a
  | .tcmp _ a b => quiet a && quiet b
  | .tchain _ _ a b c => quiet a && quiet b && quiet c
  | .tq a => quiet a
  | .ival a => quiet a
  | .irng1 a => quiet a
  | .irng2 a b => quiet a && quiet b
  | .irng3 a b c => quiet a && quiet b && quiet c
  | .ienum a => quiet a
  | .izip a b => quiet a && quiet b
  | .lrng1 a => quiet a
  | .lrng2 a b => quiet a && quiet b
  | _ => true
section
variable {K : PySem.W.Frag} {H : Hp}
theorem Rep.trk {d : D} {n : Nat} {v : V} {f z : List Addr} (r : Rep K H d n v f z) : Trk H f ∧ Trk H z := by
  obtain ⟨h1, h2⟩ := Rep.own d n v f z r
  refine ⟨fun a m q => ?_, fun a m q => ?_⟩
  · obtain ⟨o, e, _⟩ := h1 a m
    rw [q] at e; cases e
  · obtain ⟨o, e⟩ := h2 a m
    rw [q] at e; cases e
theorem SL.trk {σ : St} {ρ : Env} {f z : List Addr} (r : SL K H σ ρ f z) : Trk H f ∧ Trk H z := by
  obtain ⟨h1, h2⟩ := SL.own r
  refine ⟨fun a m q => ?_, fun a m q => ?_⟩
  · obtain ⟨o, e, _⟩ := h1 a m
    rw [q] at e; cases e
  · obtain ⟨o, e⟩ := h2 a m
    rw [q] at e; cases e
end

/-! ### the readings -/
def PostE (b : Bool) (K : PySem.W.Frag) (σ : St) (H : Hp) (fp fz : List Addr) (d : Sl) (ρ' : Env) (Q : VK) : Prop :=
  ∀ v H' f1 z1 f2 z2, Rep K H' d.1 d.2 v f1 z1 → SL K H' σ ρ' f2 z2 → Disj (f1 ++ f2) (z1 ++ z2) → Ext b H fp fz H' (f1 ++ f2) (z1 ++ z2) → (b = true → New H f1) → Q v H'
def tI (K : PySem.W.Frag) (cf : Cf) (e : Ex) : TE := fun σ H Q => ∃ ρ fp fz d ρ', SL K H σ ρ fp fz ∧ Disj fp fz ∧ ev cf e ρ = .ok d ρ' ∧ PostE (quiet e) K σ H fp fz d ρ' Q
/-- slots alone -/
def PostS (b : Bool) (K : PySem.W.Frag) (σ : St) (H : Hp) (fp fz : List Addr) (ρ' : Env) (Q : Hp → Prop) : Prop :=
  ∀ H' f2 z2, SL K H' σ ρ' f2 z2 → Disj f2 z2 → Ext b H fp fz H' f2 z2 → Q H'
def tIT (K : PySem.W.Frag) (cf : Cf) (e : Ex) : TT := fun σ H Q => ∃ ρ fp fz b ρ', SL K H σ ρ fp fz ∧ Disj fp fz ∧ evT cf e ρ = .ok b ρ' ∧ PostS (quiet e) K σ H fp fz ρ' (Q b)
/-- arguments -/
def AL (K : PySem.W.Frag) (H : Hp) (σ : St) : List Ar → List V → List Addr → List Addr → Prop
  | [], vs, fp, fz => vs = [] ∧ fp = [] ∧ fz = []
  | .val s :: as, vs, fp, fz => ∃ v vs' f1 f2 z1 z2, vs = v :: vs' ∧ fp = f1 ++ f2 ∧ fz = z1 ++ z2 ∧ Rep K H s.1 s.2 v f1 z1 ∧ AL K H σ as vs' f2 z2
  | .ln i :: as, vs, fp, fz => ∃ v vs', vs = v :: vs' ∧ σ[i]? = some (some v) ∧ AL K H σ as vs' fp fz
theorem AL.stay {K : PySem.W.Frag} {H H' : Hp} {W : List Addr} (s : Stay W H H') {σ : St} : ∀ {as : List Ar} {vs : List V} {fp fz : List Addr}, AL K H σ as vs fp fz → (∀ a ∈ fp, a ∉ W) → (∀ a ∈ fz, a ∉ W) → AL K H' σ as vs fp fz
  | [], _, _, _, r, _, _ => r
  | .val d :: as, vs, fp, fz, r, h1, h2 => by
    obtain ⟨v, vs', f1, f2, z1, z2, e, e1, e2, r1, r2⟩ := r
    subst e1 e2
    exact ⟨v, vs', f1, f2, z1, z2, e, rfl, rfl, Rep.stay s _ _ _ _ _ r1 (fun a m => h1 a (List.mem_append_left _ m)) (fun a m => h2 a (List.mem_append_left _ m)),
      AL.stay s r2 (fun a m => h1 a (List.mem_append_right _ m)) (fun a m => h2 a (List.mem_append_right _ m))⟩
  | .ln i :: as, vs, fp, fz, r, h1, h2 => by
    obtain ⟨v, vs', e, g, r⟩ := r
    exact ⟨v, vs', e, g, AL.stay s r h1 h2⟩
theorem AL.trk {K : PySem.W.Frag} {H : Hp} {σ : St} : ∀ {as : List Ar} {vs : List V} {fp fz : List Addr}, AL K H σ as vs fp fz → Trk H fp ∧ Trk H fz
  | [], _, _, _, r => by obtain ⟨rfl, rfl, rfl⟩ := r; exact ⟨fun _ m => absurd m List.not_mem_nil, fun _ m => absurd m List.not_mem_nil⟩
  | .val d :: as, vs, fp, fz, r => by
    obtain ⟨v, vs', f1, f2, z1, z2, e, e1, e2, r1, r2⟩ := r
    subst e1 e2
    have h1 := r1.trk
    have h2 := AL.trk r2
    exact ⟨fun a m => (List.mem_append.mp m).elim (h1.1 a) (h2.1 a), fun a m => (List.mem_append.mp m).elim (h1.2 a) (h2.2 a)⟩
  | .ln i :: as, vs, fp, fz, r => by
    obtain ⟨v, vs', e, g, r⟩ := r
    exact AL.trk r
def PostA (b : Bool) (K : PySem.W.Frag) (σ : St) (H : Hp) (fp fz : List Addr) (as : List Ar) (ρ' : Env) (Q : List V → Hp → Prop) : Prop :=
  ∀ vs H' f1 z1 f2 z2, AL K H' σ as vs f1 z1 → SL K H' σ ρ' f2 z2 → Disj (f1 ++ f2) (z1 ++ z2) → Ext b H fp fz H' (f1 ++ f2) (z1 ++ z2) → (b = true → New H f1) → Q vs H'
def tIA (K : PySem.W.Frag) (cf : Cf) (e : Ex) : TA := fun σ H Q => ∃ ρ fp fz as ρ', SL K H σ ρ fp fz ∧ Disj fp fz ∧ evA cf e ρ = .ok as ρ' ∧ PostA (quiet e) K σ H fp fz as ρ' Q
def tIO (K : PySem.W.Frag) (cf : Cf) (e : Ex) : TO := fun σ H Q => ∃ ρ fp fz b ρ', SL K H σ ρ fp fz ∧ Disj fp fz ∧ evO cf e ρ = .ok b ρ' ∧ PostS (quiet e) K σ H fp fz ρ' (Q b)
/-- what is walked -/
structure ItOk (K : PySem.W.Frag) (J : It) (items : List D) (hold : Hp → Prop) (zI : List Addr) : Prop where
  keep : ∀ (W : List Addr) (H H' : Hp), Stay W H H' → (∀ a ∈ zI, a ∉ W) → hold H → hold H'
  trk : ∀ H, hold H → Trk H zI
  go : ∀ (i : Nat) (H : Hp) (d : D), hold H → items[i]? = some d → J.go i H ∧ ∀ x H', J.yld i H x H' → Stay [] H H' ∧ ∃ z, Rep K H' d 0 x [] z ∧ ∀ a ∈ z, a ∈ zI ∨ H a = none
  stop : ∀ (i : Nat) (H : Hp), hold H → items.length ≤ i → J.stop i H
def tII (K : PySem.W.Frag) (cf : Cf) (e : Ex) : TI := fun σ H R => ∃ ρ fp fz items ρ', SL K H σ ρ fp fz ∧ Disj fp fz ∧ evI cf e ρ = .ok items ρ' ∧
  ∀ J H' hold zI f2 z2, ItOk K J items hold zI → hold H' → SL K H' σ ρ' f2 z2 → Disj f2 (zI ++ z2) → Ext (quiet e) H fp fz H' f2 (zI ++ z2) → R J H'

/-! ### the results of bind -/
theorem bind_inv {α β : Type} {r : Rs α} {f : α → Env → Rs β} {b : β} {ρ : Env} (h : r.bind f = .ok b ρ) : ∃ a ρ1, r = .ok a ρ1 ∧ f a ρ1 = .ok b ρ := by
  cases r with
  | stk => cases h
  | ok a ρ1 => exact ⟨a, ρ1, rfl, h⟩
  | ex e ρ1 => cases h
theorem of_inv {α : Type} {o : Option α} {ρ ρ' : Env} {a : α} (h : Rs.of o ρ = .ok a ρ') : o = some a ∧ ρ' = ρ := by
  cases o with
  | none => cases h
  | some b => cases h; exact ⟨rfl, rfl⟩

/-! ### weakening -/
section
variable {X : Cx} {e : Expr}
theorem pe_imp {t t' : TE} (h : PE X e t) (i : ∀ σ H Q, t' σ H Q → t σ H Q) : PE X e t' := ⟨fun pins s σ H Q I q => h.run pins s σ H Q I (i σ H Q q)⟩
theorem pt_imp {t t' : TT} (h : PT X e t) (i : ∀ σ H Q, t' σ H Q → t σ H Q) : PT X e t' := ⟨fun pins s σ H Q I q => h.run pins s σ H Q I (i σ H Q q)⟩
theorem pw_imp {t t' : TT} (h : PW X e t) (i : ∀ σ H Q, t' σ H Q → t σ H Q) : PW X e t' := ⟨fun w pins s σ H Q I q => h.run w pins s σ H Q I (i σ H Q q)⟩
theorem pa_imp {es : List Expr} {t t' : TA} (h : PA X es t) (i : ∀ σ H Q, t' σ H Q → t σ H Q) : PA X es t' := ⟨fun pos pins s σ H Q I q => h.run pos pins s σ H Q I (i σ H Q q)⟩
end

/-! ### steps -/
section
variable {K : PySem.W.Frag} {cf : Cf} {σ : St} {H : Hp} {ρ ρ1 : Env} {fp fz : List Addr} {q : Bool}
/-- one expression, frozen -/
theorem step1 {a : Ex} {x : Sl} {R : V → Hp → Prop} (s : SL K H σ ρ fp fz) (d : Disj fp fz) (e : ev cf a ρ = .ok x ρ1) (hq : q = true → quiet a = true)
    (k : ∀ v H1 z1 f2 z2, Rep K H1 x.1 0 v [] z1 → SL K H1 σ ρ1 f2 z2 → Disj f2 (z1 ++ z2) → Ext q H fp fz H1 f2 (z1 ++ z2) → R v H1) : tI K cf a σ H R := by
  refine ⟨ρ, fp, fz, x, ρ1, s, d, e, fun v H' f1 z1 f2 z2 r s' d' e' _ => ?_⟩
  obtain ⟨z1', r', l⟩ := r.frz
  have l2 := l.app (Less.refl f2 z2)
  exact k v H' z1' f2 z2 r' s' (l2.disj d') ((e'.weak hq).less l2)
/-- two expressions, both frozen -/
theorem step2 {a b : Ex} {x y : Sl} {ρ2 : Env} {R : V → V → Hp → Prop} (s : SL K H σ ρ fp fz) (d : Disj fp fz) (e1 : ev cf a ρ = .ok x ρ1) (e2 : ev cf b ρ1 = .ok y ρ2) (hq : q = true → quiet a = true ∧ quiet b = true)
    (k : ∀ v w H2 z1 z2 f3 z3, Rep K H2 x.1 0 v [] z1 → Rep K H2 y.1 0 w [] z2 → SL K H2 σ ρ2 f3 z3 → Disj f3 ((z1 ++ z2) ++ z3) → Ext q H fp fz H2 f3 ((z1 ++ z2) ++ z3) → R v w H2) :
    tI K cf a σ H fun v H1 => tI K cf b σ H1 fun w H2 => R v w H2 := by
  refine step1 s d e1 (fun h => (hq h).1) fun v H1 z1 f2 z2 r1 s1 d1 x1 => ?_
  have t := r1.trk
  refine step1 s1 ⟨d1.1, fun a m m' => d1.2 a m (List.mem_append_right _ m')⟩ e2 (fun h => (hq h).2) fun w H2 z2' f3 z3 r2 s2 d2 x2 => ?_
  have d1' : Disj ([] ++ f2) (z1 ++ z2) := d1
  have x1' : Ext q H fp fz H1 ([] ++ f2) (z1 ++ z2) := x1
  have r1' := Rep.stay x2.stay _ _ _ _ _ r1 (fun _ m => absurd m List.not_mem_nil) d1'.off2
  refine k v w H2 z1 z2' f3 z3 r1' r2 s2 ?_ ?_
  · have := Ext.disj d1' (Trk.nil _) t.2 x2 d2
    rw [List.append_assoc]; exact this
  · have := Ext.trans x1' x2
    rw [List.append_assoc]; exact this
/-- the value of an operation: a new thing beside the slots -/
theorem pq_post {z1 f2 z2 : List Addr} {d : D} {Q : VK} {H1 : Hp} (s : SL K H1 σ ρ1 f2 z2) (dj : Disj f2 (z1 ++ z2)) (x : Ext q H fp fz H1 f2 (z1 ++ z2)) (qq : PostE q K σ H fp fz (fr d) ρ1 Q) : PQ K H1 z1 d Q := by
  intro v H' f z r st n1 n2 n3 n4
  have ts := s.trk
  have s' := SL.stay st s (by simp) (by simp)
  refine qq v H' f z f2 z2 r s' ?_ ?_ ?_
  · refine ⟨List.nodup_append.mpr ⟨n2, dj.1, fun a m b m' => ?_⟩, fun a m m' => ?_⟩
    · rintro rfl; exact ts.1 a m' (n1 a m)
    · rcases List.mem_append.mp m with m | m <;> rcases List.mem_append.mp m' with m' | m'
      · exact n3 a m m'
      · exact ts.2 a m' (n1 a m)
      · rcases n4 a m' with h | h
        · exact dj.2 a m (List.mem_append_left _ h)
        · exact ts.1 a m h
      · exact dj.2 a m (List.mem_append_right _ m')
  · refine ⟨fun a o h n => st a o (x.stay a o h n) (by simp), fun a m => ?_, fun a m => ?_⟩
    · rcases List.mem_append.mp m with m | m
      · exact (x.some (n1 a m)).symm
      · exact x.fpx a m
    · rcases List.mem_append.mp m with m | m
      · rcases n4 a m with h | h
        · exact x.fzx a (List.mem_append_left _ h)
        · exact (x.some h).elim (fun h => .inr (.inr h)) .inl
      · exact x.fzx a (List.mem_append_right _ m)
  · rintro rfl a m
    exact x.none (n1 a m)
/-- the value is there already, frozen -/
theorem post_old {z1 z f2 z2 : List Addr} {d : D} {v : V} {Q : VK} {H1 : Hp} (s : SL K H1 σ ρ1 f2 z2) (dj : Disj f2 (z1 ++ z2)) (x : Ext q H fp fz H1 f2 (z1 ++ z2)) (r : Rep K H1 d 0 v [] z) (hz : ∀ a ∈ z, a ∈ z1) (qq : PostE q K σ H fp fz (d, 0) ρ1 Q) : Q v H1 :=
  qq v H1 [] z f2 z2 r s ⟨dj.1, fun a m m' => dj.2 a m ((List.mem_append.mp m').elim (fun m => List.mem_append_left _ (hz a m)) (List.mem_append_right _))⟩
    (x.to (fun a m => m) fun a m => .inr ((List.mem_append.mp m).elim (fun m => List.mem_append_left _ (hz a m)) (List.mem_append_right _))) (fun _ _ m => absurd m List.not_mem_nil)
end
end Pi
/-! Pi7: the checker; contexts; steps of expressions. -/
namespace Pi
open PySem L2

/-- a def called with so many written arguments, then keywords; sel: the parameters' order -/
structure Shape where
  f : Str
  npos : Nat
  ks : List Str
  sel : List Nat
  deriving DecidableEq
structure Tb where
  blts : List Str
  cons : List Str
  shapes : List Shape
structure CkC where
  N : List Str
  sc : Scope
  fn : Str → Bool
def visB (sc : Scope) (x : Str) : Bool := match sc.names.lookup x with
  | some .local | some .cell | some .free => true
  | _ => false
def glB (sc : Scope) (x : Str) : Bool := sc.names.lookup x == some .globalImplicit
def locB (c : CkC) (x : Str) : Bool := match c.sc.names.lookup x with
  | some .local => true
  | some .cell => c.fn x
  | _ => false
def plainNm (x : Str) : Bool := !(x == ("__debug__" : Str)) && !(x == ("__classdict__" : Str)) && !(x == ("__name__" : Str))
def ckVar (c : CkC) (i : Nat) (x : Str) : Bool := (c.N[i]? == some x) && visB c.sc x && plainNm x
def ckTgt (c : CkC) (i : Nat) (x : Str) : Bool := (c.N[i]? == some x) && locB c x && plainNm x
def ckBlt (tb : Tb) (c : CkC) (x : Str) : Bool := tb.blts.contains x && glB c.sc x && plainNm x
def bnName : Bn → Str
  | .len => "len" | .int => "int" | .abs => "abs" | .max => "max" | .min => "min" | .sum => "sum" | .sorted => "sorted" | .tuple => "tuple" | .list => "list"
  | .repr => "repr" | .str => "str" | .all => "all" | .any => "any" | .bool => "bool"
def notSl : Expr → Bool
  | .Slice _ _ _ _ => false
  | _ => true
/-- the lent names among the arguments, with the parameter they stand for -/
def lendsOf : Ex → Nat → List (Nat × Nat)
  | .cons (.lend i) r, k => (i, k) :: lendsOf r (k + 1)
  | .cons _ r, k => lendsOf r (k + 1)
  | _, _ => []
def parOf (sel : List Nat) (k : Nat) : Nat := if sel.isEmpty then k else sel.idxOf k
def kwNames : List Keyword → Option (List Str)
  | [] => some []
  | ⟨some n, _, _⟩ :: r => (kwNames r).map (n :: ·)
  | _ :: _ => none
def relab (scope sc : Scope) : Scope := { scope with names := scope.names.map fun (n, k) => if (k == NameKind.free && sc.kind == .function && sc.names.lookup n == some .cell) then (n, NameKind.cell) else (n, k) }
def isSub1 : Expr → Bool
  | .UnaryOp .USub (.Constant (.int 1) _ _) _ => true
  | _ => false
def ckTg (c : CkC) : Tg → Expr → Bool
  | .nm i, .Name x _ => ckTgt c i x
  | .tp l, .Tuple xs _ _ => go l xs
  | _, _ => false
where
  go : List Nat → List Expr → Bool
    | [], [] => true
    | i :: is, .Name x _ :: xs => ckTgt c i x && go is xs
    | _, _ => false
def tgSlots : Tg → List Nat
  | .nm i => [i]
  | .tp l => l
mutual
def ck (tb : Tb) (c : CkC) : Ex → Expr → Bool
  | .var i, .Name x _ => ckVar c i x
  | .mv i, .Name x _ => ckVar c i x
  | .q e, x => ck tb c e x && quiet e
  | .int i, .Constant (.int j) _ _ => i == j
  | .bl i, .Constant (.bool j) _ _ => i == j
  | .non, .Constant .none _ _ => true
  | .str i, .Constant (.str j) _ _ => i == j
  | .con j, .Name x _ => (tb.cons[j]? == some x) && glB c.sc x && plainNm x
  | .op2 o a b, .BinOp xa o' xb _ => (o == o') && ck tb c a xa && ck tb c b xb
  | .neg a, .UnaryOp .USub x _ => ck tb c a x
  | .not a, .UnaryOp .Not x _ => ck tb c a x
  | .cmp o a b, .Compare xa [o'] [xb] _ => (o == o') && ck tb c a xa && ck tb c b xb && !behindInMarks o' xb
  | .chain o p a b d, .Compare xa [o', p'] [xb, xd] _ => (o == o') && (p == p') && ck tb c a xa && ck tb c b xb && ck tb c d xd && !lastMarks [o', p'] [xb, xd]
  | .and a b, .BoolOp .And (xa :: xb :: r) p => ck tb c a xa && (match r with | [] => ck tb c b xb | r => ck tb c b (.BoolOp .And (xb :: r) p))
  | .or a b, .BoolOp .Or (xa :: xb :: r) p => ck tb c a xa && (match r with | [] => ck tb c b xb | r => ck tb c b (.BoolOp .Or (xb :: r) p))
  | .ite t a b, .IfExp xt xa xb _ => ckT tb c t xt && ck tb c a xa && ck tb c b xb
  | .tup _ l, .Tuple xs _ _ => ckA tb c l xs
  | .lst _ l, .List xs _ => ckA tb c l xs
  | .dict _ l, .Dict ks vs _ => ckD tb c l ks vs && decide (ks.length ≤ 15)
  | .ix a b, .Subscript xa xb _ => ck tb c a xa && ck tb c b xb && notSl xb
  | .sl a lo hi, .Subscript xa (.Slice xl xh none _) _ => ck tb c a xa && ckO tb c lo xl && ckO tb c hi xh
  | .fld a f, .Attribute xa n _ => ck tb c a xa && (n == f) && notCall xa
  | .rev a, .Subscript xa (.Slice none none (some s) _) _ => ck tb c a xa && isSub1 s
  | .call f l sel backs, .Call (.Name x _) xs kws _ => (x == f) && glB c.sc x && plainNm x && ckA tb c l (xs ++ kws.map (·.value)) && decide (sel.Nodup) && (sel.isEmpty || (lendsOf l 0).all fun p => sel.contains p.2) && (sel.all fun j => decide (j < xs.length + kws.length)) && decide ((backs.map (·.1)).Nodup) && decide ((backs.map (·.2)).Nodup) && (backs == (lendsOf l 0).map fun p => (p.1, parOf sel p.2)) &&
      (match kwNames kws with | some ks => tb.shapes.contains ⟨f, xs.length, ks, sel⟩ | none => false)
  | .blt f l, .Call (.Name x _) xs [] _ => (x == bnName f) && ckBlt tb c x && ckA tb c l xs && (lendsOf l 0).isEmpty && !xs.isEmpty
  | .lrng1 a, .Call (.Name x _) [.Call (.Name y _) [xa] [] _] [] _ => (x == ("list" : Str)) && (y == ("range" : Str)) && ckBlt tb c x && ckBlt tb c y && ck tb c a xa
  | .lrng2 a b, .Call (.Name x _) [.Call (.Name y _) [xa, xb] [] _] [] _ => (x == ("list" : Str)) && (y == ("range" : Str)) && ckBlt tb c x && ckBlt tb c y && ck tb c a xa && ck tb c b xb
  | .isin a t, .Call (.Name x _) [xa, .Name y _] [] _ => (x == ("isinstance" : Str)) && ckBlt tb c x && ck tb c a xa && (y == Str.ofString t.nm) && ckBlt tb c y
  | .mth .get o l, .Call (.Attribute xo n apos) xs [] cpos => (n == ("get" : Str)) && ck tb c o xo && ckA tb c l xs && (lendsOf l 0).isEmpty && (apos.endLine == cpos.line) && decide (xs.length < 20) && notCall xo && !xs.isEmpty
  | .mutv m i l, .Call (.Attribute (.Name x _) n apos) xs [] cpos => (n == mmName m) && ckVar c i x && ckA tb c l xs && (lendsOf l 0).isEmpty && (apos.endLine == cpos.line) && decide (xs.length < 20)
  | .mutk m i k l, .Call (.Attribute (.Subscript (.Name x _) (.Constant (.str k') _ _) _) n apos) xs [] cpos => (n == mmName m) && (k == k') && ckVar c i x && ckA tb c l xs && quiet l && (lendsOf l 0).isEmpty && (apos.endLine == cpos.line) && decide (xs.length < 20)
  | .lc _ own elt tg it cnd, .ListComp xe [⟨xt, xi, ifs, 0⟩] scope _ =>
      ckI tb c it xt xi && blkC c.N c.sc scope (own.map fun i => ((c.N[i]?).getD Str.empty, i)) && (tgSlots tg).all own.contains &&
      ckTg ⟨c.N, relab scope c.sc, fun x => scope.names.lookup x == some .cell⟩ tg xt &&
      ck tb ⟨c.N, relab scope c.sc, fun x => scope.names.lookup x == some .cell⟩ elt xe &&
      (match ifs with
       | [] => (match cnd with | .tyes => true | _ => false)
       | [xc] => ckT tb ⟨c.N, relab scope c.sc, fun x => scope.names.lookup x == some .cell⟩ cnd xc
       | _ => false)
  | _, _ => false
where
  notCall : Expr → Bool
    | .Call _ _ _ _ => false
    | _ => true
  mmName : Mm → Str
    | .append => "append" | .pop => "pop" | .extend => "extend" | .insert => "insert" | .remove => "remove" | .setdefault => "setdefault"
def ckA (tb : Tb) (c : CkC) : Ex → List Expr → Bool
  | .nil, [] => true
  | .cons (.lend i) r, .Name x _ :: xs => ckVar c i x && ckA tb c r xs
  | .cons a r, x :: xs => ck tb c a x && ckA tb c r xs
  | _, _ => false
def ckD (tb : Tb) (c : CkC) : Ex → List (Option Expr) → List Expr → Bool
  | .nil, [], [] => true
  | .cons k (.cons v r), some xk :: ks, xv :: vs => ck tb c k xk && ck tb c v xv && ckD tb c r ks vs
  | _, _, _ => false
def ckO (tb : Tb) (c : CkC) : Ex → Option Expr → Bool
  | .nil, none => true
  | .ival a, some x => ck tb c a x
  | _, _ => false
def ckT (tb : Tb) (c : CkC) : Ex → Expr → Bool
  | .tnot a, .UnaryOp .Not x _ => ckT tb c a x
  | .tand a b, .BoolOp .And (xa :: xb :: r) p => ckT tb c a xa && (match r with | [] => ckT tb c b xb | r => ckT tb c b (.BoolOp .And (xb :: r) p))
  | .tor a b, .BoolOp .Or (xa :: xb :: r) p => ckT tb c a xa && (match r with | [] => ckT tb c b xb | r => ckT tb c b (.BoolOp .Or (xb :: r) p))
  | .tcmp o a b, .Compare xa [o'] [xb] _ => (o == o') && ck tb c a xa && ck tb c b xb && !behindInMarks o' xb
  | .tchain o p a b d, .Compare xa [o', p'] [xb, xd] _ => (o == o') && (p == p') && ck tb c a xa && ck tb c b xb && ck tb c d xd && !lastMarks [o', p'] [xb, xd]
  | .tq a, x => ckT tb c a x && quiet a
  | .tval a, x => ck tb c a x && (match x with | .UnaryOp .Not _ _ | .BoolOp _ _ _ | .IfExp _ _ _ _ | .Compare _ _ _ _ => false | _ => true)
  | _, _ => false
/-- the second: the target's form -/
def ckI (tb : Tb) (c : CkC) : Ex → Expr → Expr → Bool
  | .ival a, _, x => ck tb c a x && (match x with | .Set _ _ _ => false | _ => true)
  | .irng1 a, _, .Call (.Name y _) [xa] [] _ => (y == ("range" : Str)) && ckBlt tb c y && ck tb c a xa
  | .irng2 a b, _, .Call (.Name y _) [xa, xb] [] _ => (y == ("range" : Str)) && ckBlt tb c y && ck tb c a xa && ck tb c b xb
  | .irng3 a b d, _, .Call (.Name y _) [xa, xb, xd] [] _ => (y == ("range" : Str)) && ckBlt tb c y && ck tb c a xa && ck tb c b xb && ck tb c d xd
  | .ienum a, xt, .Call (.Name y _) [xa] [] _ => (y == ("enumerate" : Str)) && ckBlt tb c y && ck tb c a xa && (match xt with | .Tuple _ _ _ => true | _ => false)
  | _, _, _ => false
end

/-! ### contexts -/
/-- a def keeps a promise where no repr runs -/
structure FnG (P : Program) (w : World) (K : PySem.W.Frag) (mg : Str → Option Value) (base : Heap) (k : Nat) (f : Addr) (fd : FuncData) (ps : List Str) (sp : Sp) : Prop where
  len : ∀ vs H Q E, sp vs H Q E → vs.length = ps.length
  run : ∀ (A : Around) (outer : List PySem.Env) (s : Shared) (H : Hp) (args : Args) (us : List Value) (vs : List V) (Q : VK) (E : XK), Room k A → A.guards = some [] → Env0 P w K mg base A outer s H → BindsTo s fd args (ps.zip us) → Vals vs us → sp vs H Q E →
    codeAny (model P w) A (.call (.ref f) args) (CR CX0 outer P w H s Q E) s
/-- the promise that the evaluator makes -/
def spD (K : PySem.W.Frag) (call : List Sl → Cr) : Sp := fun vs H Q _ => ∃ args fp fz r outs, SL K H (vs.map some) (args.map some) fp fz ∧ Disj fp fz ∧ call args = .ok r outs ∧
  ∀ v H' f1 z1 f2 z2, Rep K H' r.1 r.2 v f1 z1 → SL K H' (vs.map some) outs f2 z2 → Disj (f1 ++ f2) (z1 ++ z2) → Ext false H fp fz H' (f1 ++ f2) (z1 ++ z2) → Q v H'
/-- the promise of an __init__ of the class C -/
def spI (K : PySem.W.Frag) (C : Addr) (call : List Sl → Cr) : Sp := fun vs H Q _ => ∃ x dx avs args fp fz r outs, vs = .ref x :: avs ∧ H x = some (.ins C dx []) ∧ SL K H (avs.map some) (args.map some) fp fz ∧ Disj fp fz ∧ x ∉ fp ∧ x ∉ fz ∧ call args = .ok r outs ∧
  ∀ H', Rep K H' r.1 r.2 (.ref x) [] [x] → Stay (x :: fp) H H' → Q .non H'
structure CallOk (X : Cx) (cf : Cf) (sh : Shape) : Prop where
  ex : (∃ (a : Addr) (fd : FuncData) (ps : List Str) (k : Nat), X.mg sh.f = some (.ref a) ∧ PySem.W.keepIn X.K (.ref a) = true ∧ Room k X.A ∧ FnG X.prog X.w X.K X.mg X.base k a fd ps (spD X.K (cf.call sh.f)) ∧
    ∀ (s : Shared) (us ws : List Value), X.K.In s.heap → us.length = sh.npos → ws.length = sh.ks.length → BindsTo s fd ⟨us, sh.ks.zip ws⟩ (ps.zip (selL (us ++ ws) sh.sel))) ∨
    (∃ (C f : Addr) (fd : FuncData) (ps : List Str), X.mg sh.f = some (.ref C) ∧ Mk X.K C f ∧ sh.ks = [] ∧
      (∀ args r outs, cf.call sh.f args = .ok r outs → outs = List.replicate args.length none) ∧
      (∀ args r outs, cf.call sh.f args = .ok r outs → ∃ k, Room (k + 1) X.A ∧ FnG X.prog X.w X.K X.mg X.base k f fd ps (spI X.K C (cf.call sh.f))) ∧
      ∀ (s : Shared) (self : Value) (us : List Value), X.K.In s.heap → us.length = sh.npos → BindsTo s fd ⟨self :: us, []⟩ (ps.zip (self :: selL us sh.sel)))
structure XOk (X : Cx) (tb : Tb) (cf : Cf) (c : CkC) : Prop where
  calm : X.calm = true
  nd : X.N.Nodup
  hN : X.N = c.N
  hsc : X.env.scope = c.sc
  hfn : ∀ x, c.fn x = true → X.fn x = true
  gd : X.A.guards = some []
  hu : X.A.units + 200 < cLine
  hd : X.A.handled = none
  blt : ∀ x ∈ tb.blts, X.mg x = none
  con : ∀ (j : Nat) (x : Str), tb.cons[j]? = some x → ∃ v u d, X.mg x = some u ∧ RelV v u ∧ cf.con[j]? = some d ∧ ∀ H, Rep X.K H d 0 v [] []
  calls : ∀ sh ∈ tb.shapes, CallOk X cf sh

section
variable {X : Cx} {tb : Tb} {cf : Cf} {c : CkC}
theorem visB_ok {sc : Scope} {x : Str} (h : visB sc x = true) : Vis sc x := by
  unfold visB at h
  split at h <;> first | (rename_i e; first | exact .inl e | exact .inr (.inl e) | exact .inr (.inr e)) | cases h
theorem ckVar_ok (ok : XOk X tb cf c) {i : Nat} {x : Str} {pos : Pos} (h : ckVar c i x = true) : PE X (.Name x pos) (tVar i) := by
  simp only [ckVar, plainNm, Bool.and_eq_true, beq_iff_eq, Bool.not_eq_true'] at h
  exact pe_var (by rw [ok.hN]; exact h.1.1) (by rw [ok.hsc]; exact visB_ok h.1.2) (by simpa using h.2.1.1) (by simpa using h.2.1.2)
theorem ckTgt_ok (ok : XOk X tb cf c) {i : Nat} {x : Str} {pos : Pos} (h : ckTgt c i x = true) : PG X (.Name x pos) (gName i) := by
  simp only [ckTgt, plainNm, Bool.and_eq_true, beq_iff_eq, Bool.not_eq_true'] at h
  have hl := h.1.2
  unfold locB at hl
  split at hl
  · rename_i e
    exact pg_name ok.nd (by rw [ok.hN]; exact h.1.1) (by rw [ok.hsc]; exact .inl e) (.inr (by rw [ok.hsc]; exact e))
  · rename_i e
    exact pg_name ok.nd (by rw [ok.hN]; exact h.1.1) (by rw [ok.hsc]; exact .inr e) (.inl (ok.hfn x hl))
  · cases hl
theorem gl_ok (ok : XOk X tb cf c) {x : Str} (h : glB c.sc x = true) : Gl X x := by
  simp only [glB, beq_iff_eq] at h
  show X.env.scope.names.lookup x = some .globalImplicit
  rw [ok.hsc]; exact h
theorem plain_debug {x : Str} (h : plainNm x = true) : (x == ("__debug__" : Str)) = false := by simp only [plainNm, Bool.and_eq_true, Bool.not_eq_true'] at h; exact h.1.1
theorem plain_name {x : Str} (h : plainNm x = true) : x ≠ "__name__" := by simp only [plainNm, Bool.and_eq_true, Bool.not_eq_true'] at h; exact ne_of_beq_false h.2
theorem ckBlt_ok (ok : XOk X tb cf c) {x : Str} (h : ckBlt tb c x = true) : X.mg x = none ∧ Gl X x ∧ x ≠ "__name__" ∧ (x == ("__debug__" : Str)) = false := by
  simp only [ckBlt, Bool.and_eq_true] at h
  exact ⟨ok.blt x (by simpa using h.1.1), gl_ok ok h.1.2, plain_name h.2, plain_debug h.2⟩
theorem attr_base {o : Expr} {n : Str} {env : PySem.Env} (h : ∀ f a k p, o ≠ .Call f a k p) : attributeBase o n env (eval o env) = eval o env := by
  cases o <;> first | rfl | exact absurd rfl (h _ _ _ _)
theorem notSl_ok {b : Expr} (h : notSl b = true) : PlainIx b := by
  intro o i
  cases b <;> first | rfl | cases h
end
end Pi
/-! Pi8: each node of an expression. -/
namespace Pi
open PySem L2

section
variable {X : Cx} {tb : Tb} {cf : Cf} {c : CkC}

/-! ### names, constants -/
theorem var_ok (ok : XOk X tb cf c) {i : Nat} {x : Str} {pos : Pos} (h : ckVar c i x = true) : PE X (.Name x pos) (tI X.K cf (.var i)) := by
  refine pe_imp (ckVar_ok ok h) fun σ H Q ⟨ρ, fp, fz, d, ρ', s, dj, e, p⟩ => ?_
  simp only [ev] at e
  split at e
  · rename_i sl g
    cases e
    obtain ⟨v, f1, f2, z1, z2, hv, r, s2, pf, pz⟩ := SL.take s g
    obtain ⟨z1', r', l⟩ := r.frz
    obtain ⟨f3, z3, s3, pf3, pz3⟩ := SL.fill s2 hv r'
    refine ⟨v, hv, p v H [] z1' f3 z3 r' s3 ?_ ?_ (fun _ _ m => absurd m List.not_mem_nil)⟩
    · have l2 := l.app (Less.refl f2 z2)
      have d2 : Disj ([] ++ f2) (z1' ++ z2) := l2.disj (dj.of pf.symm fun a m => pz.mem_iff.mp m)
      refine d2.of pf3 fun a m => ?_
      rcases List.mem_append.mp m with m | m
      · exact List.mem_append_left _ m
      · exact pz3.mem_iff.mpr m
    · refine ⟨.refl _ _, fun a m => .inl ?_, fun a m => ?_⟩
      · exact pf.mem_iff.mp (List.mem_append_right _ (pf3.mem_iff.mpr m))
      · have key : ∀ a ∈ z1', a ∈ fp ∨ a ∈ fz := fun a m => (l.fz a m).elim (fun h => .inr (pz.mem_iff.mp (List.mem_append_left _ h))) fun h => .inl (pf.mem_iff.mp (List.mem_append_left _ h))
        rcases List.mem_append.mp m with m | m
        · exact (key a m).imp id .inl
        · rcases List.mem_append.mp (pz3.mem_iff.mpr m) with m | m
          · exact (key a m).imp id .inl
          · exact .inr (.inl (pz.mem_iff.mp (List.mem_append_right _ m)))
  · cases e
theorem mv_ok (ok : XOk X tb cf c) {i : Nat} {x : Str} {pos : Pos} (h : ckVar c i x = true) : PE X (.Name x pos) (tI X.K cf (.mv i)) := by
  refine pe_imp (ckVar_ok ok h) fun σ H Q ⟨ρ, fp, fz, d, ρ', s, dj, e, p⟩ => ?_
  simp only [ev] at e
  split at e
  · rename_i sl g
    cases e
    obtain ⟨v, f1, f2, z1, z2, hv, r, s2, pf, pz⟩ := SL.take s g
    refine ⟨v, hv, p v H f1 z1 f2 z2 r s2 (dj.of pf.symm fun a m => pz.mem_iff.mp m) ?_ (fun h => nomatch h)⟩
    exact (Ext.refl _ H fp fz).perm pf.symm pz.symm
  · cases e
/-- a thing that is nothing but its value -/
theorem const_ok {e : Ex} {x : Expr} {d : D} {v : V} (hv : PE X x (tC v)) (he : ∀ ρ, ev cf e ρ = .ok (d, 0) ρ) (hr : ∀ H, Rep X.K H d 0 v [] []) : PE X x (tI X.K cf e) := by
  refine pe_imp hv fun σ H Q ⟨ρ, fp, fz, d', ρ', s, dj, e, p⟩ => ?_
  rw [he] at e
  cases e
  exact p v H [] [] fp fz (hr H) s dj (.refl _ _ _ _) (fun _ _ m => absurd m List.not_mem_nil)
theorem con_ok (ok : XOk X tb cf c) {j : Nat} {x : Str} {pos : Pos} (h1 : tb.cons[j]? = some x) (h2 : glB c.sc x = true) (h3 : plainNm x = true) : PE X (.Name x pos) (tI X.K cf (.con j)) := by
  obtain ⟨v, u, d, hm, r, hc, hr⟩ := ok.con j x h1
  exact const_ok (pe_glob (gl_ok ok h2) hm r (plain_debug h3)) (fun ρ => by simp only [ev, hc, of_some, bind_ok]) hr
/-- q e: the slots are as before -/
theorem q_ok {e : Ex} {x : Expr} (ih : PE X x (tI X.K cf e)) (hq : quiet e = true) : PE X x (tI X.K cf (.q e)) := by
  refine pe_imp ih fun σ H Q ⟨ρ, fp, fz, d, ρ', s, dj, e, p⟩ => ?_
  simp only [ev] at e
  obtain ⟨d', ρ1, e1, e2⟩ := bind_inv e
  cases e2
  refine ⟨ρ, fp, fz, d, ρ1, s, dj, e1, fun v H' f1 z1 f2 z2 r s2 d2 x2 n => ?_⟩
  rw [hq] at x2
  have n1 := n hq
  cases hz : nofz d.2 d.1 with
  | false =>
    rw [hz] at p
    exact p v H' f1 z1 f2 z2 r s2 d2 (x2.weak fun _ => rfl) (fun _ => n1)
  | true =>
    rw [hz] at p
    have z0 := Rep.nofz _ _ _ _ _ hz r
    subst z0
    have ts := s.trk
    have s' : SL X.K H' σ ρ fp fz := SL.stay x2.stay s (fun _ _ m => absurd m List.not_mem_nil) (fun _ _ m => absurd m List.not_mem_nil)
    refine p v H' f1 [] fp fz r s' ?_ ?_ (fun _ => n1)
    · refine ⟨List.nodup_append.mpr ⟨(List.nodup_append.mp d2.1).1, dj.1, fun a m b m' => ?_⟩, fun a m m' => ?_⟩
      · rintro rfl; exact ts.1 a m' (n1 a m)
      · have m' : a ∈ fz := m'
        rcases List.mem_append.mp m with m | m
        · exact ts.2 a m' (n1 a m)
        · exact dj.2 a m m'
    · refine ⟨x2.stay.mono fun _ m => absurd m List.not_mem_nil, fun a m => ?_, fun a m => .inr (.inl m)⟩
      rcases List.mem_append.mp m with m | m
      · exact .inr (n1 a m)
      · exact .inl m

/-! ### operators -/
theorem and_iff2 {a b : Bool} : (a && b) = true → a = true ∧ b = true := by cases a <;> cases b <;> simp
theorem op2_pe {o : Operator} {a b : Ex} {xa xb : Expr} {pos : Pos} (ia : PE X xa (tI X.K cf a)) (ib : PE X xb (tI X.K cf b)) : PE X (.BinOp xa o xb pos) (tI X.K cf (.op2 o a b)) := by
  refine pe_imp (pe_op (op2_ok o) ia ib) fun σ H Q ⟨ρ, fp, fz, d, ρ', s, dj, e, p⟩ => ?_
  simp only [ev] at e
  obtain ⟨x, ρ1, e1, ea⟩ := bind_inv e
  obtain ⟨y, ρ2, e2, eb⟩ := bind_inv ea
  obtain ⟨w, ρ3, e3', ec⟩ := bind_inv eb
  obtain ⟨e3, rfl⟩ := of_inv e3'
  cases ec
  refine step2 (q := quiet (.op2 o a b)) s dj e1 e2 (fun h => and_iff2 (by simpa only [quiet] using h)) fun v u H2 z1 z2 f3 z3 r1 r2 s3 d3 x3 => ?_
  exact ⟨x.1, z1, y.1, z2, w, r1, r2, e3, pq_post s3 d3 x3 p⟩
theorem cmp_post {σ : St} {H H1 : Hp} {fp fz f2 z1 z2 : List Addr} {ρ1 : Env} {q : Bool} {Q : VK} {b : Bool} (s : SL X.K H1 σ ρ1 f2 z2) (dj : Disj f2 (z1 ++ z2)) (x : Ext q H fp fz H1 f2 (z1 ++ z2)) (p : PostE q X.K σ H fp fz (.bl b, 0) ρ1 Q) : Q (.bl b) H1 :=
  post_old (z1 := z1) (z := []) s dj x (by simp [Rep]) (fun _ m => absurd m List.not_mem_nil) p
theorem hu65 (ok : XOk X tb cf c) : X.A.units + 65 < cLine := by have := ok.hu; omega
theorem cmp_pe (ok : XOk X tb cf c) {o : CmpOp} {a b : Ex} {xa xb : Expr} {pos : Pos} (ia : PE X xa (tI X.K cf a)) (ib : PE X xb (tI X.K cf b)) (hm : behindInMarks o xb = false) : PE X (.Compare xa [o] [xb] pos) (tI X.K cf (.cmp o a b)) := by
  refine pe_imp (pe_cmpR (cmp_ok (hu65 ok) o) ia ib hm) fun σ H Q ⟨ρ, fp, fz, d, ρ', s, dj, e, p⟩ => ?_
  simp only [ev] at e
  obtain ⟨x, ρ1, e1, ea⟩ := bind_inv e
  obtain ⟨y, ρ2, e2, eb⟩ := bind_inv ea
  obtain ⟨w, ρ3, e3', ec⟩ := bind_inv eb
  obtain ⟨e3, rfl⟩ := of_inv e3'
  cases ec
  refine step2 (q := quiet (.cmp o a b)) s dj e1 e2 (fun h => and_iff2 (by simpa only [quiet] using h)) fun v u H2 z1 z2 f3 z3 r1 r2 s3 d3 x3 => ?_
  exact ⟨x.1, z1, y.1, z2, w, r1, r2, e3, cmp_post s3 d3 x3 p⟩
theorem tcmp_pt (ok : XOk X tb cf c) {o : CmpOp} {a b : Ex} {xa xb : Expr} {pos : Pos} (ia : PE X xa (tI X.K cf a)) (ib : PE X xb (tI X.K cf b)) (hm : behindInMarks o xb = false) : PT X (.Compare xa [o] [xb] pos) (tIT X.K cf (.tcmp o a b)) := by
  refine pt_imp (pt_cmpR (cmp_ok (hu65 ok) o) ia ib hm) fun σ H Q ⟨ρ, fp, fz, d, ρ', s, dj, e, p⟩ => ?_
  simp only [evT] at e
  obtain ⟨x, ρ1, e1, ea⟩ := bind_inv e
  obtain ⟨y, ρ2, e2, eb⟩ := bind_inv ea
  obtain ⟨e3, rfl⟩ := of_inv eb
  show tI X.K cf a σ H _
  refine step2 (q := quiet (.tcmp o a b)) s dj e1 e2 (fun h => and_iff2 (by simpa only [quiet] using h)) fun v u H2 z1 z2 f3 z3 r1 r2 s3 d3 x3 => ?_
  refine ⟨x.1, z1, y.1, z2, d, r1, r2, e3, d, rfl, ?_⟩
  exact p H2 f3 z3 s3 ⟨d3.1, fun a m m' => d3.2 a m (List.mem_append_right _ m')⟩ (x3.to (fun _ m => m) fun a m => .inr (List.mem_append_right _ m))
/-- a op b op' c, from the state behind a and b -/
theorem chain_in (ok : XOk X tb cf c) {o o' : CmpOp} {a b d : Ex} {σ : St} {H : Hp} {fp fz : List Addr} {ρ ρ' : Env} {r : Bool} {q : Bool} {Q : VK} (s : SL X.K H σ ρ fp fz) (dj : Disj fp fz)
    (e : ((ev cf a ρ).bind fun x ρ1 => (ev cf b ρ1).bind fun y ρ2 => (Rs.of (cmpD o x.1 y.1) ρ2).bind fun t ρ3 => if t then (ev cf d ρ3).bind fun z ρ4 => Rs.of (cmpD o' y.1 z.1) ρ4 else .ok false ρ3) = .ok r ρ')
    (hq : q = true → quiet a = true ∧ quiet b = true ∧ quiet d = true)
    (p : ∀ H' f2 z2, SL X.K H' σ ρ' f2 z2 → Disj f2 z2 → Ext q H fp fz H' f2 z2 → Q (.bl r) H') :
    tChain (rC X.K (cmpD o)) (rC X.K (cmpD o')) (tI X.K cf a) (tI X.K cf b) (tI X.K cf d) σ H Q := by
  obtain ⟨x, ρ1, e1, ea⟩ := bind_inv e
  obtain ⟨y, ρ2, e2, eb⟩ := bind_inv ea
  obtain ⟨t, ρ3, e3', ec⟩ := bind_inv eb
  clear e ea eb
  obtain ⟨e3, rfl⟩ := of_inv e3'
  refine step2 (q := q) s dj e1 e2 (fun h => ⟨(hq h).1, (hq h).2.1⟩) fun v u H2 z1 z2 f3 z3 r1 r2 s3 d3 x3 => ?_
  refine ⟨x.1, z1, y.1, z2, t, r1, r2, e3, t, rfl, ?_⟩
  cases t with
  | false =>
    simp only [Bool.false_eq_true, if_false] at ec ⊢
    cases ec
    exact p H2 f3 z3 s3 ⟨d3.1, fun a m m' => d3.2 a m (List.mem_append_right _ m')⟩ (x3.to (fun _ m => m) fun a m => .inr (List.mem_append_right _ m))
  | true =>
    simp only [if_true] at ec ⊢
    obtain ⟨w, ρ4, e4, ed⟩ := bind_inv ec
    obtain ⟨e5, rfl⟩ := of_inv ed
    have tr := r2.trk
    have d3' : Disj ([] ++ f3) (z2 ++ z3) := ⟨d3.1, fun a m m' => d3.2 a m (by simp only [List.mem_append] at m' ⊢; rcases m' with h | h <;> simp [h])⟩
    refine step1 (q := q) s3 d3'.right e4 (fun h => (hq h).2.2) fun v4 H4 z4 f5 z5 r4 s4 d4 x4 => ?_
    have r2' := Rep.stay x4.stay _ _ _ _ _ r2 (fun _ m => absurd m List.not_mem_nil) d3'.off2
    refine ⟨y.1, z2, w.1, z4, r, r2', r4, e5, ?_⟩
    have x3' : Ext q H fp fz H2 ([] ++ f3) ([] ++ z3) := x3.to (fun _ m => m) fun a m => .inr (List.mem_append_right _ m)
    have x5 := Ext.trans x3' x4
    exact p H4 f5 z5 s4 ⟨d4.1, fun a m m' => d4.2 a m (List.mem_append_right _ m')⟩ (x5.to (fun _ m => m) fun a m => .inr (List.mem_append_right _ (List.mem_append_right _ m)))
theorem and_iff3 {a b d : Bool} : (a && b && d) = true → a = true ∧ b = true ∧ d = true := by cases a <;> cases b <;> cases d <;> simp
theorem chain_pe (ok : XOk X tb cf c) {o o' : CmpOp} {a b d : Ex} {xa xb xd : Expr} {pos : Pos} (ia : PE X xa (tI X.K cf a)) (ib : PE X xb (tI X.K cf b)) (id : PE X xd (tI X.K cf d)) (hm : lastMarks [o, o'] [xb, xd] = false) : PE X (.Compare xa [o, o'] [xb, xd] pos) (tI X.K cf (.chain o o' a b d)) := by
  refine pe_imp (pe_chain (cmp_ok (hu65 ok) o) (cmp_ok (hu65 ok) o') ia ib id hm) fun σ H Q ⟨ρ, fp, fz, w, ρ', s, dj, e, p⟩ => ?_
  simp only [ev] at e
  have key : ∃ r, w = (.bl r, 0) ∧ ((ev cf a ρ).bind fun x ρ1 => (ev cf b ρ1).bind fun y ρ2 => (Rs.of (cmpD o x.1 y.1) ρ2).bind fun t ρ3 => if t then (ev cf d ρ3).bind fun z ρ4 => Rs.of (cmpD o' y.1 z.1) ρ4 else .ok false ρ3) = .ok r ρ' := by
    obtain ⟨x, ρ1, e1, ea⟩ := bind_inv e
    obtain ⟨y, ρ2, e2, eb⟩ := bind_inv ea
    obtain ⟨t, ρ3, e3, ec⟩ := bind_inv eb
    clear e ea eb
    cases t with
    | false =>
      simp only [Bool.false_eq_true, if_false] at ec
      cases ec
      exact ⟨false, rfl, by simp [e1, e2, e3, bind_ok]⟩
    | true =>
      simp only [if_true] at ec
      obtain ⟨z, ρ4, e4, ed⟩ := bind_inv ec
      obtain ⟨r, ρ5, e5', ef⟩ := bind_inv ed
      cases ef
      obtain ⟨e5, rfl⟩ := of_inv e5'
      exact ⟨r, rfl, by simp [e1, e2, e3, e4, e5, bind_ok, of_some]⟩
  clear e
  obtain ⟨r, rfl, e⟩ := key
  refine chain_in ok s dj e (fun h => and_iff3 (by simpa only [quiet] using h)) fun H' f2 z2 s2 d2 x2 => ?_
  exact p _ H' [] [] f2 z2 (by simp [Rep]) s2 d2 x2 (fun _ _ m => absurd m List.not_mem_nil)
theorem tchain_pt (ok : XOk X tb cf c) {o o' : CmpOp} {a b d : Ex} {xa xb xd : Expr} {pos : Pos} (ia : PE X xa (tI X.K cf a)) (ib : PE X xb (tI X.K cf b)) (id : PE X xd (tI X.K cf d)) (hm : lastMarks [o, o'] [xb, xd] = false) : PT X (.Compare xa [o, o'] [xb, xd] pos) (tIT X.K cf (.tchain o o' a b d)) := by
  refine pt_imp (pt_chain (cmp_ok (hu65 ok) o) (cmp_ok (hu65 ok) o') ia ib id hm) fun σ H Q ⟨ρ, fp, fz, r, ρ', s, dj, e, p⟩ => ?_
  simp only [evT] at e
  exact chain_in ok s dj e (fun h => and_iff3 (by simpa only [quiet] using h)) fun H' f2 z2 s2 d2 x2 => ⟨r, rfl, p H' f2 z2 s2 d2 x2⟩
theorem neg_pe {a : Ex} {xa : Expr} {pos : Pos} (ia : PE X xa (tI X.K cf a)) : PE X (.UnaryOp .USub xa pos) (tI X.K cf (.neg a)) := by
  refine pe_imp (pe_un un_neg ia) fun σ H Q ⟨ρ, fp, fz, w, ρ', s, dj, e, p⟩ => ?_
  simp only [ev] at e
  obtain ⟨⟨x, n⟩, ρ1, e1, e⟩ := bind_inv e
  cases x <;> simp only [reduceCtorEq] at e
  rename_i i
  cases e
  refine step1 (q := quiet (.neg a)) s dj e1 (fun h => by simpa only [quiet] using h) fun v H1 z1 f2 z2 r s2 d2 x2 => ?_
  cases r.toInt
  exact ⟨i, rfl, post_old (z1 := z1) (z := []) s2 d2 x2 (by simp [Rep]) (fun _ m => absurd m List.not_mem_nil) p⟩
theorem empty_eq {α β : Type} {l : List α} {m : List β} (h : m.length = l.length) : (!l.isEmpty) = !m.isEmpty := by
  cases l <;> cases m <;> simp_all
theorem tru_rep {H : Hp} {d : D} {v : V} {z : List Addr} {b : Bool} (r : Rep X.K H d 0 v [] z) (t : truthD d = some b) : TruV X.K v H b := by
  cases d with
  | non => cases r.toNon; simp only [truthD, Option.some.injEq] at t; exact t.symm
  | bl i => cases r.toBl; simp only [truthD, Option.some.injEq] at t; exact t.symm
  | int i => cases r.toInt; simp only [truthD, Option.some.injEq] at t; exact t.symm
  | str i =>
    cases r.toStr
    simp only [truthD] at t
    split at t
    · rename_i h
      cases t
      exact ⟨h, rfl⟩
    · cases t
  | tup l =>
    simp only [truthD, Option.some.injEq] at t
    obtain ⟨a, vs, rfl, h, rl⟩ := r.toTup
    exact .inr (.inl ⟨vs, SqT.of h, by rw [← t, empty_eq (RepL.len rl)]⟩)
  | ctup l =>
    simp only [truthD, Option.some.injEq] at t
    obtain ⟨a, vs, rfl, h, rl⟩ := r.toCtup
    exact .inr (.inl ⟨vs, h, by rw [← t, empty_eq (RepL.len rl)]⟩)
  | lst l =>
    simp only [truthD, Option.some.injEq] at t
    obtain ⟨a, vs, _, rfl, h, rl, rfl⟩ := r.toLst
    exact .inl ⟨vs, SqL.of h, by rw [← t, empty_eq (RepL.len rl)]⟩
  | _ => simp [truthD] at t
theorem not_pe {a : Ex} {xa : Expr} {pos : Pos} (ia : PE X xa (tI X.K cf a)) : PE X (.UnaryOp .Not xa pos) (tI X.K cf (.not a)) := by
  refine pe_imp (pe_notT ia) fun σ H Q ⟨ρ, fp, fz, w, ρ', s, dj, e, p⟩ => ?_
  simp only [ev] at e
  obtain ⟨x, ρ1, e1, ea⟩ := bind_inv e
  obtain ⟨b, ρ2, e2', eb⟩ := bind_inv ea
  clear e ea
  obtain ⟨e2, rfl⟩ := of_inv e2'
  cases eb
  refine step1 (q := quiet (.not a)) s dj e1 (fun h => by simpa only [quiet] using h) fun v H1 z1 f2 z2 r s2 d2 x2 => ?_
  exact ⟨b, tru_rep r e2, cmp_post s2 d2 x2 p⟩
theorem tval_pt {a : Ex} {xa : Expr} (ia : PE X xa (tI X.K cf a)) (he : ∀ whole, isTrue xa X.env whole = (do let v ← whole; standAt xa.pos; holding [v] (truthy v))) : PT X xa (tIT X.K cf (.tval a)) := by
  refine pt_imp (pt_truth ia he) fun σ H Q ⟨ρ, fp, fz, w, ρ', s, dj, e, p⟩ => ?_
  simp only [evT] at e
  obtain ⟨x, ρ1, e1, ea⟩ := bind_inv e
  clear e
  obtain ⟨e2, rfl⟩ := of_inv ea
  refine step1 (q := quiet (.tval a)) s dj e1 (fun h => by simpa only [quiet] using h) fun v H1 z1 f2 z2 r s2 d2 x2 => ?_
  exact ⟨w, tru_rep r e2, p H1 f2 z2 s2 ⟨d2.1, fun a m m' => d2.2 a m (List.mem_append_right _ m')⟩ (x2.to (fun _ m => m) fun a m => .inr (List.mem_append_right _ m))⟩
/-! ### and, or, if -/
/-- from behind a first part on -/
theorem post_then {q : Bool} {σ : St} {H H1 : Hp} {fp fz f2 z2 : List Addr} {ρ' : Env} {d : Sl} {Q : VK} {z1 : List Addr} (x : Ext q H fp fz H1 f2 (z1 ++ z2)) (p : PostE q X.K σ H fp fz d ρ' Q) : PostE q X.K σ H1 f2 z2 d ρ' Q := by
  intro v H' g1 y1 g2 y2 r s d2 x2 n
  have x' : Ext q H fp fz H1 f2 z2 := x.to (fun _ m => m) fun a m => .inr (List.mem_append_right _ m)
  refine p v H' g1 y1 g2 y2 r s d2 (Ext.trans0 x' x2) fun h a m => ?_
  subst h
  exact x'.none (n rfl a m)
theorem post_weak {q q' : Bool} {σ : St} {H : Hp} {fp fz : List Addr} {ρ' : Env} {d : Sl} {Q : VK} (h : q = true → q' = true) (p : PostE q X.K σ H fp fz d ρ' Q) : PostE q' X.K σ H fp fz d ρ' Q :=
  fun v H' g1 y1 g2 y2 r s d2 x2 n => p v H' g1 y1 g2 y2 r s d2 (x2.weak h) fun e => n (h e)
theorem posts_then {q : Bool} {σ : St} {H H1 : Hp} {fp fz f2 z2 : List Addr} {ρ' : Env} {Q : Hp → Prop} (x : Ext q H fp fz H1 f2 z2) (p : PostS q X.K σ H fp fz ρ' Q) : PostS q X.K σ H1 f2 z2 ρ' Q :=
  fun H' g2 y2 s d2 x2 => p H' g2 y2 s d2 (Ext.trans0 x x2)
theorem posts_weak {q q' : Bool} {σ : St} {H : Hp} {fp fz : List Addr} {ρ' : Env} {Q : Hp → Prop} (h : q = true → q' = true) (p : PostS q X.K σ H fp fz ρ' Q) : PostS q' X.K σ H fp fz ρ' Q :=
  fun H' g2 y2 s d2 x2 => p H' g2 y2 s d2 (x2.weak h)
theorem and_pe {a b : Ex} {xa xb : Expr} {r : List Expr} {pos : Pos} (ia : PE X xa (tI X.K cf a)) (ib : PE X (.BoolOp .And (xb :: r) pos) (tI X.K cf b)) : PE X (.BoolOp .And (xa :: xb :: r) pos) (tI X.K cf (.and a b)) := by
  refine pe_imp (pe_and ia ib) fun σ H Q ⟨ρ, fp, fz, w, ρ', s, dj, e, p⟩ => ?_
  simp only [ev] at e
  obtain ⟨⟨x, n⟩, ρ1, e1, ea⟩ := bind_inv e
  clear e
  have hq : quiet (.and a b) = true → quiet a = true ∧ quiet b = true := fun h => and_iff2 (by simpa only [quiet] using h)
  refine step1 (q := quiet (.and a b)) s dj e1 (fun h => (hq h).1) fun v H1 z1 f2 z2 r s2 d2 x2 => ?_
  cases x <;> simp only [reduceCtorEq] at ea
  rename_i k
  cases r.toBl
  refine ⟨k, rfl, ?_⟩
  cases k with
  | true =>
    simp only [if_true] at ea ⊢
    exact ⟨ρ1, f2, z2, w, ρ', s2, ⟨d2.1, fun a m m' => d2.2 a m (List.mem_append_right _ m')⟩, ea, post_weak (fun h => (hq h).2) (post_then x2 p)⟩
  | false =>
    simp only [Bool.false_eq_true, if_false] at ea ⊢
    cases ea
    exact cmp_post s2 d2 x2 p
theorem or_pe {a b : Ex} {xa xb : Expr} {r : List Expr} {pos : Pos} (ia : PE X xa (tI X.K cf a)) (ib : PE X (.BoolOp .Or (xb :: r) pos) (tI X.K cf b)) : PE X (.BoolOp .Or (xa :: xb :: r) pos) (tI X.K cf (.or a b)) := by
  refine pe_imp (pe_or ia ib) fun σ H Q ⟨ρ, fp, fz, w, ρ', s, dj, e, p⟩ => ?_
  simp only [ev] at e
  obtain ⟨⟨x, n⟩, ρ1, e1, ea⟩ := bind_inv e
  clear e
  have hq : quiet (.or a b) = true → quiet a = true ∧ quiet b = true := fun h => and_iff2 (by simpa only [quiet] using h)
  refine step1 (q := quiet (.or a b)) s dj e1 (fun h => (hq h).1) fun v H1 z1 f2 z2 r s2 d2 x2 => ?_
  cases x <;> simp only [reduceCtorEq] at ea
  rename_i k
  cases r.toBl
  refine ⟨k, rfl, ?_⟩
  cases k with
  | false =>
    simp only [Bool.false_eq_true, if_false] at ea ⊢
    exact ⟨ρ1, f2, z2, w, ρ', s2, ⟨d2.1, fun a m m' => d2.2 a m (List.mem_append_right _ m')⟩, ea, post_weak (fun h => (hq h).2) (post_then x2 p)⟩
  | true =>
    simp only [if_true] at ea ⊢
    cases ea
    exact cmp_post s2 d2 x2 p
theorem ite_pe {t a b : Ex} {xt xa xb : Expr} {pos : Pos} (it : PT X xt (tIT X.K cf t)) (ia : PE X xa (tI X.K cf a)) (ib : PE X xb (tI X.K cf b)) : PE X (.IfExp xt xa xb pos) (tI X.K cf (.ite t a b)) := by
  refine pe_imp (pe_ifExp it ia ib) fun σ H Q ⟨ρ, fp, fz, w, ρ', s, dj, e, p⟩ => ?_
  simp only [ev] at e
  obtain ⟨k, ρ1, e1, ea⟩ := bind_inv e
  clear e
  have hq : quiet (.ite t a b) = true → quiet t = true ∧ quiet a = true ∧ quiet b = true := fun h => and_iff3 (by simpa only [quiet] using h)
  refine ⟨ρ, fp, fz, k, ρ1, s, dj, e1, fun H1 f2 z2 s2 d2 x2 => ?_⟩
  have x2' : Ext (quiet (.ite t a b)) H fp fz H1 f2 ([] ++ z2) := x2.weak fun h => (hq h).1
  cases k with
  | true =>
    simp only [if_true] at ea ⊢
    exact ⟨ρ1, f2, z2, w, ρ', s2, d2, ea, post_weak (fun h => (hq h).2.1) (post_then x2' p)⟩
  | false =>
    simp only [Bool.false_eq_true, if_false] at ea ⊢
    exact ⟨ρ1, f2, z2, w, ρ', s2, d2, ea, post_weak (fun h => (hq h).2.2) (post_then x2' p)⟩
/-- tests of parts -/
theorem tnot_pt {a : Ex} {xa : Expr} {pos : Pos} (ia : PT X xa (tIT X.K cf a)) : PT X (.UnaryOp .Not xa pos) (tIT X.K cf (.tnot a)) := by
  refine pt_imp (pt_not ia) fun σ H Q ⟨ρ, fp, fz, w, ρ', s, dj, e, p⟩ => ?_
  simp only [evT] at e
  obtain ⟨k, ρ1, e1, ea⟩ := bind_inv e
  cases ea
  exact ⟨ρ, fp, fz, k, ρ', s, dj, e1, p⟩
theorem tq_pt {a : Ex} {xa : Expr} (ia : PT X xa (tIT X.K cf a)) (hq : quiet a = true) : PT X xa (tIT X.K cf (.tq a)) := by
  refine pt_imp ia fun σ H Q ⟨ρ, fp, fz, w, ρ', s, dj, e, p⟩ => ?_
  simp only [evT] at e
  obtain ⟨k, ρ1, e1, ea⟩ := bind_inv e
  cases ea
  refine ⟨ρ, fp, fz, w, ρ1, s, dj, e1, fun H1 f2 z2 s2 d2 x2 => ?_⟩
  rw [hq] at x2
  have s' : SL X.K H1 σ ρ fp fz := SL.stay x2.stay s (fun _ _ m => absurd m List.not_mem_nil) (fun _ _ m => absurd m List.not_mem_nil)
  exact p H1 fp fz s' dj ⟨x2.stay.mono fun _ m => absurd m List.not_mem_nil, fun a m => .inl m, fun a m => .inr (.inl m)⟩
/-- what a chain of tests is, whatever stands behind -/
def PWs (X : Cx) (op : BoolOp) (xs : List Expr) (pos : Pos) (t : TT) : Prop := PW X (.BoolOp op xs pos) t
theorem tand_pw {a b : Ex} {xa xb : Expr} {r : List Expr} {pos : Pos} (ia : PT X xa (tIT X.K cf a)) (ib : PW X (.BoolOp .And (xb :: r) pos) (tIT X.K cf b)) : PW X (.BoolOp .And (xa :: xb :: r) pos) (tIT X.K cf (.tand a b)) := by
  refine pw_imp (pw_and ia ib) fun σ H Q ⟨ρ, fp, fz, w, ρ', s, dj, e, p⟩ => ?_
  simp only [evT] at e
  obtain ⟨k, ρ1, e1, ea⟩ := bind_inv e
  clear e
  have hq : quiet (.tand a b) = true → quiet a = true ∧ quiet b = true := fun h => and_iff2 (by simpa only [quiet] using h)
  refine ⟨ρ, fp, fz, k, ρ1, s, dj, e1, fun H1 f2 z2 s2 d2 x2 => ?_⟩
  have x2' : Ext (quiet (.tand a b)) H fp fz H1 f2 z2 := x2.weak fun h => (hq h).1
  cases k with
  | true =>
    simp only [if_true] at ea ⊢
    exact ⟨ρ1, f2, z2, w, ρ', s2, d2, ea, posts_weak (fun h => (hq h).2) (posts_then x2' p)⟩
  | false =>
    simp only [Bool.false_eq_true, if_false] at ea ⊢
    cases ea
    exact p H1 f2 z2 s2 d2 x2'
theorem tor_pw {a b : Ex} {xa xb : Expr} {r : List Expr} {pos : Pos} (ia : PT X xa (tIT X.K cf a)) (ib : PW X (.BoolOp .Or (xb :: r) pos) (tIT X.K cf b)) : PW X (.BoolOp .Or (xa :: xb :: r) pos) (tIT X.K cf (.tor a b)) := by
  refine pw_imp (pw_or ia ib) fun σ H Q ⟨ρ, fp, fz, w, ρ', s, dj, e, p⟩ => ?_
  simp only [evT] at e
  obtain ⟨k, ρ1, e1, ea⟩ := bind_inv e
  clear e
  have hq : quiet (.tor a b) = true → quiet a = true ∧ quiet b = true := fun h => and_iff2 (by simpa only [quiet] using h)
  refine ⟨ρ, fp, fz, k, ρ1, s, dj, e1, fun H1 f2 z2 s2 d2 x2 => ?_⟩
  have x2' : Ext (quiet (.tor a b)) H fp fz H1 f2 z2 := x2.weak fun h => (hq h).1
  cases k with
  | false =>
    simp only [Bool.false_eq_true, if_false] at ea ⊢
    exact ⟨ρ1, f2, z2, w, ρ', s2, d2, ea, posts_weak (fun h => (hq h).2) (posts_then x2' p)⟩
  | true =>
    simp only [if_true] at ea ⊢
    cases ea
    exact p H1 f2 z2 s2 d2 x2'
end
end Pi
/-! Pi9: arguments, displays, calls. -/
namespace Pi
open PySem L2

section
variable {X : Cx} {tb : Tb} {cf : Cf} {c : CkC}
/-- positional arguments, then keywords -/
structure PAK (X : Cx) (xs : List Expr) (kws : List Keyword) (t : TA) : Prop where
  run : ∀ (pos : Pos) (pins : List (Addr × Obj)) (s : Shared) (σ : St) (H : Hp) (Q : List V → Hp → Prop), Inv X pins σ H s → t σ H Q →
    wpAny (model X.prog X.w) X.A (spliced (backTo pos (starEach xs X.env))) (fun us s1 => wpAny (model X.prog X.w) X.A (evalAll ((backToKw pos (keywordEach kws X.env)).map (·.2)))
      (fun ws s2 => us.length = xs.length ∧ ws.length = kws.length ∧ AP X pins σ Q (us ++ ws) s2) X.xe s1) X.xe s
theorem pak_nil : PAK X [] [] tNil := ⟨fun pos pins s σ H Q I h => Calls.spliced_nil (wpAny_evalAll_nil ⟨rfl, rfl, [], H, I, .nil, h⟩)⟩
theorem pak_kw {e : Expr} {te : TE} {nm : Option Str} {kpos : Pos} {kws : List Keyword} {t : TA} (he : PE X e te) (hr : PAK X [] kws t) : PAK X [] (⟨nm, e, kpos⟩ :: kws) (tCons te t) := by
  refine ⟨fun pos pins s σ H Q I h => Calls.spliced_nil ?_⟩
  refine wpAny_evalAll_cons (wpAny_bind (thn (he.run pins s σ H _ I h) fun u s1 ⟨x, H1, I1, r1, q1⟩ => wpAny_bind (wpAny_standAt (wpAny_pure ?_))))
  have h2 := hr.run pos pins s1 σ H1 _ I1 q1
  have h3 : wpAny (model X.prog X.w) X.A (evalAll ((backToKw pos (keywordEach kws X.env)).map (·.2))) (fun ws s2 => ([] : List Value).length = 0 ∧ ws.length = kws.length ∧ AP X pins σ (fun xs H2 => Q (x :: xs) H2) ([] ++ ws) s2) X.xe s1 := by
    have h2' : wpAny (model X.prog X.w) X.A (pure ([] : List Value)) (fun us s1 => wpAny (model X.prog X.w) X.A (evalAll ((backToKw pos (keywordEach kws X.env)).map (·.2)))
      (fun ws s2 => us.length = 0 ∧ ws.length = kws.length ∧ AP X pins σ (fun xs H2 => Q (x :: xs) H2) (us ++ ws) s2) X.xe s1) X.xe s1 := h2
    exact fun Γ p hΓ => h2' Γ p hΓ Γ p hΓ
  refine thn h3 fun ws s2 ⟨_, hl, xs, H2, I2, r2, q2⟩ => ⟨rfl, by simpa using hl, x :: xs, H2, I2, .cons r1 r2, q2⟩
theorem pak_cons {e : Expr} {te : TE} {xs : List Expr} {kws : List Keyword} {t : TA} (he : PE X e te) (hr : PAK X xs kws t) (hs : starEach (e :: xs) X.env = (false, eval e X.env) :: starEach xs X.env) : PAK X (e :: xs) kws (tCons te t) := by
  refine ⟨fun pos pins s σ H Q I h => ?_⟩
  rw [hs]
  show wpAny _ _ (spliced ((false, eval e X.env) :: backTo pos (starEach xs X.env))) _ _ s
  refine Calls.spliced_cons (thn (he.run pins s σ H _ I h) fun u s1 ⟨x, H1, I1, r1, q1⟩ => ?_)
  refine thn (hr.run pos pins s1 σ H1 _ I1 q1) fun us s2 h2 => thn h2 fun ws s3 ⟨l1, l2, ys, H3, I3, r3, q3⟩ => ⟨by simp [l1], l2, x :: ys, H3, I3, .cons r1 r3, q3⟩
theorem PAK.pa {xs : List Expr} {t : TA} (h : PAK X xs [] t) : PA X xs t := by
  refine ⟨fun pos pins s σ H Q I q Γ p hΓ => Sem.wp_mono _ Γ _ (fun us p' s1 h1 => ?_) (fun _ _ _ h => h) p s (h.run pos pins s σ H Q I q Γ p hΓ)⟩
  have h3 : wpAny (model X.prog X.w) X.A (pure ([] : List Value)) (fun ws s2 => us.length = xs.length ∧ ws.length = 0 ∧ AP X pins σ Q (us ++ ws) s2) X.xe s1 := h1
  have h5 : AP X pins σ Q (us ++ []) s1 := (h3 Γ p' hΓ).2.2
  rwa [List.append_nil] at h5
theorem pak_imp {xs : List Expr} {kws : List Keyword} {t t' : TA} (h : PAK X xs kws t) (i : ∀ σ H Q, t' σ H Q → t σ H Q) : PAK X xs kws t' := ⟨fun pos pins s σ H Q I q => h.run pos pins s σ H Q I (i σ H Q q)⟩
/-! ### the evaluator's arguments -/
theorem nil_tA : ∀ σ H Q, tIA X.K cf .nil σ H Q → tNil σ H Q := fun σ H Q ⟨ρ, fp, fz, as, ρ', s, dj, e, p⟩ => by
  simp only [evA] at e
  cases e
  exact p [] H [] [] fp fz ⟨rfl, rfl, rfl⟩ s dj (.refl _ _ _ _) (fun _ _ m => absurd m List.not_mem_nil)
theorem evA_cons {a r : Ex} (h : ∀ i, a ≠ .lend i) (ρ : Env) : evA cf (.cons a r) ρ = (ev cf a ρ).bind fun x ρ1 => (evA cf r ρ1).bind fun xs ρ2 => .ok (.val x :: xs) ρ2 := by
  cases a <;> first | rfl | exact absurd rfl (h _)
theorem cons_tA {a r : Ex} (h : ∀ i, a ≠ .lend i) : ∀ σ H Q, tIA X.K cf (.cons a r) σ H Q → tCons (tI X.K cf a) (tIA X.K cf r) σ H Q := fun σ H Q ⟨ρ, fp, fz, as, ρ', s, dj, e, p⟩ => by
  rw [evA_cons h] at e
  obtain ⟨x, ρ1, e1, ea⟩ := bind_inv e
  obtain ⟨xs, ρ2, e2, eb⟩ := bind_inv ea
  cases eb
  have hq : quiet (.cons a r) = true → quiet a = true ∧ quiet r = true := fun h => and_iff2 (by simpa only [quiet] using h)
  refine ⟨ρ, fp, fz, x, ρ1, s, dj, e1, fun v H1 f1 z1 f2 z2 r1 s1 d1 x1 n1 => ?_⟩
  have t1 := r1.trk
  refine ⟨ρ1, f2, z2, xs, ρ', s1, d1.right, e2, fun vs H2 f3 z3 f4 z4 al s2 d2 x2 n2 => ?_⟩
  have x1' : Ext (quiet (.cons a r)) H fp fz H1 (f1 ++ f2) (z1 ++ z2) := x1.weak fun h => (hq h).1
  have x2' : Ext (quiet (.cons a r)) H1 f2 z2 H2 (f3 ++ f4) (z3 ++ z4) := x2.weak fun h => (hq h).2
  have r1' := Rep.stay x2'.stay _ _ _ _ _ r1 d1.off1 d1.off2
  have dd := Ext.disj d1 t1.1 t1.2 x2' d2
  have xx := Ext.trans x1' x2'
  refine p (v :: vs) H2 (f1 ++ f3) (z1 ++ z3) f4 z4 ⟨v, vs, f1, f3, z1, z3, rfl, rfl, rfl, r1', al⟩ s2 ?_ ?_ ?_
  · rw [List.append_assoc, List.append_assoc]; exact dd
  · rw [List.append_assoc, List.append_assoc]; exact xx
  · intro hb a m
    rcases List.mem_append.mp m with m | m
    · exact n1 (hq hb).1 a m
    · have := n2 (hq hb).2 a m
      rw [hb] at x1'
      exact x1'.none this
theorem lend_tA {i : Nat} {r : Ex} : ∀ σ H Q, tIA X.K cf (.cons (.lend i) r) σ H Q → tCons (tVar i) (tIA X.K cf r) σ H Q := fun σ H Q ⟨ρ, fp, fz, as, ρ', s, dj, e, p⟩ => by
  simp only [evA] at e
  split at e
  · rename_i hg
    obtain ⟨xs, ρ2, e2, eb⟩ := bind_inv e
    cases eb
    obtain ⟨⟨d, n⟩, g⟩ := Option.isSome_iff_exists.mp hg
    obtain ⟨v, _, _, _, _, hv, _⟩ := SL.take s g
    refine ⟨v, hv, ρ, fp, fz, xs, ρ', s, dj, e2, fun vs H2 f3 z3 f4 z4 al s2 d2 x2 n2 => ?_⟩
    exact p (v :: vs) H2 f3 z3 f4 z4 ⟨v, vs, rfl, hv, al⟩ s2 d2 (x2.weak fun h => by simp [quiet] at h) (fun h => by simp [quiet] at h)
  · cases e
theorem ck_star (tb : Tb) (c : CkC) (a : Ex) (y : Expr) (p : Pos) : ck tb c a (.Starred y p) = false := by
  induction a
  case q e ih =>
    show (ck tb c e (.Starred y p) && quiet e) = false
    rw [ih]; rfl
  case mth m o l _ _ => cases m <;> rfl
  all_goals rfl
theorem ck_nostar {a : Ex} {x : Expr} (h : ck tb c a x = true) (es : List Expr) (env : PySem.Env) : starEach (x :: es) env = (false, eval x env) :: starEach es env := by
  cases x with
  | Starred y p => rw [ck_star] at h; cases h
  | _ => rfl
/-- values alone -/
theorem vals_al {σ : St} : ∀ {as : List Ar} {xs : List Sl} {vs : List V} {H : Hp} {f z : List Addr}, valsA as = some xs → AL X.K H σ as vs f z → SL X.K H (vs.map some) (xs.map some) f z
  | [], xs, vs, H, f, z, h, al => by
    simp only [valsA, Option.some.injEq] at h
    subst h
    obtain ⟨rfl, rfl, rfl⟩ := al
    exact ⟨rfl, rfl⟩
  | .val s :: as, xs, vs, H, f, z, h, al => by
    simp only [valsA, Option.map_eq_some_iff] at h
    obtain ⟨ys, h, rfl⟩ := h
    obtain ⟨v, vs', f1, f2, z1, z2, rfl, rfl, rfl, r, al⟩ := al
    exact ⟨v, f1, f2, z1, z2, rfl, rfl, rfl, r, vals_al h al⟩
  | .ln i :: as, xs, vs, H, f, z, h, al => by simp [valsA] at h
theorem sl_repL {H : Hp} : ∀ {xs : List Sl} {vs : List V} {f z : List Addr} (k : Nat), SL X.K H (vs.map some) (xs.map some) f z → xs.all (hasd k) = true → ∃ f' z', RepL X.K H (demL xs) k vs f' z' ∧ Less f z f' z'
  | [], [], f, z, k, s, _ => by
    obtain ⟨rfl, rfl⟩ := s
    exact ⟨[], [], by simp [RepL, demL], .refl _ _⟩
  | x :: xs, v :: vs, f, z, k, s, h => by
    obtain ⟨w, f1, f2, z1, z2, e, rfl, rfl, r, s⟩ := s
    cases e
    simp only [List.all_cons, Bool.and_eq_true] at h
    obtain ⟨f1', z1', r', l1⟩ := Rep.hasd h.1 r
    obtain ⟨f2', z2', rl, l2⟩ := sl_repL k s h.2
    refine ⟨f1' ++ f2', z1' ++ z2', ?_, l1.app l2⟩
    simp only [demL, List.map_cons, RepL]
    exact ⟨v, vs, f1', f2', z1', z2', rfl, rfl, rfl, r', rl⟩
  | [], _ :: _, _, _, _, s, _ => False.elim s
  | _ :: _, [], _, _, _, s, _ => False.elim s
theorem hasd_zero (s : Sl) : hasd 0 s = true := by simp [hasd]
theorem sl_rep0 {H : Hp} {xs : List Sl} {vs : List V} {f z : List Addr} (s : SL X.K H (vs.map some) (xs.map some) f z) : ∃ z', RepL X.K H (demL xs) 0 vs [] z' ∧ Less f z [] z' := by
  obtain ⟨f', z', r, l⟩ := sl_repL 0 s (by simp [hasd_zero])
  have := RepL.zero _ _ _ _ r
  subst this
  exact ⟨z', r, l⟩
/-- arguments, all frozen -/
theorem stepA {σ : St} {H : Hp} {ρ ρ1 : Env} {fp fz : List Addr} {q : Bool} {l : Ex} {as : List Ar} {xs : List Sl} {R : List V → Hp → Prop} (s : SL X.K H σ ρ fp fz) (d : Disj fp fz) (e : evA cf l ρ = .ok as ρ1) (hv : valsA as = some xs) (hq : q = true → quiet l = true)
    (k : ∀ vs H1 z1 f2 z2, RepL X.K H1 (demL xs) 0 vs [] z1 → SL X.K H1 σ ρ1 f2 z2 → Disj f2 (z1 ++ z2) → Ext q H fp fz H1 f2 (z1 ++ z2) → R vs H1) : tIA X.K cf l σ H R := by
  refine ⟨ρ, fp, fz, as, ρ1, s, d, e, fun vs H' f1 z1 f2 z2 al s' d' e' _ => ?_⟩
  obtain ⟨z1', r', l⟩ := sl_rep0 (vals_al hv al)
  have l2 := l.app (Less.refl f2 z2)
  exact k vs H' z1' f2 z2 r' s' (l2.disj d') ((e'.weak hq).less l2)
/-! ### displays -/
theorem post_new {q : Bool} {σ : St} {H H1 : Hp} {fp fz : List Addr} {ρ1 : Env} {d : Sl} {Q : VK} {f1 z1 f2 z2 : List Addr} {p : Addr} {o : HO} {f1' z1' : List Addr} (s : SL X.K H1 σ ρ1 f2 z2) (dj : Disj (f1 ++ f2) (z1 ++ z2)) (x : Ext q H fp fz H1 (f1 ++ f2) (z1 ++ z2)) (n : q = true → New H f1) (t : Trk H1 f1 ∧ Trk H1 z1)
    (hp : H1 p = none) (r : Rep X.K (upd H1 p o) d.1 d.2 (.ref p) f1' z1') (hf : f1'.Nodup ∧ ∀ a ∈ f1', a = p ∨ a ∈ f1) (hz : ∀ a ∈ z1', a ∈ z1) (qq : PostE q X.K σ H fp fz d ρ1 Q) : Q (.ref p) (upd H1 p o) := by
  have ts := s.trk
  have st := Stay.new (o := o) hp
  refine qq (.ref p) _ f1' z1' f2 z2 r (SL.stay st s (by simp) (by simp)) ⟨List.nodup_append.mpr ⟨hf.1, dj.right.1, fun a m b m' => ?_⟩, fun a m m' => ?_⟩ ⟨fun a o h n => st a o (x.stay a o h n) (by simp), fun a m => ?_, fun a m => ?_⟩ ?_
  · rintro rfl
    rcases hf.2 a m with h | h
    · subst h; exact ts.1 a m' hp
    · exact dj.off1 (b := false) a h m'
  · rcases List.mem_append.mp m with m | m
    · rcases hf.2 a m with h | h
      · subst h
        rcases List.mem_append.mp m' with m' | m'
        · exact t.2 a (hz a m') hp
        · exact ts.2 a m' hp
      · exact dj.2 a (List.mem_append_left _ h) ((List.mem_append.mp m').elim (fun m => List.mem_append_left _ (hz a m)) (List.mem_append_right _))
    · exact dj.2 a (List.mem_append_right _ m) ((List.mem_append.mp m').elim (fun m => List.mem_append_left _ (hz a m)) (List.mem_append_right _))
  · rcases List.mem_append.mp m with m | m
    · rcases hf.2 a m with h | h
      · subst h; exact (x.some hp).symm
      · exact x.fpx a (List.mem_append_left _ h)
    · exact x.fpx a (List.mem_append_right _ m)
  · exact x.fzx a ((List.mem_append.mp m).elim (fun m => List.mem_append_left _ (hz a m)) (List.mem_append_right _))
  · rintro rfl a m
    rcases hf.2 a m with h | h
    · subst h; exact x.none hp
    · exact n rfl a h
theorem less_new {f1 z1 f1' z1' f2 z2 : List Addr} {q : Bool} {H H1 : Hp} {fp fz : List Addr} (l : Less f1 z1 f1' z1') (dj : Disj (f1 ++ f2) (z1 ++ z2)) (x : Ext q H fp fz H1 (f1 ++ f2) (z1 ++ z2)) (n : q = true → New H f1) :
    Disj (f1' ++ f2) (z1' ++ z2) ∧ Ext q H fp fz H1 (f1' ++ f2) (z1' ++ z2) ∧ (q = true → New H f1') := by
  have l2 := l.app (Less.refl f2 z2)
  exact ⟨l2.disj dj, x.less l2, fun h a m => n h a (l.fp a m)⟩
theorem tup_pe {k : Nat} {l : Ex} {xs : List Expr} {j : Nat} {pos : Pos} (il : PA X xs (tIA X.K cf l)) : PE X (.Tuple xs j pos) (tI X.K cf (.tup k l)) := by
  refine pe_imp (pe_tup il) fun σ H Q ⟨ρ, fp, fz, w, ρ', s, dj, e, p⟩ => ?_
  simp only [ev] at e
  obtain ⟨ys, ρ1, e1, ea⟩ := bind_inv e
  obtain ⟨as, ρ0, e0, eb⟩ := bind_inv e1
  obtain ⟨hv, rfl⟩ := of_inv eb
  clear e e1
  split at ea
  · rename_i hc
    cases ea
    simp only [Bool.and_eq_true, decide_eq_true_eq] at hc
    refine ⟨ρ, fp, fz, as, ρ', s, dj, e0, fun vs H1 f1 z1 f2 z2 al s2 d2 x2 n2 => ?_⟩
    obtain ⟨f1', z1', rl, ls⟩ := sl_repL k (vals_al hv al) hc.1
    obtain ⟨d3, x3, n3⟩ := less_new ls d2 (x2.weak (b' := quiet (.tup k l)) fun h => by simpa only [quiet] using h) (fun h => n2 (by simpa only [quiet] using h))
    have hl := RepL.len rl
    refine ⟨by rw [hl]; simpa [demL] using hc.2, fun a ha => ?_⟩
    have own := RepL.own _ _ _ _ _ rl
    refine post_new s2 d3 x3 n3 ⟨fun a m h => ?_, fun a m h => ?_⟩ ha (f1' := f1') (z1' := z1') ?_ ⟨(List.nodup_append.mp d3.1).1, fun a m => .inr m⟩ (fun a m => m) p
    · obtain ⟨o, h', _⟩ := own.1 a m; rw [h] at h'; cases h'
    · obtain ⟨o, h'⟩ := own.2 a m; rw [h] at h'; cases h'
    · simp only [Rep]
      exact ⟨a, vs, rfl, upd_same, RepL.stay (.new ha) _ _ _ _ _ rl (by simp) (by simp)⟩
  · cases ea
theorem lst_pe {k : Nat} {l : Ex} {xs : List Expr} {pos : Pos} (il : PA X xs (tIA X.K cf l)) : PE X (.List xs pos) (tI X.K cf (.lst k l)) := by
  refine pe_imp (pe_lst il) fun σ H Q ⟨ρ, fp, fz, w, ρ', s, dj, e, p⟩ => ?_
  simp only [ev] at e
  obtain ⟨ys, ρ1, e1, ea⟩ := bind_inv e
  obtain ⟨as, ρ0, e0, eb⟩ := bind_inv e1
  obtain ⟨hv, rfl⟩ := of_inv eb
  clear e e1
  split at ea
  · rename_i hc
    cases ea
    simp only [Bool.and_eq_true, decide_eq_true_eq] at hc
    refine ⟨ρ, fp, fz, as, ρ', s, dj, e0, fun vs H1 f1 z1 f2 z2 al s2 d2 x2 n2 => ?_⟩
    obtain ⟨f1', z1', rl, ls⟩ := sl_repL k (vals_al hv al) hc.1
    obtain ⟨d3, x3, n3⟩ := less_new ls d2 (x2.weak (b' := quiet (.lst k l)) fun h => by simpa only [quiet] using h) (fun h => n2 (by simpa only [quiet] using h))
    have hl := RepL.len rl
    refine ⟨by rw [hl]; simpa [demL] using hc.2, fun a ha => ?_⟩
    have own := RepL.own _ _ _ _ _ rl
    have t1 : Trk H1 f1' := fun a m h => by
      obtain ⟨o, h', _⟩ := own.1 a m; rw [h] at h'; cases h'
    refine post_new s2 d3 x3 n3 ⟨t1, fun a m h => ?_⟩ ha (f1' := a :: f1') (z1' := z1') ?_ ⟨List.nodup_cons.mpr ⟨fun m => t1 a m ha, (List.nodup_append.mp d3.1).1⟩, fun b m => by simpa using m⟩ (fun a m => m) p
    · obtain ⟨o, h'⟩ := own.2 a m; rw [h] at h'; cases h'
    · simp only [Rep]
      exact ⟨a, vs, f1', z1', rfl, RepL.stay (.new ha) _ _ _ _ _ rl (by simp) (by simp), .inr ⟨by simp, upd_same, rfl, rfl⟩⟩
  · cases ea
end
end Pi
/-! Pi10: places, slices, calls of built-ins and of defs. -/
namespace Pi
open PySem L2

section
variable {X : Cx} {tb : Tb} {cf : Cf} {c : CkC}
/-! ### a[b] -/
theorem atI_rep {H : Hp} {l : List D} {vs : List V} {z : List Addr} (r : RepL X.K H l 0 vs [] z) {i : Int} {d : D} (h : atI l i = some d) : ∃ v z', atI vs i = some v ∧ Rep X.K H d 0 v [] z' ∧ ∀ a ∈ z', a ∈ z := by
  unfold atI at h ⊢
  rw [RepL.len r]
  cases e : ixN l.length i with
  | none => rw [e] at h; cases h
  | some j =>
    rw [e] at h
    obtain ⟨v, z', a, b, c⟩ := RepL.at0 r j d h
    exact ⟨v, z', a, b, c⟩
def rIX (K : PySem.W.Frag) : R2 := fun x y H Q => ∃ d1 z1 d2 z2 d, Rep K H d1 0 x [] z1 ∧ Rep K H d2 0 y [] z2 ∧ ixD d1 d2 = some d ∧ ∀ v z, Rep K H d 0 v [] z → (∀ a ∈ z, a ∈ z1) → Q v H
theorem ix_dict (hu : X.A.units + 1 < cLine) : IxR X (fun x y H Q => ∃ a v, x = .ref a ∧ DGet H a y (some v) ∧ Q v H) := by
  intro value slice pins s σ H x y v u Q I rx ry ⟨a, w, e, g, q⟩ hs
  subst e
  obtain rfl : v = .ref a := rx
  exact PyProof.Rows.tail_any (dict_typeIs I g) PySem.F.slot_dict_getitem.lookup (d_getItem hu I g ry fun w' s3 I3 rw' => ⟨w, H, I3, rw', q⟩) hs
theorem ixr_ok (hu : X.A.units + 1 < cLine) : IxR X (rIX X.K) := by
  intro value slice pins s σ H x y v u Q I rx ry ⟨d1, z1, d2, z2, d, r1, r2, e, q⟩ hs
  unfold ixD at e
  split at e
  · cases r2.toInt
    obtain ⟨a, vs, z', rfl, h, rl, rfl⟩ := r1.toLst
    obtain ⟨w, z, ha, hr, hz⟩ := atI_rep rl e
    exact ix_list value slice pins s σ H _ _ v u Q I rx ry ⟨a, vs, _, w, rfl, rfl, SqL.of h, ha, q w z hr fun a m => List.mem_cons_of_mem _ (hz a m)⟩ hs
  · cases r2.toInt
    obtain ⟨a, vs, rfl, h, rl⟩ := r1.toTup
    obtain ⟨w, z, ha, hr, hz⟩ := atI_rep rl e
    exact ix_tup value slice pins s σ H _ _ v u Q I rx ry ⟨a, vs, _, w, rfl, rfl, SqT.of h, ha, q w z hr hz⟩ hs
  · cases r2.toInt
    obtain ⟨a, vs, rfl, h, rl⟩ := r1.toCtup
    obtain ⟨w, z, ha, hr, hz⟩ := atI_rep rl e
    exact ix_tup value slice pins s σ H _ _ v u Q I rx ry ⟨a, vs, _, w, rfl, rfl, h, ha, q w z hr hz⟩ hs
  · split at e
    · rename_i hl
      simp only [Option.map_eq_some_iff] at e
      obtain ⟨k, e, rfl⟩ := e
      cases r2.toInt
      cases r1.toStr
      exact ix_str value slice pins s σ H _ _ v u Q I rx ry ⟨_, _, k, rfl, rfl, hl, e, q _ [] (by simp [Rep]) (fun _ m => absurd m List.not_mem_nil)⟩ hs
    · cases e
  · split at e
    · rename_i k hk
      obtain ⟨a, kvs, z', rfl, h, rk, rfl⟩ := r1.toDk
      obtain ⟨w, z, ha, hr, hz⟩ := RepK.at0 rk k d e
      exact ix_dict hu value slice pins s σ H _ _ v u Q I rx ry ⟨a, w, rfl, .inl ⟨kvs, k, h, key_rep r2 hk, ha.symm⟩, q w z hr fun a m => List.mem_cons_of_mem _ (hz a m)⟩ hs
    · cases e
  · split at e
    · rename_i k hk
      obtain ⟨a, kvs, z', rfl, h, rk, rfl⟩ := r1.toDt
      obtain ⟨b, vs, rfl, hb, rl⟩ := r2.toTup
      obtain ⟨w, z, ha, hr, hz⟩ := RepT.at0 rk k d e
      exact ix_dict hu value slice pins s σ H _ _ v u Q I rx ry ⟨a, w, rfl, .inr ⟨kvs, k, b, h, rfl, by rw [hb, keys_rep rl hk], ha.symm⟩, q w z hr fun a m => List.mem_cons_of_mem _ (hz a m)⟩ hs
    · cases e
  · cases e
theorem ix_pe (ok : XOk X tb cf c) {a b : Ex} {xa xb : Expr} {pos : Pos} (ia : PE X xa (tI X.K cf a)) (ib : PE X xb (tI X.K cf b)) (hs : notSl xb = true) : PE X (.Subscript xa xb pos) (tI X.K cf (.ix a b)) := by
  refine pe_imp (pe_ix (ixr_ok (by have := ok.hu; omega)) ia ib (notSl_ok hs)) fun σ H Q ⟨ρ, fp, fz, d, ρ', s, dj, e, p⟩ => ?_
  simp only [ev] at e
  obtain ⟨x, ρ1, e1, ea⟩ := bind_inv e
  obtain ⟨y, ρ2, e2, eb⟩ := bind_inv ea
  obtain ⟨w, ρ3, e3', ec⟩ := bind_inv eb
  clear e ea eb
  obtain ⟨e3, rfl⟩ := of_inv e3'
  cases ec
  refine step2 (q := quiet (.ix a b)) s dj e1 e2 (fun h => and_iff2 (by simpa only [quiet] using h)) fun v u H2 z1 z2 f3 z3 r1 r2 s3 d3 x3 => ?_
  exact ⟨x.1, z1, y.1, z2, w, r1, r2, e3, fun v z hr hz => post_old s3 d3 x3 hr (fun a m => List.mem_append_left _ (hz a m)) p⟩
/-! ### a.f -/
theorem FlatV.rep {K : PySem.W.Frag} {H : Hp} {d : D} {v : V} (h : FlatV d v) (n : Nat) : Rep K H d n v [] [] := by
  cases d <;> first | (simp only [FlatV] at h; subst h; simp [Rep]; done) | exact h.elim
theorem fld_pe {a : Ex} {f : Str} {xa : Expr} {pos : Pos} (ia : PE X xa (tI X.K cf a)) (hnc : ∀ f a k p, xa ≠ .Call f a k p) : PE X (.Attribute xa f pos) (tI X.K cf (.fld a f)) := by
  refine pe_imp (pe_fld ia (attr_base hnc)) fun σ H Q ⟨ρ, fp, fz, d, ρ', s, dj, e, p⟩ => ?_
  simp only [ev] at e
  obtain ⟨⟨x, n⟩, ρ1, e1, e2⟩ := bind_inv e
  clear e
  cases x <;> simp only [reduceCtorEq] at e2
  rename_i c fs
  obtain ⟨w, ρ2, e3, e4⟩ := bind_inv e2
  obtain ⟨e5, h0⟩ := of_inv e3
  subst h0
  cases e4
  refine step1 (q := quiet (.fld a f)) s dj e1 (fun h => by simpa only [quiet] using h) fun v H1 z1 f2 z2 r s2 d2 x2 => ?_
  simp only [Rep] at r
  obtain ⟨b, C, dx, vs, e, _, e6, q, i⟩ := r
  obtain ⟨na, u, hl, hu⟩ := i.fld f w e5
  exact ⟨b, C, dx, vs, u, e, q, i.cls, na, hl, post_old (z1 := z1) (z := []) s2 d2 x2 (hu.rep 0) (fun _ m => absurd m List.not_mem_nil) p⟩
/-! ### slices -/
theorem cut_rep {H : Hp} {l : List D} {vs : List V} {z : List Addr} (r : RepL X.K H l 0 vs [] z) (lo hi : Option Int) : ∃ z', RepL X.K H (cutD l lo hi) 0 (cutV vs lo hi) [] z' ∧ ∀ a ∈ z', a ∈ z := by
  unfold cutD cutV
  rw [RepL.len r]
  obtain ⟨z1, r1, s1⟩ := RepL.drop r (HT.sIx l.length 0 lo)
  obtain ⟨z2, r2, s2⟩ := RepL.takeN r1 (HT.sIx l.length l.length hi - HT.sIx l.length 0 lo)
  exact ⟨z2, r2, fun a m => s1 a (s2 a m)⟩
def rSL (K : PySem.W.Frag) : V → Option Int → Option Int → Hp → VK → Prop := fun x lo hi H Q => ∃ d1 z1 d, Rep K H d1 0 x [] z1 ∧ slD d1 lo hi = some d ∧ PQ K H z1 d Q
theorem slr_ok : SlR X (rSL X.K) := by
  intro pins s σ H x v vl vu lo hi sl Q I rx hsl pl pu ⟨d1, z1, d, r1, e, q⟩
  cases d1 with
  | lst l =>
    simp only [slD, Option.some.injEq] at e
    subst e
    obtain ⟨a, vs, z', rfl, h, rl, rfl⟩ := r1.toLst
    obtain ⟨z2, r2, s2⟩ := cut_rep rl lo hi
    exact sl_list pins s σ H _ v vl vu lo hi sl Q I rx hsl pl pu ⟨a, vs, rfl, SqL.of h, fun p hp => q.lst r2 (fun a m => List.mem_cons_of_mem _ (s2 a m)) p hp⟩
  | scr l =>
    simp only [slD, Option.some.injEq] at e
    subst e
    simp only [Rep] at r1
    obtain ⟨a, rfl, _, h⟩ := r1
    obtain ⟨z2, r2, s2⟩ := cut_rep (RepL.ints (K := X.K) (H := H) l) lo hi
    exact sl_list pins s σ H _ v vl vu lo hi sl Q I rx hsl pl pu ⟨a, _, rfl, h.elim (fun h => .inl h.1) (fun h => .inr h.1), fun p hp => q.lst r2 (fun a m => absurd (s2 a m) List.not_mem_nil) p hp⟩
  | tup l =>
    simp only [slD, Option.some.injEq] at e
    subst e
    have r0 := r1
    obtain ⟨a, vs, rfl, h, rl⟩ := r1.toTup
    obtain ⟨z2, r2, s2⟩ := cut_rep rl lo hi
    refine sl_tupA pins s σ H _ v vl vu lo hi sl Q I rx hsl pl pu ⟨a, vs, rfl, SqT.of h, fun hw => ?_, fun hw p hp => q.tup r2 s2 p hp⟩
    rw [RepL.len rl] at hw
    have hc : cutD l lo hi = l := by
      unfold cutD
      rw [hw.1, hw.2]
      simp
    rw [hc] at q
    exact q.same rfl r0 fun a m => m
  | _ => simp [slD] at e
/-- a slice's part -/
theorem po_nil : PO X none (tIO X.K cf .nil) := by
  refine ⟨fun pins s σ H Q I ⟨ρ, fp, fz, b, ρ', s', dj, e, p⟩ => ?_⟩
  simp only [evO] at e
  cases e
  exact po_none.run pins s σ H Q I (p H fp fz s' dj (.refl _ _ _ _))
theorem po_ival {a : Ex} {xa : Expr} (ia : PE X xa (tI X.K cf a)) : PO X (some xa) (tIO X.K cf (.ival a)) := by
  refine ⟨fun pins s σ H Q I ⟨ρ, fp, fz, b, ρ', s', dj, e, p⟩ => (po_some ia).run pins s σ H Q I ?_⟩
  simp only [evO] at e
  obtain ⟨⟨x, n⟩, ρ1, e1, ea⟩ := bind_inv e
  clear e
  cases x <;> simp only [reduceCtorEq] at ea
  cases ea
  refine step1 (q := quiet (.ival a)) s' dj e1 (fun h => by simpa only [quiet] using h) fun v H1 z1 f2 z2 r s2 d2 x2 => ?_
  cases r.toInt
  exact ⟨_, rfl, p H1 f2 z2 s2 ⟨d2.1, fun a m m' => d2.2 a m (List.mem_append_right _ m')⟩ (x2.to (fun _ m => m) fun a m => .inr (List.mem_append_right _ m))⟩
theorem sl_pe {a lo hi : Ex} {xa : Expr} {xl xh : Option Expr} {pos p2 : Pos} (ia : PE X xa (tI X.K cf a)) (il : PO X xl (tIO X.K cf lo)) (ih : PO X xh (tIO X.K cf hi)) : PE X (.Subscript xa (.Slice xl xh none p2) pos) (tI X.K cf (.sl a lo hi)) := by
  refine pe_imp (pe_slice slr_ok ia il ih) fun σ H Q ⟨ρ, fp, fz, d, ρ', s, dj, e, p⟩ => ?_
  simp only [ev] at e
  obtain ⟨x, ρ1, e1, ea⟩ := bind_inv e
  obtain ⟨l, ρ2, e2, eb⟩ := bind_inv ea
  obtain ⟨h, ρ3, e3, ec⟩ := bind_inv eb
  obtain ⟨w, ρ4, e4', ed⟩ := bind_inv ec
  clear e ea eb ec
  obtain ⟨e4, rfl⟩ := of_inv e4'
  cases ed
  have hq : quiet (.sl a lo hi) = true → quiet a = true ∧ quiet lo = true ∧ quiet hi = true := fun h => and_iff3 (by simpa only [quiet] using h)
  refine step1 (q := quiet (.sl a lo hi)) s dj e1 (fun h => (hq h).1) fun v H1 z1 f2 z2 r1 s2 d2 x2 => ?_
  have t1 := r1.trk
  have d2' : Disj ([] ++ f2) (z1 ++ z2) := d2
  have x2' : Ext (quiet (.sl a lo hi)) H fp fz H1 ([] ++ f2) (z1 ++ z2) := x2
  refine ⟨ρ1, f2, z2, l, ρ2, s2, d2'.right, e2, fun H2 f3 z3 s3 d3 x3 => ?_⟩
  refine ⟨ρ2, f3, z3, h, ρ', s3, d3, e3, fun H3 f4 z4 s4 d4 x4 => ?_⟩
  have x5 := Ext.trans0 (x3.weak fun h => (hq h).2.1) (x4.weak fun h => (hq h).2.2)
  have r1' := Rep.stay x5.stay _ _ _ _ _ r1 (fun _ m => absurd m List.not_mem_nil) d2'.off2
  exact ⟨x.1, z1, w, r1', e4, pq_post s4 (Ext.disj d2' (Trk.nil _) t1.2 x5 d4) (Ext.trans x2' x5) p⟩
theorem rev_pe {a : Ex} {xa : Expr} {st : Expr} {p2 pos : Pos} (ia : PE X xa (tI X.K cf a)) (hs : isSub1 st = true) : PE X (.Subscript xa (.Slice none none (some st) p2) pos) (tI X.K cf (.rev a)) := by
  unfold isSub1 at hs
  split at hs
  · refine pe_imp (pe_revL ia) fun σ H Q ⟨ρ, fp, fz, d, ρ', s, dj, e, p⟩ => ?_
    simp only [ev] at e
    obtain ⟨x, ρ1, e1, ea⟩ := bind_inv e
    obtain ⟨w, ρ2, e2', eb⟩ := bind_inv ea
    clear e ea
    obtain ⟨e2, rfl⟩ := of_inv e2'
    cases eb
    refine step1 (q := quiet (.rev a)) s dj e1 (fun h => by simpa only [quiet] using h) fun v H1 z1 f2 z2 r s2 d2 x2 => ?_
    unfold revD at e2
    split at e2
    · rename_i l hx
      cases e2
      rw [hx] at r
      obtain ⟨a, vs, z', rfl, h, rl, rfl⟩ := r.toLst
      obtain ⟨z3, r3, s3⟩ := RepL.rev rl
      exact ⟨a, vs, rfl, SqL.of h, fun q hq => (pq_post s2 d2 x2 p).lst r3 (fun a m => List.mem_cons_of_mem _ (s3 a m)) q hq⟩
    · cases e2
  · cases hs
/-! ### built-in functions -/
theorem boot_bn (f : Bn) : bootBuiltins (bnName f) = some (bnVal f) := by
  cases f <;> decide +kernel
theorem ckA_star : ∀ {l : Ex} {xs : List Expr} (env : PySem.Env), ckA tb c l xs = true → starEach xs env = xs.map fun x => (false, eval x env) := by
  intro l
  induction l with
  | cons a r iha ihr =>
    intro xs env h
    cases xs with
    | nil => cases a <;> simp [ckA] at h
    | cons x xs =>
      by_cases hl : ∃ i, a = .lend i
      · obtain ⟨i, rfl⟩ := hl
        cases x <;> simp only [ckA, Bool.and_eq_true] at h
        all_goals first | (rw [show starEach (Expr.Name _ _ :: xs) env = (false, eval (Expr.Name _ _) env) :: starEach xs env from rfl, ihr env h.2]; rfl) | (simp only [ck, Bool.false_eq_true, false_and] at h)
      · have h' : ck tb c a x = true ∧ ckA tb c r xs = true := by
          cases a <;> first | (simpa only [ckA, Bool.and_eq_true] using h) | exact absurd ⟨_, rfl⟩ hl
        rw [ck_nostar h'.1, ihr env h'.2]; rfl
  | nil =>
    intro xs env h
    cases xs with
    | nil => rfl
    | cons x xs => simp [ckA] at h
  | _ => intro xs env h; cases xs <;> simp [ckA] at h
theorem back_any {pos : Pos} {xs : List Expr} {env : PySem.Env} (h : starEach xs env = xs.map fun x => (false, eval x env)) : (backTo pos (starEach xs env)).any (·.1) = false := by
  rw [h]
  simp [backTo]
theorem star_cons {x : Expr} {xs : List Expr} {env : PySem.Env} (h : starEach (x :: xs) env = (x :: xs).map fun x => (false, eval x env)) (h' : starEach xs env = xs.map fun x => (false, eval x env)) : starEach (x :: xs) env = (false, eval x env) :: starEach xs env := by
  rw [h, h']; rfl
theorem blt_pe (ok : XOk X tb cf c) {f : Bn} {l : Ex} {x : Expr} {xs : List Expr} {p pos : Pos} (hb : ckBlt tb c (bnName f) = true) (il : PA X (x :: xs) (tIA X.K cf l)) (h1 : starEach (x :: xs) X.env = (x :: xs).map fun x => (false, eval x X.env)) (h2 : starEach xs X.env = xs.map fun x => (false, eval x X.env)) :
    PE X (.Call (.Name (bnName f) p) (x :: xs) [] pos) (tI X.K cf (.blt f l)) := by
  obtain ⟨hm, hg, hn, hdb⟩ := ckBlt_ok ok hb
  have hc := blt_ok (X := X) ok.calm ok.gd (by have := ok.hu; omega) f
  have key : PE X (.Call (.Name (bnName f) p) (x :: xs) [] pos) (tCB (rB X.K (bltD f)) (tIA X.K cf l)) := by
    have hbt := boot_bn f
    cases f <;> first | exact pe_callB hc hg hm hbt il hn hdb (star_cons h1 h2) (back_any h2) | exact pe_callTy hc hg hm hbt il hn hdb (star_cons h1 h2) (back_any h2)
  refine pe_imp key fun σ H Q ⟨ρ, fp, fz, d, ρ', s, dj, e, p⟩ => ?_
  simp only [ev] at e
  obtain ⟨ys, ρ1, e1, ea⟩ := bind_inv e
  obtain ⟨as, ρ0, e0, eb⟩ := bind_inv e1
  obtain ⟨w, ρ2, e2', ec⟩ := bind_inv ea
  clear e e1 ea
  obtain ⟨hv, rfl⟩ := of_inv eb
  obtain ⟨e2, rfl⟩ := of_inv e2'
  cases ec
  refine stepA (q := quiet (.blt f l)) s dj e0 hv (fun h => by simpa only [quiet] using h) fun vs H1 z1 f2 z2 rl s2 d2 x2 => ?_
  exact ⟨_, z1, w, rl, e2, pq_post s2 d2 x2 p⟩
theorem rg_rep (H : Hp) (a b : Int) : RepL X.K H ((List.range (b - a).toNat).map fun k => .int (a + (k : Nat))) 0 (rgV a b) [] [] := by
  have := RepL.ints (K := X.K) (H := H) ((List.range (b - a).toNat).map fun k => a + (k : Nat))
  simpa only [rgV, List.map_map, Function.comp_def] using this
theorem lrng1_pe (ok : XOk X tb cf c) {a : Ex} {xa : Expr} {p p2 pos pos2 : Pos} (hb : ckBlt tb c "list" = true) (hb2 : ckBlt tb c "range" = true) (ia : PE X xa (tI X.K cf a)) (hs : starEach [xa] X.env = (false, eval xa X.env) :: starEach [] X.env) :
    PE X (.Call (.Name "list" p) [.Call (.Name "range" p2) [xa] [] pos2] [] pos) (tI X.K cf (.lrng1 a)) := by
  obtain ⟨hm, hg, hn, hdb⟩ := ckBlt_ok ok hb
  obtain ⟨hm2, hg2, hn2, hdb2⟩ := ckBlt_ok ok hb2
  refine pe_imp (pe_listRg ok.calm hg hm (prg_1 hg2 hm2 ia hs)) fun σ H Q ⟨ρ, fp, fz, d, ρ', s, dj, e, p⟩ => ?_
  simp only [ev] at e
  obtain ⟨⟨x, n⟩, ρ1, e1, ea⟩ := bind_inv e
  obtain ⟨l, ρ2, e2', eb⟩ := bind_inv ea
  clear e ea
  obtain ⟨e2, rfl⟩ := of_inv e2'
  split at eb
  · rename_i hl
    cases eb
    refine step1 (q := quiet (.lrng1 a)) s dj e1 (fun h => by simpa only [quiet] using h) fun v H1 z1 f2 z2 r s2 d2 x2 => ?_
    unfold rngD at e2
    split at e2
    · rename_i i j h1 h2
      cases h1
      simp only at h2
      subst h2
      split at e2
      · rename_i hc
        cases e2
        simp only [Bool.and_eq_true, decide_eq_true_eq] at hc
        cases r.toInt
        refine ⟨j, rfl, ⟨hc.1.1.1, hc.1.1.2, hc.1.2, hc.2, by simpa using hl⟩, fun q hq => ?_⟩
        exact (pq_post s2 d2 x2 p).lst (rg_rep H1 0 j) (fun _ m => absurd m List.not_mem_nil) q hq
      · cases e2
    · cases e2
  · cases eb
theorem lrng2_pe (ok : XOk X tb cf c) {a b : Ex} {xa xb : Expr} {p p2 pos pos2 : Pos} (hb : ckBlt tb c "list" = true) (hb2 : ckBlt tb c "range" = true) (ia : PE X xa (tI X.K cf a)) (ib : PE X xb (tI X.K cf b)) (hs : starEach [xa, xb] X.env = (false, eval xa X.env) :: starEach [xb] X.env) (hs2 : starEach [xb] X.env = (false, eval xb X.env) :: starEach [] X.env) :
    PE X (.Call (.Name "list" p) [.Call (.Name "range" p2) [xa, xb] [] pos2] [] pos) (tI X.K cf (.lrng2 a b)) := by
  obtain ⟨hm, hg, hn, hdb⟩ := ckBlt_ok ok hb
  obtain ⟨hm2, hg2, hn2, hdb2⟩ := ckBlt_ok ok hb2
  refine pe_imp (pe_listRg ok.calm hg hm (prg_2 hg2 hm2 ia ib hs hs2 (by rw [hs2]; rfl))) fun σ H Q ⟨ρ, fp, fz, d, ρ', s, dj, e, p⟩ => ?_
  simp only [ev] at e
  obtain ⟨⟨x, n⟩, ρ1, e1, ea⟩ := bind_inv e
  obtain ⟨⟨y, m⟩, ρ2, e2, eb⟩ := bind_inv ea
  obtain ⟨l, ρ3, e3', ec⟩ := bind_inv eb
  clear e ea eb
  obtain ⟨e3, rfl⟩ := of_inv e3'
  split at ec
  · rename_i hl
    cases ec
    refine step2 (q := quiet (.lrng2 a b)) s dj e1 e2 (fun h => and_iff2 (by simpa only [quiet] using h)) fun v u H2 z1 z2 f3 z3 r1 r2 s3 d3 x3 => ?_
    unfold rngD at e3
    split at e3
    · rename_i i j h1 h2
      simp only at h1 h2
      subst h1 h2
      split at e3
      · rename_i hc
        cases e3
        simp only [Bool.and_eq_true, decide_eq_true_eq] at hc
        cases r1.toInt; cases r2.toInt
        refine ⟨i, j, rfl, rfl, ⟨hc.1.1.1, hc.1.1.2, hc.1.2, hc.2, by simpa using hl⟩, fun q hq => ?_⟩
        exact (pq_post s3 d3 x3 p).lst (rg_rep H2 i j) (fun _ m => absurd m List.not_mem_nil) q hq
      · cases e3
    · cases e3
  · cases ec
end
end Pi
/-! Pi11: isinstance, methods, dict displays, calls of defs. -/
namespace Pi
open PySem L2

section
variable {X : Cx} {tb : Tb} {cf : Cf} {c : CkC}
/-! ### isinstance -/
theorem kit_all : ∀ a ∈ ["NoneType", "bool", "int", "str", "tuple", "list", "dict"], ∀ b ∈ ["int", "bool", "str", "list", "tuple", "dict"], kitB a b = some (a == b || (a == "bool" && b == "int")) := by decide +kernel
theorem tyX_rep {H : Hp} {d : D} {v : V} {z : List Addr} {n : String} (r : Rep X.K H d 0 v [] z) (h : tyD d = some n) : TyX X.K H v (.type n) := by
  cases d with
  | non => cases r.toNon; cases h; exact .base .non
  | bl b => cases r.toBl; cases h; exact .base (.bl b)
  | int b => cases r.toInt; cases h; exact .base (.int b)
  | str b => cases r.toStr; cases h; exact .base (.str b)
  | tup l => obtain ⟨a, vs, rfl, q, _⟩ := r.toTup; cases h; exact .base (.tup q)
  | ctup l =>
    obtain ⟨a, vs, rfl, q, _⟩ := r.toCtup
    cases h
    rcases q with (q | ⟨o, q⟩) | ⟨o, its, n, e, hc, _⟩
    · exact .base (.tup q)
    · exact .fTuple q
    · exact .kTuple e hc
  | lst l => obtain ⟨a, vs, _, rfl, q, _⟩ := r.toLst; cases h; exact .base (.lst q)
  | dk l =>
    obtain ⟨a, vs, _, rfl, q, _⟩ := r.toDk
    cases h
    rcases q with q | ⟨o, q⟩
    · exact .base (.dK q)
    · exact .fDict q
  | _ => simp [tyD] at h
theorem tyD_mem {d : D} {n : String} (h : tyD d = some n) : n ∈ ["NoneType", "bool", "int", "str", "tuple", "list", "dict"] := by
  cases d <;> simp [tyD] at h <;> subst h <;> simp
theorem ty_mem (t : Ty) : t.nm ∈ ["int", "bool", "str", "list", "tuple", "dict"] := by cases t <;> simp [Ty.nm]
theorem isinD_eq {d : D} {t : Ty} {b : Bool} (h : isinD d t = some b) : ∃ n, tyD d = some n ∧ (n == t.nm || (n == "bool" && t.nm == "int")) = b := by
  cases t <;> cases d <;> simp [isinD, tyD] at h <;> subst h <;> refine ⟨_, rfl, ?_⟩ <;> rfl
theorem boot_ty (t : Ty) : bootBuiltins (Str.ofString t.nm) = some (.type t.nm) := by cases t <;> decide +kernel
theorem isin_pe (ok : XOk X tb cf c) {a : Ex} {t : Ty} {xa : Expr} {p p2 pos : Pos} (hb : ckBlt tb c "isinstance" = true) (hb2 : ckBlt tb c (Str.ofString t.nm) = true) (ia : PE X xa (tI X.K cf a)) (hs : ∀ es, starEach (xa :: es) X.env = (false, eval xa X.env) :: starEach es X.env) :
    PE X (.Call (.Name "isinstance" p) [xa, .Name (Str.ofString t.nm) p2] [] pos) (tI X.K cf (.isin a t)) := by
  obtain ⟨hm, hg, hn, hdb⟩ := ckBlt_ok ok hb
  obtain ⟨hm2, hg2, hn2, hdb2⟩ := ckBlt_ok ok hb2
  have hty : PE X (.Name (Str.ofString t.nm) p2) (tC (.ty t.nm)) := pe_bltn hg2 hm2 (boot_ty t) rfl hn2 hdb2
  have e1 : starEach [Expr.Name (Str.ofString t.nm) p2] X.env = [(false, eval (Expr.Name (Str.ofString t.nm) p2) X.env)] := rfl
  have key := pe_callB (p := p) (pos := pos) call_isi hg hm (by decide +kernel) (pa_cons ia (pa_cons hty pa_nil rfl) (hs _)) hn hdb (hs _) (by rw [e1]; rfl)
  refine pe_imp key fun σ H Q ⟨ρ, fp, fz, d, ρ', s, dj, e, q⟩ => ?_
  simp only [ev] at e
  obtain ⟨x, ρ1, e1, ea⟩ := bind_inv e
  obtain ⟨b, ρ2, e2', eb⟩ := bind_inv ea
  clear e ea
  obtain ⟨e2, rfl⟩ := of_inv e2'
  cases eb
  refine step1 (q := quiet (.isin a t)) s dj e1 (fun h => by simpa only [quiet] using h) fun v H1 z1 f2 z2 r s2 d2 x2 => ?_
  obtain ⟨n, hn, hb⟩ := isinD_eq e2
  refine ⟨v, .ty t.nm, .type n, .type t.nm, b, rfl, .ty _, tyX_rep r hn, ?_, cmp_post s2 d2 x2 q⟩
  exact kit_ty (by rw [kit_all n (tyD_mem hn) t.nm (ty_mem t), hb])
/-! ### methods of built-in types -/
def tyG (X : Cx) (T : String) (x : V) (H : Hp) : Prop := ∀ (pins : List (Addr × Obj)) (σ : St) (s : Shared) (v : Value), Inv X pins σ H s → RelV x v → s.TypeIs v T ∧ ∀ a, v = .ref a → ∃ ob, s.heap.get? a = some ob ∧ ob.dict = none
def tMth (X : Cx) (T : String) (r : V → List V → Hp → VK → Prop) (to : TE) (t : TA) : TE := fun σ H Q => to σ H fun x H1 => tyG X T x H1 ∧ t σ H1 fun xs H2 => r x xs H2 Q
theorem meth_pe {T id : String} {name : Str} {r : V → List V → Hp → VK → Prop} {o : Expr} {es : List Expr} {to : TE} {t : TA} {apos cpos : Pos} (pa : PlainAttrs T) (slot : Slot T name id) (hty : typeOf (.builtin id) = pure (.type "method_descriptor")) (hm : MtR X id r) (ho : PE X o to) (ha : PA X es t)
    (hnc : ∀ f a k p, o ≠ .Call f a k p) (hline : (apos.endLine == cpos.line) = true) (h1 : starEach es X.env = es.map fun x => (false, eval x X.env)) (hl : es.length < 20) :
    PE X (.Call (.Attribute o name apos) es [] cpos) (tMth X T r to t) := by
  refine ⟨fun pins s σ H Q I h => ?_⟩
  have hfew : ((backTo cpos (starEach es X.env)).all (fun x => !x.1) && (backToKw cpos (keywordEach [] X.env)).all (fun x => x.1.isSome)
      && decide (es.length + ([] : List Keyword).length + (if ([] : List Keyword).isEmpty then 0 else 1) < 30)) = true := by
    rw [h1]
    simp only [backTo, List.map_map, List.all_map, Function.comp_def, Bool.not_false, List.all_eq_true, implies_true, Bool.and_eq_true, decide_eq_true_eq]
    exact ⟨⟨by simp, by simp [keywordEach, backToKw]⟩, by simp; omega⟩
  refine wpAny_Call_method_late (attr_base hnc) hfew hline rfl (thn (ho.run pins s σ H _ I h) fun v s1 ⟨x, H1, I1, r1, ty, q1⟩ => ?_)
  obtain ⟨t1, t2⟩ := ty pins σ s1 v I1 r1
  refine ⟨T, id, pa, slot, hty, t1, t2, ?_⟩
  have hA := ha.run cpos pins s1 σ H1 _ I1 q1
  refine Calls.callWith_builtin (back_any h1) ?_
  cases es with
  | nil =>
    refine PySem.evalArgs_none ?_
    have hA' : wpAny (model X.prog X.w) X.A (spliced []) (AP X pins σ (fun xs H2 => r x xs H2 Q)) X.xe s1 := hA
    have hB : wpAny (model X.prog X.w) X.A (pure ([] : List Value)) (AP X pins σ (fun xs H2 => r x xs H2 Q)) X.xe s1 := hA'
    intro Γ p hΓ
    obtain ⟨vs, H2, I2, r2, q2⟩ := hB Γ p hΓ
    exact hm pins s1 σ H2 x vs v [] Q I2 r1 r2 q2 Γ p hΓ
  | cons e es =>
    have hs : starEach (e :: es) X.env = (false, eval e X.env) :: es.map fun x => (false, eval x X.env) := h1
    rw [hs] at hA ⊢
    exact Calls.evalArgs_plain (thn hA fun us s2 ⟨vs, H2, I2, r2, q2⟩ => hm pins s2 σ H2 x vs v us Q I2 r1 r2 q2)
theorem tyG_list {x : V} {H : Hp} {a : Addr} {xs : List V} (e : x = .ref a) (h : H a = some (.lst xs)) : tyG X "list" x H := fun pins σ s v I r => by
  subst e
  exact tyV_is I r (.inl ⟨rfl, _, SqL.of h⟩)
theorem tyG_dict {x : V} {H : Hp} {a : Addr} (e : x = .ref a) (h : IsD H a) : tyG X "dict" x H := fun pins σ s v I r => by
  subst e
  obtain rfl : v = .ref a := r
  obtain ⟨t1, t2, _⟩ := isD_at I h
  exact ⟨t1, t2⟩
/-- d.get(k), d.get(k, x) -/
def rGet : V → List V → Hp → VK → Prop := fun x vs H Q => ∃ a y o, x = .ref a ∧ ((vs = [y] ∧ DGet H a y o ∧ Q (o.getD .non) H) ∨ ∃ z, vs = [y, z] ∧ DGet H a y o ∧ Q (o.getD z) H)
theorem mt_get (hu : X.A.units + 1 < cLine) : MtR X "dict.get" rGet := by
  intro pins s σ H x xs v us Q I rx rv ⟨a, y, o, e, h⟩
  subst e
  obtain rfl : v = .ref a := rx
  rcases h with ⟨rfl, g, q⟩ | ⟨z, rfl, g, q⟩
  · obtain ⟨u, rfl, ru⟩ := vals1 rv
    exact d_get1 hu I g ru fun w' s' I' r' => ⟨_, H, I', r', q⟩
  · obtain ⟨u, w, rfl, ru, rw'⟩ := vals2 rv
    exact d_get2 hu I g ru rw' fun w' s' I' r' => ⟨_, H, I', r', q⟩
theorem dget_of {H : Hp} {x : D} {v w : V} {z y : List Addr} {l : List (Key × D)} {k : Key} (r : Rep X.K H (.dk l) 0 v [] z) (s : Rep X.K H x 0 w [] y) (h : isKey x = some k) :
    ∃ a u, v = .ref a ∧ IsD H a ∧ DGet H a w u ∧ ((getK l k = none ∧ u = none) ∨ ∃ d p z', getK l k = some d ∧ u = some p ∧ Rep X.K H d 0 p [] z' ∧ ∀ a ∈ z', a ∈ z) := by
  obtain ⟨a, kvs, z', rfl, q, rk, rfl⟩ := r.toDk
  refine ⟨a, valV kvs k, rfl, .inl ⟨kvs, q⟩, .inl ⟨kvs, k, q, key_rep s h, rfl⟩, ?_⟩
  rcases rk.val k with ⟨a, b⟩ | ⟨d, p, a, b⟩
  · exact .inl ⟨a, b⟩
  · obtain ⟨p', z1, e, hr, hz⟩ := RepK.at0 rk k d a
    exact .inr ⟨d, p', z1, a, e, hr, fun a m => List.mem_cons_of_mem _ (hz a m)⟩
theorem get_pe (ok : XOk X tb cf c) {o l : Ex} {xo : Expr} {xs : List Expr} {apos cpos : Pos} (io : PE X xo (tI X.K cf o)) (il : PA X xs (tIA X.K cf l)) (hnc : ∀ f a k p, xo ≠ .Call f a k p) (hline : (apos.endLine == cpos.line) = true) (h1 : starEach xs X.env = xs.map fun x => (false, eval x X.env)) (hl : xs.length < 20) :
    PE X (.Call (.Attribute xo "get" apos) xs [] cpos) (tI X.K cf (.mth .get o l)) := by
  refine pe_imp (meth_pe PySem.F.plainAttrs_dict PySem.F.slot_dict_get PySem.F.type_dict_get (mt_get (by have := ok.hu; omega)) io il hnc hline h1 hl) fun σ H Q ⟨ρ, fp, fz, d, ρ', s, dj, e, p⟩ => ?_
  simp only [ev] at e
  obtain ⟨x, ρ1, e1, ea⟩ := bind_inv e
  obtain ⟨ys, ρ2, e2, eb⟩ := bind_inv ea
  obtain ⟨as, ρ0, e0, ec⟩ := bind_inv e2
  obtain ⟨w, ρ3, e3', ed⟩ := bind_inv eb
  clear e ea e2 eb
  obtain ⟨hv, rfl⟩ := of_inv ec
  obtain ⟨e3, rfl⟩ := of_inv e3'
  cases ed
  have hq : quiet (.mth .get o l) = true → quiet o = true ∧ quiet l = true := fun h => and_iff2 (by simpa only [quiet] using h)
  refine step1 (q := quiet (.mth .get o l)) s dj e1 (fun h => (hq h).1) fun v H1 z1 f2 z2 r1 s2 d2 x2 => ?_
  obtain ⟨x, n⟩ := x
  cases x <;> simp only [mthD, reduceCtorEq] at e3
  rename_i kvs
  have t1 := r1.trk
  have d2' : Disj ([] ++ f2) (z1 ++ z2) := d2
  have x2' : Ext (quiet (.mth .get o l)) H fp fz H1 ([] ++ f2) (z1 ++ z2) := x2
  have hd : ∃ a, v = .ref a ∧ IsD H1 a := by
    obtain ⟨a, vs, _, rfl, q, _⟩ := r1.toDk
    exact ⟨a, rfl, .inl ⟨vs, q⟩⟩
  obtain ⟨a, hva, hia⟩ := hd
  refine ⟨tyG_dict hva hia, stepA (q := quiet (.mth .get o l)) s2 d2'.right e0 hv (fun h => (hq h).2) fun vs H2 z3 f3 z4 rl s3 d3 x3 => ?_⟩
  have r1' := Rep.stay x3.stay _ _ _ _ _ r1 (fun _ m => absurd m List.not_mem_nil) d2'.off2
  have d4 := Ext.disj d2' (Trk.nil _) t1.2 x3 d3
  have x4 := Ext.trans x2' x3
  rw [← List.append_assoc] at d4 x4
  unfold getM at e3
  split at e3
  · rename_i k hk
    simp only [Option.map_eq_some_iff] at e3
    obtain ⟨kk, hkk, rfl⟩ := e3
    rw [hk] at rl
    obtain ⟨u, rfl, ru⟩ := rl.one
    obtain ⟨a', o', ea', _, g, hg⟩ := dget_of r1' ru hkk
    rw [hva] at ea'
    cases ea'
    refine ⟨a, u, o', hva, .inl ⟨rfl, g, ?_⟩⟩
    rcases hg with ⟨hg, rfl⟩ | ⟨d, w, z', hg, rfl, hr, hz⟩
    · rw [hg] at p
      exact post_old (z := []) s3 d4 x4 (by simp [Rep]) (fun _ m => absurd m List.not_mem_nil) p
    · rw [hg] at p
      exact post_old s3 d4 x4 hr (fun a m => List.mem_append_left _ (hz a m)) p
  · rename_i k y hk
    simp only [Option.map_eq_some_iff] at e3
    obtain ⟨kk, hkk, rfl⟩ := e3
    rw [hk] at rl
    obtain ⟨u, w0, y1, y2, rfl, ru, rw', rfl⟩ := rl.two
    obtain ⟨a', o', ea', _, g, hg⟩ := dget_of r1' ru hkk
    rw [hva] at ea'
    cases ea'
    refine ⟨a, u, o', hva, .inr ⟨w0, rfl, g, ?_⟩⟩
    rcases hg with ⟨hg, rfl⟩ | ⟨d, w, z', hg, rfl, hr, hz⟩
    · rw [hg] at p
      exact post_old s3 d4 x4 rw' (fun a m => List.mem_append_right _ (List.mem_append_right _ m)) p
    · rw [hg] at p
      exact post_old s3 d4 x4 hr (fun a m => List.mem_append_left _ (hz a m)) p
  · cases e3
end
end Pi
/-! Pi12: calls of defs. -/
namespace Pi
open PySem L2

theorem gt_st_same : ∀ (ρ : Env) (i : Nat) (x : Option Sl), i < ρ.length → gt (st ρ i x) i = x
  | [], i, x, h => by simp at h
  | _ :: _, 0, x, _ => rfl
  | _ :: ρ, i + 1, x, h => gt_st_same ρ i x (by simpa using h)
theorem gt_st_ne : ∀ (ρ : Env) (i j : Nat) (x : Option Sl), j ≠ i → gt (st ρ i x) j = gt ρ j
  | [], _, _, _, _ => by simp [st, gt]
  | _ :: _, 0, 0, _, h => absurd rfl h
  | _ :: _, 0, j + 1, _, _ => rfl
  | _ :: _, i + 1, 0, _, _ => rfl
  | _ :: ρ, i + 1, j + 1, x, h => gt_st_ne ρ i j x (by omega)
theorem st_none : ∀ (ρ : Env) (i : Nat), gt ρ i = none → st ρ i none = ρ
  | [], _, _ => rfl
  | x :: _, 0, h => by cases x with | none => rfl | some _ => cases h
  | _ :: ρ, i + 1, h => by simp only [st]; rw [st_none ρ i h]
theorem st_len : ∀ (ρ : Env) (i : Nat) (x : Option Sl), (st ρ i x).length = ρ.length
  | [], _, _ => rfl
  | _ :: _, 0, _ => rfl
  | _ :: ρ, i + 1, x => by simp [st, st_len ρ i x]
theorem gt_map : ∀ (xs : List Sl) (i : Nat), gt (xs.map some) i = xs[i]?
  | [], _ => by simp [gt]
  | _ :: _, 0 => rfl
  | _ :: xs, i + 1 => by simpa [gt] using gt_map xs i
theorem gt_get : ∀ (ρ : Env) (i : Nat), gt ρ i = (ρ[i]?).getD none
  | [], _ => by simp [gt]
  | _ :: _, 0 => rfl
  | _ :: ρ, i + 1 => by simpa [gt] using gt_get ρ i
section
variable {K : PySem.W.Frag} {H : Hp}
theorem perm3 {a b c : List Addr} : ((a ++ b) ++ c).Perm (b ++ (a ++ c)) := by
  rw [← List.append_assoc]
  exact List.Perm.append_right c List.perm_append_comm
theorem resolve_ok {σ : St} : ∀ {as : List Ar} {vs : List V} {ρ ρ' : Env} {xs : List Sl} {f1 z1 f2 z2 : List Addr}, AL K H σ as vs f1 z1 → SL K H σ ρ f2 z2 → resolveA as ρ = some (xs, ρ') →
    ∃ f3 z3 f4 z4, SL K H (vs.map some) (xs.map some) f3 z3 ∧ SL K H σ ρ' f4 z4 ∧ (f3 ++ f4).Perm (f1 ++ f2) ∧ (z3 ++ z4).Perm (z1 ++ z2) ∧ ((∀ i, Ar.ln i ∉ as) → f3 = f1)
  | [], vs, ρ, ρ', xs, f1, z1, f2, z2, al, s, h => by
    simp only [resolveA, Option.some.injEq, Prod.mk.injEq] at h
    obtain ⟨rfl, rfl⟩ := h
    obtain ⟨rfl, rfl, rfl⟩ := al
    exact ⟨[], [], f2, z2, ⟨rfl, rfl⟩, s, .refl _, .refl _, fun _ => rfl⟩
  | .val x :: as, vs, ρ, ρ', xs, f1, z1, f2, z2, al, s, h => by
    obtain ⟨v, vs', g1, g2, y1, y2, rfl, rfl, rfl, r, al⟩ := al
    simp only [resolveA] at h
    split at h
    · rename_i ys ρ2 hr
      cases h
      obtain ⟨f3, z3, f4, z4, s1, s2, p, q, hn⟩ := resolve_ok al s hr
      refine ⟨g1 ++ f3, y1 ++ z3, f4, z4, ⟨v, g1, f3, y1, z3, rfl, rfl, rfl, r, s1⟩, s2, ?_, ?_, fun h => ?_⟩
      · rw [List.append_assoc, List.append_assoc]; exact List.Perm.append_left _ p
      · rw [List.append_assoc, List.append_assoc]; exact List.Perm.append_left _ q
      · rw [hn fun i m => h i (List.mem_cons_of_mem _ m)]
    · cases h
  | .ln i :: as, vs, ρ, ρ', xs, f1, z1, f2, z2, al, s, h => by
    obtain ⟨v, vs', rfl, hv, al⟩ := al
    simp only [resolveA] at h
    split at h
    · rename_i sl g
      split at h
      · rename_i ys ρ2 hr
        cases h
        obtain ⟨v', k1, k2, w1, w2, hv', r, s0, p0, q0⟩ := SL.take (d := sl.1) (n := sl.2) s g
        rw [hv] at hv'
        cases hv'
        obtain ⟨f3, z3, f4, z4, s1, s2, p, q, _⟩ := resolve_ok al s0 hr
        refine ⟨k1 ++ f3, w1 ++ z3, f4, z4, ⟨v, k1, f3, w1, z3, rfl, rfl, rfl, r, s1⟩, s2, ?_, ?_, fun h => absurd List.mem_cons_self (h i)⟩
        · rw [List.append_assoc]
          refine (List.Perm.append_left _ p).trans ?_
          rw [← List.append_assoc]
          exact perm3.trans (List.Perm.append_left _ p0)
        · rw [List.append_assoc]
          refine (List.Perm.append_left _ q).trans ?_
          rw [← List.append_assoc]
          exact perm3.trans (List.Perm.append_left _ q0)
      · cases h
    · cases h
theorem al_lend {σ : St} : ∀ {as : List Ar} {vs : List V} {f z : List Addr}, AL K H σ as vs f z → ∀ (p i : Nat), as[p]? = some (.ln i) → ∃ v, vs[p]? = some v ∧ σ[i]? = some (some v)
  | [], _, _, _, _, p, i, h => by simp at h
  | .val x :: as, vs, f, z, al, 0, i, h => by simp at h
  | .val x :: as, vs, f, z, al, p + 1, i, h => by
    obtain ⟨v, vs', g1, g2, y1, y2, rfl, rfl, rfl, r, al⟩ := al
    exact al_lend al p i (by simpa using h)
  | .ln k :: as, vs, f, z, al, 0, i, h => by
    obtain ⟨v, vs', rfl, hv, al⟩ := al
    have : k = i := by simpa using h
    subst this
    exact ⟨v, rfl, hv⟩
  | .ln k :: as, vs, f, z, al, p + 1, i, h => by
    obtain ⟨v, vs', rfl, hv, al⟩ := al
    exact al_lend al p i (by simpa using h)
theorem al_len {σ : St} : ∀ {as : List Ar} {vs : List V} {f z : List Addr}, AL K H σ as vs f z → vs.length = as.length
  | [], _, _, _, al => by obtain ⟨rfl, _⟩ := al; rfl
  | .val x :: as, vs, f, z, al => by
    obtain ⟨v, vs', g1, g2, y1, y2, rfl, rfl, rfl, r, al⟩ := al
    simp [al_len al]
  | .ln k :: as, vs, f, z, al => by
    obtain ⟨v, vs', rfl, hv, al⟩ := al
    simp [al_len al]
/-- some of the arguments in another order -/
theorem sel_go {vs : List V} {xs : List Sl} : ∀ (ks : List Nat) {ρ : Env} {f z : List Addr}, SL K H (vs.map some) ρ f z → ks.Nodup → vs.length = xs.length → (∀ k ∈ ks, gt ρ k = xs[k]?) →
    ∃ f' z', SL K H ((ks.filterMap fun k => vs[k]?).map some) ((ks.filterMap fun k => xs[k]?).map some) f' z' ∧ Less f z f' z'
  | [], ρ, f, z, s, _, _, _ => ⟨[], [], ⟨rfl, rfl⟩, f, by simp, fun _ m => absurd m List.not_mem_nil⟩
  | k :: ks, ρ, f, z, s, nd, hl, hg => by
    have nd' := List.nodup_cons.mp nd
    cases hx : xs[k]? with
    | none =>
      have hv : vs[k]? = none := by
        rw [List.getElem?_eq_none_iff] at hx ⊢; omega
      obtain ⟨f', z', a, b⟩ := sel_go ks s nd'.2 hl fun j m => hg j (List.mem_cons_of_mem _ m)
      refine ⟨f', z', ?_, b⟩
      simp only [List.filterMap_cons, hx, hv]
      exact a
    | some x =>
      have g := hg k List.mem_cons_self
      rw [hx] at g
      obtain ⟨v, k1, k2, w1, w2, hv, r, s0, p0, q0⟩ := SL.take (d := x.1) (n := x.2) s g
      have hv' : vs[k]? = some v := by
        rw [List.getElem?_map] at hv
        cases e : vs[k]? with
        | none => rw [e] at hv; cases hv
        | some u => rw [e] at hv; cases hv; rfl
      obtain ⟨f', z', a, mv, pm, sm⟩ := sel_go ks s0 nd'.2 hl fun j m => by
        have hne : j ≠ k := fun e => nd'.1 (by rw [← e]; exact m)
        rw [gt_st_ne _ _ _ _ hne]
        exact hg j (List.mem_cons_of_mem _ m)
      refine ⟨k1 ++ f', w1 ++ z', ?_, mv, ?_, fun y m => ?_⟩
      · simp only [List.filterMap_cons, hx, hv', List.map_cons]
        exact ⟨v, k1, f', w1, z', rfl, rfl, rfl, r, a⟩
      · rw [List.append_assoc]
        exact (List.Perm.append_left _ pm).trans p0
      · rcases List.mem_append.mp m with m | m
        · exact .inl (q0.mem_iff.mp (List.mem_append_left _ m))
        · exact (sm y m).imp (fun h => q0.mem_iff.mp (List.mem_append_right _ h)) id
theorem sel_ok {vs : List V} {xs : List Sl} {f z : List Addr} (sel : List Nat) (nd : sel.Nodup) (s : SL K H (vs.map some) (xs.map some) f z) : ∃ f' z', SL K H ((selL vs sel).map some) ((selL xs sel).map some) f' z' ∧ Less f z f' z' := by
  cases sel with
  | nil => exact ⟨f, z, s, .refl _ _⟩
  | cons k ks =>
    have hl : vs.length = xs.length := by have := SL.len s; simpa using this
    exact sel_go (k :: ks) s nd hl fun j _ => gt_map xs j
/-- what was lent comes back -/
theorem backs_ok {σ : St} {ws : List V} {outs : List (Option Sl)} : ∀ (bs : List (Nat × Nat)) {ρ o : Env} {f z g y : List Addr}, SL K H σ ρ f z → SL K H (ws.map some) o g y → (bs.map (·.1)).Nodup → (bs.map (·.2)).Nodup →
    (∀ p ∈ bs, gt ρ p.1 = none ∧ gt o p.2 = (outs[p.2]?).getD none ∧ ∃ w, σ[p.1]? = some (some w) ∧ ws[p.2]? = some w) →
    ∃ f' z', SL K H σ (backsTo outs ρ bs) f' z' ∧ Less (g ++ f) (y ++ z) f' z'
  | [], ρ, o, f, z, g, y, s, t, _, _, _ => ⟨f, z, s, g, List.perm_append_comm, fun a m => .inl (List.mem_append_right _ m)⟩
  | (i, j) :: bs, ρ, o, f, z, g, y, s, t, n1, n2, h => by
    have n1' := List.nodup_cons.mp n1
    have n2' := List.nodup_cons.mp n2
    obtain ⟨h1, h2, w, h3, h4⟩ := h (i, j) List.mem_cons_self
    simp only at h1 h2 h3 h4
    simp only [backsTo]
    cases hx : (outs[j]?).getD none with
    | none =>
      rw [st_none ρ i h1]
      exact backs_ok bs s t n1'.2 n2'.2 fun p m => h p (List.mem_cons_of_mem _ m)
    | some x =>
      rw [hx] at h2
      obtain ⟨w', k1, k2, w1, w2, hv, r, t0, p0, q0⟩ := SL.take (d := x.1) (n := x.2) t h2
      have hw : w' = w := by
        rw [List.getElem?_map, h4] at hv
        cases hv; rfl
      subst hw
      have s0 : SL K H σ (st ρ i none) f z := by rw [st_none ρ i h1]; exact s
      obtain ⟨f3, z3, s3, p3, q3⟩ := SL.fill s0 h3 r
      obtain ⟨f', z', s', mv, pm, sm⟩ := backs_ok bs s3 t0 n1'.2 n2'.2 fun p m => by
        obtain ⟨a, b, c⟩ := h p (List.mem_cons_of_mem _ m)
        refine ⟨?_, ?_, c⟩
        · have hne : p.1 ≠ i := fun e => n1'.1 (by rw [← e]; exact List.mem_map.mpr ⟨p, m, rfl⟩)
          rw [gt_st_ne _ _ _ _ hne]; exact a
        · have hne : p.2 ≠ j := fun e => n2'.1 (by rw [← e]; exact List.mem_map.mpr ⟨p, m, rfl⟩)
          rw [gt_st_ne _ _ _ _ hne]; exact b
      refine ⟨f', z', s', mv, pm.trans ?_, fun a m => ?_⟩
      · refine (List.Perm.append_left _ p3.symm).trans ?_
        rw [← List.append_assoc]
        exact List.Perm.append_right _ (List.perm_append_comm.trans p0)
      · refine (sm a m).imp (fun h => ?_) id
        rcases List.mem_append.mp h with h | h
        · exact List.mem_append_left _ (q0.mem_iff.mp (List.mem_append_right _ h))
        · rcases List.mem_append.mp (q3.mem_iff.mpr h) with h | h
          · exact List.mem_append_left _ (q0.mem_iff.mp (List.mem_append_left _ h))
          · exact List.mem_append_right _ h
end
/-! ### the call -/
section
variable {X : Cx} {tb : Tb} {cf : Cf} {c : CkC}
theorem evA_lends : ∀ {l : Ex} {ρ ρ' : Env} {as : List Ar} (k : Nat), evA cf l ρ = .ok as ρ' → ∀ q ∈ lendsOf l k, k ≤ q.2 ∧ as[q.2 - k]? = some (.ln q.1) := by
  intro l
  induction l with
  | cons a r iha ihr =>
    intro ρ ρ' as k h q m
    by_cases hl : ∃ i, a = .lend i
    · obtain ⟨i, rfl⟩ := hl
      simp only [evA] at h
      split at h
      · obtain ⟨xs, ρ2, e2, eb⟩ := bind_inv h
        cases eb
        simp only [lendsOf, List.mem_cons] at m
        rcases m with rfl | m
        · exact ⟨Nat.le_refl _, by simp⟩
        · obtain ⟨a, b⟩ := ihr (k + 1) e2 q m
          refine ⟨by omega, ?_⟩
          rw [show q.2 - k = (q.2 - (k + 1)) + 1 by omega]
          simpa using b
      · cases h
    · rw [evA_cons (fun i e => hl ⟨i, e⟩)] at h
      obtain ⟨x, ρ1, e1, ea⟩ := bind_inv h
      obtain ⟨xs, ρ2, e2, eb⟩ := bind_inv ea
      cases eb
      have hm : q ∈ lendsOf r (k + 1) := by
        cases a <;> first | (simpa only [lendsOf] using m) | exact absurd ⟨_, rfl⟩ hl
      obtain ⟨a, b⟩ := ihr (k + 1) e2 q hm
      refine ⟨by omega, ?_⟩
      rw [show q.2 - k = (q.2 - (k + 1)) + 1 by omega]
      simpa using b
  | _ => intro ρ ρ' as k h q m; simp [lendsOf] at m
theorem evA_noln : ∀ {l : Ex} {ρ ρ' : Env} {as : List Ar} (k : Nat), evA cf l ρ = .ok as ρ' → lendsOf l k = [] → ∀ i, Ar.ln i ∉ as := by
  intro l
  induction l with
  | cons a r iha ihr =>
    intro ρ ρ' as k h hn i m
    by_cases hl : ∃ i, a = .lend i
    · obtain ⟨i, rfl⟩ := hl
      simp [lendsOf] at hn
    · rw [evA_cons (fun i e => hl ⟨i, e⟩)] at h
      obtain ⟨x, ρ1, e1, ea⟩ := bind_inv h
      obtain ⟨xs, ρ2, e2, eb⟩ := bind_inv ea
      cases eb
      have hm : lendsOf r (k + 1) = [] := by
        cases a <;> first | (simpa only [lendsOf] using hn) | exact absurd ⟨_, rfl⟩ hl
      rcases List.mem_cons.mp m with h' | h'
      · cases h'
      · exact ihr (k + 1) e2 hm i h'
  | nil => intro ρ ρ' as k h hn i m; simp only [evA] at h; cases h; exact absurd m List.not_mem_nil
  | _ => intro ρ ρ' as k h hn i m; simp [evA] at h
theorem evA_len : ∀ {l : Ex} {xs : List Expr} {ρ ρ' : Env} {as : List Ar}, evA cf l ρ = .ok as ρ' → ckA tb c l xs = true → as.length = xs.length := by
  intro l
  induction l with
  | nil =>
    intro xs ρ ρ' as h hc
    simp only [evA] at h
    cases h
    cases xs <;> simp [ckA] at hc ⊢
  | cons a r iha ihr =>
    intro xs ρ ρ' as h hc
    cases xs with
    | nil => cases a <;> simp [ckA] at hc
    | cons x xs =>
      by_cases hl : ∃ i, a = .lend i
      · obtain ⟨i, rfl⟩ := hl
        simp only [evA] at h
        split at h
        · obtain ⟨ys, ρ2, e2, eb⟩ := bind_inv h
          cases eb
          have hc' : ckA tb c r xs = true := by
            cases x <;> simp only [ckA, Bool.and_eq_true] at hc <;> exact hc.2
          simp [ihr e2 hc']
        · cases h
      · rw [evA_cons (fun i e => hl ⟨i, e⟩)] at h
        obtain ⟨x, ρ1, e1, ea⟩ := bind_inv h
        obtain ⟨ys, ρ2, e2, eb⟩ := bind_inv ea
        cases eb
        have hc' : ckA tb c r xs = true := by
          cases a <;> first | (simp only [ckA, Bool.and_eq_true] at hc; exact hc.2) | exact absurd ⟨_, rfl⟩ hl
        simp [ihr e2 hc']
  | _ => intro xs ρ ρ' as h hc; simp [evA] at h
theorem sel_at {α : Type} {l : List α} {sel : List Nat} {k : Nat} {v : α} (nd : sel.Nodup) (hs : ∀ j ∈ sel, j < l.length) (h : l[k]? = some v) (hk : sel = [] ∨ k ∈ sel) : (selL l sel)[parOf sel k]? = some v := by
  cases sel with
  | nil => simpa [selL, parOf] using h
  | cons a ks =>
    have hm : k ∈ a :: ks := by rcases hk with h | h; cases h; exact h
    simp only [selL, parOf, List.isEmpty_cons, Bool.false_eq_true, if_false]
    have key : ∀ (ks : List Nat), k ∈ ks → (∀ j ∈ ks, j < l.length) → (ks.filterMap fun k => l[k]?)[ks.idxOf k]? = some v := by
      intro ks
      induction ks with
      | nil => intro m; cases m
      | cons b bs ih =>
        intro m hb
        have hb0 := hb b List.mem_cons_self
        simp only [List.filterMap_cons, List.getElem?_eq_getElem hb0]
        by_cases e : b = k
        · subst e
          rw [List.idxOf_cons_self]
          simp only [List.getElem?_cons_zero]
          rw [← h, List.getElem?_eq_getElem hb0]
        · have m' : k ∈ bs := (List.mem_cons.mp m).resolve_left (fun h => e h.symm)
          have hbk : (b == k) = false := beq_false_of_ne e
          rw [List.idxOf_cons, hbk]
          simpa using ih m' fun j hj => hb j (List.mem_cons_of_mem _ hj)
    exact key _ hm hs
theorem run_fnG {k : Nat} {f : Addr} {fd : FuncData} {ps ks : List Str} {sp : Sp} {pins : List (Addr × Obj)} {σ : St} {H : Hp} {s : Shared} {Q : VK} {us ws bs : List Value} {vs : List V} (F : FnG X.prog X.w X.K X.mg X.base k f fd ps sp) (hr : Room k X.A) (hg : X.A.guards = some [])
    (I : Inv X pins σ H s) (hb : BindsTo s fd ⟨us, ks.zip ws⟩ (ps.zip bs)) (r : Vals vs bs) (h : sp vs H Q E0) : wpAny (model X.prog X.w) X.A (call (.ref f) us (ks.zip ws)) (EP X pins σ Q) X.xe s := by
  refine wpAny_call (codeAny_mono (F.run X.A X.stack s H ⟨us, ks.zip ws⟩ bs vs Q E0 hr hg I.env0 hb r h) fun r s' hq => ?_)
  cases r with
  | error e => exact False.elim hq
  | ok fl =>
    cases fl with
    | ret u => exact I.after hq
    | _ => exact False.elim hq
theorem vals_sel {vs : List V} {us : List Value} (r : Vals vs us) (sel : List Nat) : Vals (selL vs sel) (selL us sel) := by
  cases sel with
  | nil => exact r
  | cons a ks =>
    simp only [selL]
    generalize a :: ks = l
    induction l with
    | nil => exact .nil
    | cons b bs ih =>
      simp only [List.filterMap_cons]
      cases e : vs[b]? with
      | none => rw [r.none_of e]; exact ih
      | some v =>
        obtain ⟨u, hu, rv⟩ := r.get e
        rw [hu]
        exact .cons rv ih
theorem kw_names : ∀ {kws : List Keyword} {ks : List Str} (pos : Pos) (env : PySem.Env), kwNames kws = some ks → (backToKw pos (keywordEach kws env)).all (·.1.isSome) = true ∧ (backToKw pos (keywordEach kws env)).filterMap (·.1) = ks ∧ (backToKw pos (keywordEach kws env)).any (·.1.isNone) = false ∧ kws.length = ks.length
  | [], ks, pos, env, h => by
    simp only [kwNames, Option.some.injEq] at h
    subst h
    exact ⟨rfl, rfl, rfl, rfl⟩
  | ⟨some n, e, p⟩ :: r, ks, pos, env, h => by
    simp only [kwNames, Option.map_eq_some_iff] at h
    obtain ⟨ks', h, rfl⟩ := h
    obtain ⟨a, b, c, d⟩ := kw_names pos env h
    refine ⟨?_, ?_, ?_, by simp [d]⟩
    · simpa [backToKw, keywordEach] using a
    · simpa [backToKw, keywordEach] using b
    · simpa [backToKw, keywordEach] using c
  | ⟨none, e, p⟩ :: r, ks, pos, env, h => by simp [kwNames] at h
/-- the tree of a call with positional arguments and keywords -/
theorem call_pe {x : Str} {xs : List Expr} {kws : List Keyword} {p pos : Pos} {f : Addr} {ks : List Str} {t : TA} {r : List V → Hp → VK → Prop} (hg : Gl X x) (hm : X.mg x = some (.ref f)) (hk : PySem.W.keepIn X.K (.ref f) = true) (hdb : (x == ("__debug__" : Str)) = false)
    (hn : kwNames kws = some ks) (h1 : starEach xs X.env = xs.map fun x => (false, eval x X.env)) (ia : PAK X xs kws t)
    (hc : ∀ (pins : List (Addr × Obj)) (s : Shared) (σ : St) (H : Hp) (vs : List V) (us ws : List Value) (Q : VK), Inv X pins σ H s → Vals vs (us ++ ws) → us.length = xs.length → ws.length = ks.length → r vs H Q → wpAny (model X.prog X.w) X.A (call (.ref f) us (ks.zip ws)) (EP X pins σ Q) X.xe s) :
    PE X (.Call (.Name x p) xs kws pos) (fun σ H Q => t σ H fun vs H1 => r vs H1 Q) := by
  refine ⟨fun pins s σ H Q I h => ?_⟩
  obtain ⟨k1, k2, k3, k4⟩ := kw_names pos X.env hn
  have hr := ia.run pos pins s σ H _ I h
  have hpl : ((backTo pos (starEach xs X.env)).any (·.1) || (backToKw pos (keywordEach kws X.env)).any (·.1.isNone)) = false := by rw [back_any h1, k3]; rfl
  refine wpAny_Call_Name_kw (ld_glob I hg hm ?_ hdb)
  cases xs with
  | nil =>
    refine PySem.W.callWith_KW0 (h₀ := X.base) I.ok.mod.kin hk k1 ?_ hpl
    have hB : wpAny (model X.prog X.w) X.A (pure ([] : List Value)) (fun us s1 => wpAny (model X.prog X.w) X.A (evalAll ((backToKw pos (keywordEach kws X.env)).map (·.2)))
      (fun ws s2 => us.length = 0 ∧ ws.length = kws.length ∧ AP X pins σ (fun vs H1 => r vs H1 Q) (us ++ ws) s2) X.xe s1) X.xe s := hr
    have hC : wpAny (model X.prog X.w) X.A (evalAll ((backToKw pos (keywordEach kws X.env)).map (·.2))) (fun ws s2 => ([] : List Value).length = 0 ∧ ws.length = kws.length ∧ AP X pins σ (fun vs H1 => r vs H1 Q) ([] ++ ws) s2) X.xe s := fun Γ p hΓ => hB Γ p hΓ Γ p hΓ
    refine thn hC fun ws s2 ⟨_, l2, vs, H2, I2, rv, q2⟩ => ⟨I2.kIn, ?_⟩
    rw [k2]
    exact hc pins s2 σ H2 vs [] ws Q I2 rv rfl (l2.trans k4) q2
  | cons e es =>
    have hs : starEach (e :: es) X.env = (false, eval e X.env) :: starEach es X.env := by
      have h2 : starEach (e :: es) X.env = (false, eval e X.env) :: es.map fun x => (false, eval x X.env) := h1
      cases e with
      | Starred y q =>
        have h3 : starEach (Expr.Starred y q :: es) X.env = (true, eval y X.env) :: starEach es X.env := rfl
        rw [h3] at h2
        injection h2 with h4 _
        injection h4 with h5 _
        cases h5
      | _ => rfl
    refine PySem.W.callWith_KW (h₀ := X.base) I.ok.mod.kin hk k1 (thn hr fun us s1 hu => thn hu fun ws s2 ⟨l1, l2, vs, H2, I2, rv, q2⟩ => ⟨I2.kIn, ?_⟩) hpl hs
    rw [k2]
    exact hc pins s2 σ H2 vs us ws Q I2 rv l1 (l2.trans k4) q2
theorem SL.nones {K : PySem.W.Frag} {H : Hp} : ∀ σ : St, SL K H σ (List.replicate σ.length none) [] []
  | [] => ⟨rfl, rfl⟩
  | _ :: σ => SL.nones σ
theorem run_makeG {C f : Addr} {k : Nat} {fd : FuncData} {ps : List Str} {cl : List Sl → Cr} {pins : List (Addr × Obj)} {σ : St} {H : Hp} {s : Shared} {Q : VK} {us us' : List Value} {vs : List V} (M : Mk X.K C f) (F : FnG X.prog X.w X.K X.mg X.base k f fd ps (spI X.K C cl)) (hr : Room (k + 1) X.A) (hg : X.A.guards = some [])
    (ho : ∀ args r outs, cl args = .ok r outs → outs = List.replicate args.length none) (hb : ∀ (s : Shared) (self : Value), X.K.In s.heap → BindsTo s fd ⟨self :: us, []⟩ (ps.zip (self :: us'))) (I : Inv X pins σ H s) (rv : Vals vs us') (h : spD X.K cl vs H Q E0) :
    wpAny (model X.prog X.w) X.A (call (.ref C) us) (EP X pins σ Q) X.xe s := by
  obtain ⟨args, fp, fz, r, outs, sl, dj, hcall, fin⟩ := h
  have nx : H (s.heap.objs.size + 1) = none := I.hok.fresh (Nat.le_succ _)
  have nd : H s.heap.objs.size = none := I.hok.fresh (Nat.le_refl _)
  have hne : s.heap.objs.size ≠ s.heap.objs.size + 1 := Nat.ne_of_lt (Nat.lt_succ_self _)
  generalize hx : s.heap.objs.size + 1 = x at nx hne
  generalize hdx : s.heap.objs.size = dx at nd hne
  have st0 : Stay [] H (upd (upd H dx (.own x)) x (.ins C dx [])) := fun a o ha _ => by
    have h1 : a ≠ x := fun e => by rw [e, nx] at ha; cases ha
    have h2 : a ≠ dx := fun e => by rw [e, nd] at ha; cases ha
    rw [upd_ne h1, upd_ne h2]; exact ha
  have t := sl.trk
  have hq : spI X.K C cl (.ref x :: vs) (upd (upd H dx (.own x)) x (.ins C dx [])) (fun v H2 => v = .non ∧ Q (.ref x) H2) E0 := by
    refine ⟨x, dx, vs, args, fp, fz, r, outs, rfl, upd_same, SL.stay st0 sl (fun _ _ m => absurd m List.not_mem_nil) (fun _ _ m => absurd m List.not_mem_nil), dj, fun m => t.1 x m nx, fun m => t.2 x m nx, hcall, fun H' rr st => ⟨rfl, ?_⟩⟩
    have hl := SL.len sl
    rw [List.length_map, List.length_map] at hl
    refine fin (.ref x) H' [] [x] [] [] rr ?_ ⟨List.nodup_nil, fun a m => absurd m List.not_mem_nil⟩ ⟨fun a o ha hm => ?_, fun a m => absurd m List.not_mem_nil, fun a m => ?_⟩
    · rw [ho _ _ _ hcall, ← hl]
      have := SL.nones (K := X.K) (H := H') (vs.map some)
      rw [List.length_map] at this
      exact this
    · have h1 : a ≠ x := fun e => by rw [e, nx] at ha; cases ha
      refine st a o (st0 a o ha fun m => absurd m List.not_mem_nil) fun m => ?_
      rcases List.mem_cons.mp m with e | m
      · exact absurd e h1
      · exact hm (by simpa [wset] using m)
    · rw [List.append_nil] at m
      rw [List.mem_singleton.mp m]
      exact .inr (.inr nx)
  have I2 := Inv.made (C := C) I
  rw [hx, hdx] at I2
  have r2 : Vals (V.ref x :: vs) (Value.ref x :: us') := .cons rfl rv
  refine wpAny_call (make_map (f := f) I.kIn M.makes M.init (beq_iff_eq.mp M.fn) ?_)
  rw [hx, hdx]
  refine codeAny_mono (F.run _ X.stack _ _ ⟨Value.ref x :: us, []⟩ (Value.ref x :: us') (V.ref x :: vs) _ E0 (hr.make C us []) (by
    have e : Code.guards (Code.builtin "type.__call__" { pos := Value.ref C :: us }) = [] := by rfl
    simp [Around.under, pushGuards, hg, e]) (I2.env0.make C us []) (hb _ _ I2.kIn) r2 hq) fun r s' hq' => ?_
  cases r with
  | error e => exact False.elim hq'
  | ok fl =>
    cases fl with
    | ret u =>
      obtain ⟨v, H', I3, rv, ev, q3⟩ := I2.after hq'
      subst ev
      exact ⟨rv, ⟨V.ref x, H', I3, rfl, q3⟩⟩
    | next => exact False.elim hq'
    | brk => exact False.elim hq'
    | cont => exact False.elim hq'
theorem dcall_pe (ok : XOk X tb cf c) {f : Str} {l : Ex} {sel : List Nat} {backs : List (Nat × Nat)} {xs : List Expr} {kws : List Keyword} {ks : List Str} {p pos : Pos} (hsh : (⟨f, xs.length, ks, sel⟩ : Shape) ∈ tb.shapes) (hgl : glB c.sc f = true) (hpn : plainNm f = true) (hn : kwNames kws = some ks)
    (hck : ckA tb c l (xs ++ kws.map (·.value)) = true) (nd : sel.Nodup) (hl : sel = [] ∨ ∀ q ∈ lendsOf l 0, q.2 ∈ sel) (hlt : ∀ j ∈ sel, j < xs.length + kws.length) (nb1 : (backs.map (·.1)).Nodup) (nb2 : (backs.map (·.2)).Nodup) (hb : backs = (lendsOf l 0).map fun q => (q.1, parOf sel q.2))
    (ia : PAK X xs kws (tIA X.K cf l)) (h1 : starEach xs X.env = xs.map fun x => (false, eval x X.env)) : PE X (.Call (.Name f p) xs kws pos) (tI X.K cf (.call f l sel backs)) := by
  have key : PE X (.Call (.Name f p) xs kws pos) (fun σ H Q => tIA X.K cf l σ H fun vs H1 => spD X.K (cf.call f) (selL vs sel) H1 Q E0) := by
    rcases (ok.calls _ hsh).ex with ⟨a, fd, ps, k, hm, hk, hr, F, hbind⟩ | ⟨C, g, fd, ps, hm, M, hks, ho, hF, hbind⟩
    rotate_left
    · refine call_pe (r := fun vs H Q => spD X.K (cf.call f) (selL vs sel) H Q E0) (gl_ok ok hgl) hm M.kp (plain_debug hpn) hn h1 ia fun pins s σ H vs us ws Q I rv l1 l2 h => ?_
      have hks' : ks = [] := hks
      subst hks'
      have hws : ws = [] := List.length_eq_zero_iff.mp l2
      subst hws
      rw [List.append_nil] at rv
      obtain ⟨as', fp', fz', r', outs', sl', dj', hcall', fin'⟩ := id h
      obtain ⟨k, hr, F⟩ := hF _ _ _ hcall'
      exact run_makeG M F hr ok.gd ho (fun s self hK => hbind s self us hK l1) I (vals_sel rv sel) h
    refine call_pe (r := fun vs H Q => spD X.K (cf.call f) (selL vs sel) H Q E0) (gl_ok ok hgl) hm hk (plain_debug hpn) hn h1 ia fun pins s σ H vs us ws Q I rv l1 l2 h => ?_
    exact run_fnG F hr ok.gd I (hbind s us ws I.kIn l1 l2) (vals_sel rv sel) h
  refine pe_imp key fun σ H Q ⟨ρ, fp, fz, d, ρ', s, dj, e, q⟩ => ?_
  simp only [ev] at e
  obtain ⟨as, ρ0, e0, ea⟩ := bind_inv e
  clear e
  split at ea
  · rename_i ys ρ1 hres
    split at ea
    · rename_i hbn
      split at ea
      · cases ea
      · rename_i v outs hcall
        cases ea
        refine ⟨ρ, fp, fz, as, ρ0, s, dj, e0, fun vs H1 f1 z1 f2 z2 al s1 d1 x1 n1 => ?_⟩
        obtain ⟨f3, z3, f4, z4, sa, ss, pf, pz, hno⟩ := resolve_ok al s1 hres
        obtain ⟨f5, z5, sb, lb⟩ := sel_ok sel nd sa
        have hqa : quiet (.call f l sel backs) = true → quiet l = true := fun h => (and_iff2 (by simpa only [quiet] using h)).1
        have d2 : Disj (f3 ++ f4) (z3 ++ z4) := d1.of pf.symm fun a m => pz.mem_iff.mp m
        have x2 : Ext (quiet (.call f l sel backs)) H fp fz H1 (f3 ++ f4) (z3 ++ z4) := (x1.weak hqa).perm pf.symm pz.symm
        have l2 := (Less.refl f4 z4).app lb
        have d3 : Disj (f4 ++ f5) (z4 ++ z5) := l2.disj (d2.of List.perm_append_comm fun a m => by simp only [List.mem_append] at m ⊢; exact m.symm)
        have x3 : Ext (quiet (.call f l sel backs)) H fp fz H1 (f4 ++ f5) (z4 ++ z5) := (x2.perm List.perm_append_comm List.perm_append_comm).less l2
        have t4 := ss.trk
        refine ⟨selL ys sel, f5, z5, d, outs, sb, d3.right, hcall, fun w H2 g1 y1 g2 y2 rw so d4 x4 => ?_⟩
        have ss' : SL X.K H2 σ ρ1 f4 z4 := SL.stay x4.stay ss d3.off1 d3.off2
        have dd : Disj (f4 ++ (g1 ++ g2)) (z4 ++ (y1 ++ y2)) := Ext.disj d3 t4.1 t4.2 x4 d4
        have xx0 : Ext false H fp fz H2 (f4 ++ (g1 ++ g2)) (z4 ++ (y1 ++ y2)) := Ext.trans (x3.weak fun h => nomatch h) x4
        have new5 : quiet (.call f l sel backs) = true → New H f5 := fun hq a m => by
          have hbe : backs = [] := List.isEmpty_iff.mp (and_iff2 (by simpa only [quiet] using hq)).2
          have hle : lendsOf l 0 = [] := by rw [hb] at hbe; exact List.map_eq_nil_iff.mp hbe
          have h31 := hno (evA_noln 0 e0 hle)
          exact n1 (hqa hq) a (h31 ▸ lb.fp a m)
        have xx : Ext (quiet (.call f l sel backs)) H fp fz H2 (f4 ++ (g1 ++ g2)) (z4 ++ (y1 ++ y2)) := by
          cases hq : quiet (.call f l sel backs) with
          | false => exact xx0
          | true =>
            have h5 := new5 hq
            rw [hq] at x3
            refine ⟨fun a o h _ => x4.stay a o (x3.stay a o h (fun m => absurd m List.not_mem_nil)) (fun m => ?_), xx0.fpx, xx0.fzx⟩
            have := h5 a (wset_sub a m)
            rw [h] at this; cases this
        have hbk : ∀ q ∈ backs, gt ρ1 q.1 = none ∧ gt outs q.2 = (outs[q.2]?).getD none ∧ ∃ w, σ[q.1]? = some (some w) ∧ (selL vs sel)[q.2]? = some w := fun q hq => by
          refine ⟨?_, gt_get _ _, ?_⟩
          · have := List.all_eq_true.mp hbn q hq
            simpa using this
          · rw [hb] at hq
            obtain ⟨q0, hq0, rfl⟩ := List.mem_map.mp hq
            obtain ⟨_, hq1⟩ := evA_lends 0 e0 q0 hq0
            obtain ⟨w, hw1, hw2⟩ := al_lend al q0.2 q0.1 (by simpa using hq1)
            refine ⟨w, hw2, sel_at nd (fun j hj => ?_) hw1 (hl.imp id fun h => h q0 hq0)⟩
            rw [al_len al, evA_len e0 hck]
            have := hlt j hj
            simpa using this
        obtain ⟨f6, z6, sf, lf⟩ := backs_ok backs ss' so nb1 nb2 hbk
        have perm : (f4 ++ (g1 ++ g2)).Perm (g1 ++ (g2 ++ f4)) := by
          refine List.perm_append_comm.trans ?_
          rw [List.append_assoc]
        have perz : (z4 ++ (y1 ++ y2)).Perm (y1 ++ (y2 ++ z4)) := by
          refine List.perm_append_comm.trans ?_
          rw [List.append_assoc]
        have l3 := (Less.refl g1 y1).app lf
        refine q w H2 g1 y1 f6 z6 rw sf (l3.disj (dd.of perm fun a m => perz.mem_iff.mpr m)) ((xx.perm perm perz).less l3) fun hq a m => ?_
        have h5 := new5 hq
        rw [hq] at x3
        rcases x4.fpx a (List.mem_append_left _ m) with h | h
        · exact h5 a h
        · exact x3.none h
      · cases ea
    · cases ea
  · cases ea
end
end Pi
/-! Pi13: methods that change a container. -/
namespace Pi
open PySem L2
theorem perm_cnt {l m : List Addr} (h : ∀ a, l.count a = m.count a) : l.Perm m := List.perm_iff_count.mpr h
theorem cnt_perm {l m : List Addr} (h : l.Perm m) (a : Addr) : l.count a = m.count a := h.count_eq a
theorem Less.by {fp fz fp' fz' : List Addr} (mv : List Addr) (h : ∀ a, fp'.count a + mv.count a = fp.count a) (hz : ∀ a ∈ fz', a ∈ fz ∨ a ∈ mv) : Less fp fz fp' fz' :=
  ⟨mv, perm_cnt fun a => by rw [List.count_append]; exact h a, hz⟩
theorem Less.trans {a1 b1 a2 b2 a3 b3 : List Addr} (l : Less a1 b1 a2 b2) (m : Less a2 b2 a3 b3) : Less a1 b1 a3 b3 := by
  obtain ⟨u, p, s⟩ := l
  obtain ⟨v, q, t⟩ := m
  refine .by (v ++ u) (fun a => ?_) fun a h => ?_
  · have := cnt_perm p a
    have := cnt_perm q a
    simp only [List.count_append] at *
    omega
  · rcases t a h with h | h
    · exact (s a h).imp id fun h => List.mem_append_right _ h
    · exact .inr (List.mem_append_left _ h)
theorem Less.perm {a b a' b' : List Addr} (p : a.Perm a') (q : b.Perm b') : Less a b a' b' := ⟨[], by simpa using p.symm, fun x m => .inl (q.mem_iff.mpr m)⟩
section
variable {K : PySem.W.Frag} {H H' : Hp}
theorem RepL.takeAt {n : Nat} : ∀ {ds : List D} {vs : List V} {f z : List Addr} (j : Nat) (y : D), RepL K H ds n vs f z → ds[j]? = some y →
    ∃ v fy zy f' z', vs[j]? = some v ∧ Rep K H y n v fy zy ∧ RepL K H (ds.eraseIdx j) n (vs.eraseIdx j) f' z' ∧ (fy ++ f').Perm f ∧ (zy ++ z').Perm z
  | [], vs, f, z, j, y, r, h => by simp at h
  | x :: ds, vs, f, z, 0, y, r, h => by
    simp only [RepL] at r
    obtain ⟨v, vs', g1, g2, y1, y2, rfl, rfl, rfl, r1, r2⟩ := r
    have hx : x = y := by simpa using h
    subst hx
    exact ⟨v, g1, y1, g2, y2, rfl, r1, by simpa using r2, .refl _, .refl _⟩
  | x :: ds, vs, f, z, j + 1, y, r, h => by
    simp only [RepL] at r
    obtain ⟨v, vs', g1, g2, y1, y2, rfl, rfl, rfl, r1, r2⟩ := r
    obtain ⟨w, fy, zy, f', z', a, b, c, p, q⟩ := RepL.takeAt j y r2 (by simpa using h)
    refine ⟨w, fy, zy, g1 ++ f', y1 ++ z', by simpa using a, b, ?_, perm_cnt fun x => ?_, perm_cnt fun x => ?_⟩
    · simp only [List.eraseIdx_cons_succ, RepL]
      exact ⟨v, _, g1, f', y1, z', rfl, rfl, rfl, r1, c⟩
    · have := cnt_perm p x
      simp only [List.count_append] at *
      omega
    · have := cnt_perm q x
      simp only [List.count_append] at *
      omega
theorem RepL.setAt {n : Nat} : ∀ {ds : List D} {vs : List V} {f z : List Addr} (j : Nat) {x : D} {v : V} {fx zx : List Addr}, RepL K H ds n vs f z → j < ds.length → Rep K H x n v fx zx →
    ∃ f' z', RepL K H (ds.set j x) n (vs.set j v) f' z' ∧ Less (fx ++ f) (zx ++ z) f' z'
  | [], vs, f, z, j, x, v, fx, zx, r, h, rx => by simp at h
  | y :: ds, vs, f, z, 0, x, v, fx, zx, r, h, rx => by
    simp only [RepL] at r
    obtain ⟨w, vs', g1, g2, y1, y2, rfl, rfl, rfl, r1, r2⟩ := r
    refine ⟨fx ++ g2, zx ++ y2, ?_, .by g1 (fun a => by simp only [List.count_append]; omega) fun a m => .inl ?_⟩
    · simp only [List.set_cons_zero, RepL]
      exact ⟨v, vs', fx, g2, zx, y2, rfl, rfl, rfl, rx, r2⟩
    · rcases List.mem_append.mp m with m | m <;> simp [m]
  | y :: ds, vs, f, z, j + 1, x, v, fx, zx, r, h, rx => by
    simp only [RepL] at r
    obtain ⟨w, vs', g1, g2, y1, y2, rfl, rfl, rfl, r1, r2⟩ := r
    obtain ⟨f', z', a, l⟩ := RepL.setAt j r2 (by simpa using h) rx
    obtain ⟨mv, p, s⟩ := l
    refine ⟨g1 ++ f', y1 ++ z', ?_, .by mv (fun a => ?_) fun a m => ?_⟩
    · simp only [List.set_cons_succ, RepL]
      exact ⟨w, _, g1, f', y1, z', rfl, rfl, rfl, r1, a⟩
    · have := cnt_perm p a
      simp only [List.count_append] at *
      omega
    · rcases List.mem_append.mp m with m | m
      · exact .inl (by simp [m])
      · rcases s a m with q | q
        · exact .inl (by rcases List.mem_append.mp q with q | q <;> simp [q])
        · exact .inr q
theorem RepK.put {n : Nat} : ∀ {l : List (Key × D)} {kvs : List (Key × V)} {f z : List Addr} (k : Key) {d : D} {v : V} {fv zv : List Addr}, RepK K H l n kvs f z → Rep K H d n v fv zv →
    ∃ f' z', RepK K H (putD l k d) n (putD kvs k v) f' z' ∧ Less (fv ++ f) (zv ++ z) f' z'
  | [], kvs, f, z, k, d, v, fv, zv, r, rv => by
    simp only [RepK] at r
    obtain ⟨rfl, rfl, rfl⟩ := r
    refine ⟨fv, zv, ?_, .perm (by simp) (by simp)⟩
    simp only [putD, RepK]
    exact ⟨v, [], fv, [], zv, [], rfl, by simp, by simp, rv, rfl, rfl, rfl⟩
  | (j, x) :: l, kvs, f, z, k, d, v, fv, zv, r, rv => by
    simp only [RepK] at r
    obtain ⟨w, vs', g1, g2, y1, y2, rfl, rfl, rfl, r1, r2⟩ := r
    by_cases hj : j = k
    · refine ⟨fv ++ g2, zv ++ y2, ?_, .by g1 (fun a => by simp only [List.count_append]; omega) fun a m => .inl ?_⟩
      · simp only [putD, if_pos hj, RepK]
        exact ⟨v, vs', fv, g2, zv, y2, rfl, rfl, rfl, rv, r2⟩
      · rcases List.mem_append.mp m with m | m <;> simp [m]
    · obtain ⟨f', z', a, mv, p, s⟩ := RepK.put k r2 rv
      refine ⟨g1 ++ f', y1 ++ z', ?_, .by mv (fun a => ?_) fun a m => ?_⟩
      · simp only [putD, if_neg hj, RepK]
        exact ⟨w, _, g1, f', y1, z', rfl, rfl, rfl, r1, a⟩
      · have := cnt_perm p a
        simp only [List.count_append] at *
        omega
      · rcases List.mem_append.mp m with m | m
        · exact .inl (by simp [m])
        · rcases s a m with q | q
          · exact .inl (by rcases List.mem_append.mp q with q | q <;> simp [q])
          · exact .inr q
theorem RepT.put {n : Nat} : ∀ {l : List (List Key × D)} {kvs : List (List Key × V)} {f z : List Addr} (k : List Key) {d : D} {v : V} {fv zv : List Addr}, RepT K H l n kvs f z → Rep K H d n v fv zv →
    ∃ f' z', RepT K H (putD l k d) n (putD kvs k v) f' z' ∧ Less (fv ++ f) (zv ++ z) f' z'
  | [], kvs, f, z, k, d, v, fv, zv, r, rv => by
    simp only [RepT] at r
    obtain ⟨rfl, rfl, rfl⟩ := r
    refine ⟨fv, zv, ?_, .perm (by simp) (by simp)⟩
    simp only [putD, RepT]
    exact ⟨v, [], fv, [], zv, [], rfl, by simp, by simp, rv, rfl, rfl, rfl⟩
  | (j, x) :: l, kvs, f, z, k, d, v, fv, zv, r, rv => by
    simp only [RepT] at r
    obtain ⟨w, vs', g1, g2, y1, y2, rfl, rfl, rfl, r1, r2⟩ := r
    by_cases hj : j = k
    · refine ⟨fv ++ g2, zv ++ y2, ?_, .by g1 (fun a => by simp only [List.count_append]; omega) fun a m => .inl ?_⟩
      · simp only [putD, if_pos hj, RepT]
        exact ⟨v, vs', fv, g2, zv, y2, rfl, rfl, rfl, rv, r2⟩
      · rcases List.mem_append.mp m with m | m <;> simp [m]
    · obtain ⟨f', z', a, mv, p, s⟩ := RepT.put k r2 rv
      refine ⟨g1 ++ f', y1 ++ z', ?_, .by mv (fun a => ?_) fun a m => ?_⟩
      · simp only [putD, if_neg hj, RepT]
        exact ⟨w, _, g1, f', y1, z', rfl, rfl, rfl, r1, a⟩
      · have := cnt_perm p a
        simp only [List.count_append] at *
        omega
      · rcases List.mem_append.mp m with m | m
        · exact .inl (by simp [m])
        · rcases s a m with q | q
          · exact .inl (by rcases List.mem_append.mp q with q | q <;> simp [q])
          · exact .inr q
/-- the value at a key, the rest beside it -/
theorem RepK.focus {n : Nat} : ∀ {l : List (Key × D)} {kvs : List (Key × V)} {f z : List Addr} (k : Key) {d : D}, RepK K H l n kvs f z → getK l k = some d →
    ∃ v fd zd f' z', valV kvs k = some v ∧ Rep K H d n v fd zd ∧ (fd ++ f').Perm f ∧ (zd ++ z').Perm z ∧
      ∀ (H' : Hp) (W : List Addr) (d' : D) (fd' zd' : List Addr), Stay W H H' → (∀ a ∈ f', a ∉ W) → (∀ a ∈ z', a ∉ W) → Rep K H' d' n v fd' zd' →
        ∃ f'' z'', RepK K H' (putD l k d') n kvs f'' z'' ∧ (fd' ++ f').Perm f'' ∧ (zd' ++ z').Perm z''
  | [], kvs, f, z, k, d, r, h => by simp [getK] at h
  | (j, x) :: l, kvs, f, z, k, d, r, h => by
    simp only [RepK] at r
    obtain ⟨w, vs', g1, g2, y1, y2, rfl, rfl, rfl, r1, r2⟩ := r
    by_cases hj : j = k
    · simp only [getK, if_pos hj, Option.some.injEq] at h
      subst h
      refine ⟨w, g1, y1, g2, y2, valV_pos hj, r1, .refl _, .refl _, fun H' W d' fd' zd' s h1 h2 r' => ⟨fd' ++ g2, zd' ++ y2, ?_, .refl _, .refl _⟩⟩
      simp only [putD, if_pos hj, RepK]
      exact ⟨w, vs', fd', g2, zd', y2, rfl, rfl, rfl, r', RepK.stay s _ _ _ _ _ r2 h1 h2⟩
    · simp only [getK, if_neg hj] at h
      obtain ⟨v, fd, zd, f', z', a, b, p, q, g⟩ := RepK.focus k r2 h
      refine ⟨v, fd, zd, g1 ++ f', y1 ++ z', by rw [valV_neg hj]; exact a, b, perm_cnt fun x => ?_, perm_cnt fun x => ?_, fun H' W d' fd' zd' s h1 h2 r' => ?_⟩
      · have := cnt_perm p x
        simp only [List.count_append] at *
        omega
      · have := cnt_perm q x
        simp only [List.count_append] at *
        omega
      · obtain ⟨f'', z'', c, p', q'⟩ := g H' W d' fd' zd' s (fun a m => h1 a (List.mem_append_right _ m)) (fun a m => h2 a (List.mem_append_right _ m)) r'
        refine ⟨g1 ++ f'', y1 ++ z'', ?_, perm_cnt fun x => ?_, perm_cnt fun x => ?_⟩
        · simp only [putD, if_neg hj, RepK]
          exact ⟨w, vs', g1, f'', y1, z'', rfl, rfl, rfl, Rep.stay s _ _ _ _ _ r1 (fun a m => h1 a (List.mem_append_left _ m)) (fun a m => h2 a (List.mem_append_left _ m)), c⟩
        · have := cnt_perm p' x
          simp only [List.count_append] at *
          omega
        · have := cnt_perm q' x
          simp only [List.count_append] at *
          omega
theorem RepK.app {n : Nat} : ∀ {l : List (Key × D)} {kvs : List (Key × V)} {f z : List Addr} (k : Key) {d : D} {v : V} {fv zv : List Addr}, RepK K H l n kvs f z → Rep K H d n v fv zv →
    RepK K H (l ++ [(k, d)]) n (kvs ++ [(k, v)]) (f ++ fv) (z ++ zv)
  | [], kvs, f, z, k, d, v, fv, zv, r, rv => by
    simp only [RepK] at r
    obtain ⟨rfl, rfl, rfl⟩ := r
    simp only [List.nil_append, RepK]
    exact ⟨v, [], fv, [], zv, [], rfl, by simp, by simp, rv, rfl, rfl, rfl⟩
  | (j, x) :: l, kvs, f, z, k, d, v, fv, zv, r, rv => by
    simp only [RepK] at r
    obtain ⟨w, vs', g1, g2, y1, y2, rfl, rfl, rfl, r1, r2⟩ := r
    simp only [List.cons_append, RepK]
    exact ⟨w, _, g1, g2 ++ fv, y1, y2 ++ zv, rfl, by simp, by simp, r1, RepK.app k r2 rv⟩
theorem stay_upd {p : Addr} {ob : HO} (W : List Addr) (h : H p ≠ none) (hm : Mut (H p)) : Stay (p :: W) H (upd H p ob) := by
  intro a o e n
  by_cases ha : a = p
  · subst ha
    exact absurd (by rw [e] at hm; exact hm) (n List.mem_cons_self)
  · rw [upd_ne ha]; exact e
theorem sl_nil {vs : List V} {f z : List Addr} (s : SL K H (vs.map some) (([] : List Sl).map some) f z) : vs = [] := by
  cases vs with
  | nil => rfl
  | cons v vs => exact s.elim
theorem sl_cons {vs : List V} {x : Sl} {xs : List Sl} {f z : List Addr} (s : SL K H (vs.map some) ((x :: xs).map some) f z) : ∃ v vs' f1 f2 z1 z2, vs = v :: vs' ∧ f = f1 ++ f2 ∧ z = z1 ++ z2 ∧ Rep K H x.1 x.2 v f1 z1 ∧ SL K H (vs'.map some) (xs.map some) f2 z2 := by
  cases vs with
  | nil => exact s.elim
  | cons v vs =>
    obtain ⟨w, f1, f2, z1, z2, e, e1, e2, r, s⟩ := s
    cases e
    exact ⟨v, vs, f1, f2, z1, z2, rfl, e1, e2, r, s⟩
theorem sl_nil2 {f z : List Addr} (s : SL K H (([] : List V).map some) (([] : List Sl).map some) f z) : f = [] ∧ z = [] := s
theorem sl_one {vs : List V} {x : Sl} {f z : List Addr} (s : SL K H (vs.map some) ([x].map some) f z) : ∃ v, vs = [v] ∧ Rep K H x.1 x.2 v f z := by
  obtain ⟨v, vs', f1, f2, z1, z2, rfl, rfl, rfl, r, s⟩ := sl_cons s
  obtain rfl := sl_nil s
  obtain ⟨rfl, rfl⟩ := sl_nil2 s
  exact ⟨v, rfl, by simpa using r⟩
theorem sl_two {vs : List V} {x y : Sl} {f z : List Addr} (s : SL K H (vs.map some) ([x, y].map some) f z) : ∃ v w f1 f2 z1 z2, vs = [v, w] ∧ f = f1 ++ f2 ∧ z = z1 ++ z2 ∧ Rep K H x.1 x.2 v f1 z1 ∧ Rep K H y.1 y.2 w f2 z2 := by
  obtain ⟨v, vs', f1, f2, z1, z2, rfl, rfl, rfl, r, s⟩ := sl_cons s
  obtain ⟨w, rfl, r2⟩ := sl_one s
  exact ⟨v, w, f1, f2, z1, z2, rfl, rfl, rfl, r, r2⟩
/-- owned containers -/
theorem Rep.ownL {l : List D} {n : Nat} {v : V} {f z : List Addr} (r : Rep K H (.lst l) (n + 1) v f z) : ∃ a vs g, v = .ref a ∧ H a = some (.lst vs) ∧ RepL K H l n vs g z ∧ f = a :: g := by
  simp only [Rep] at r
  obtain ⟨a, vs, g, y, e, r, q⟩ := r
  rcases q with ⟨h, _⟩ | ⟨_, q, e1, e2⟩
  · cases h
  · subst e2; exact ⟨a, vs, g, e, q, r, e1⟩
theorem Rep.ownK {l : List (Key × D)} {n : Nat} {v : V} {f z : List Addr} (r : Rep K H (.dk l) (n + 1) v f z) : ∃ a vs g, v = .ref a ∧ H a = some (.dK vs) ∧ RepK K H l n vs g z ∧ f = a :: g := by
  simp only [Rep] at r
  obtain ⟨a, vs, g, y, e, r, q⟩ := r
  rcases q with ⟨h, _⟩ | ⟨_, q, e1, e2⟩
  · cases h
  · subst e2; exact ⟨a, vs, g, e, q, r, e1⟩
theorem Rep.ownT {l : List (List Key × D)} {n : Nat} {v : V} {f z : List Addr} (r : Rep K H (.dt l) (n + 1) v f z) : ∃ a vs g, v = .ref a ∧ H a = some (.dT vs) ∧ RepT K H l n vs g z ∧ f = a :: g := by
  simp only [Rep] at r
  obtain ⟨a, vs, g, y, e, r, q⟩ := r
  rcases q with ⟨h, _⟩ | ⟨_, q, e1, e2⟩
  · cases h
  · subst e2; exact ⟨a, vs, g, e, q, r, e1⟩
theorem Rep.mkL {l : List D} {n : Nat} {a : Addr} {vs : List V} {g z : List Addr} (h : H a = some (.lst vs)) (r : RepL K H l n vs g z) : Rep K H (.lst l) (n + 1) (.ref a) (a :: g) z := by
  simp only [Rep]
  exact ⟨a, vs, g, z, rfl, r, .inr ⟨by simp, h, rfl, rfl⟩⟩
theorem Rep.mkK {l : List (Key × D)} {n : Nat} {a : Addr} {vs : List (Key × V)} {g z : List Addr} (h : H a = some (.dK vs)) (r : RepK K H l n vs g z) : Rep K H (.dk l) (n + 1) (.ref a) (a :: g) z := by
  simp only [Rep]
  exact ⟨a, vs, g, z, rfl, r, .inr ⟨by simp, h, rfl, rfl⟩⟩
theorem Rep.mkT {l : List (List Key × D)} {n : Nat} {a : Addr} {vs : List (List Key × V)} {g z : List Addr} (h : H a = some (.dT vs)) (r : RepT K H l n vs g z) : Rep K H (.dt l) (n + 1) (.ref a) (a :: g) z := by
  simp only [Rep]
  exact ⟨a, vs, g, z, rfl, r, .inr ⟨by simp, h, rfl, rfl⟩⟩
end
/-! ### the methods -/
section
variable {X : Cx} {tb : Tb} {cf : Cf} {c : CkC}
def rPopI : V → List V → Hp → VK → Prop := fun x vs H Q => ∃ l xs i k y, x = .ref l ∧ vs = [.int i] ∧ H l = some (.lst xs) ∧ ixN xs.length i = some k ∧ xs[k]? = some y ∧ Q y (upd H l (.lst (xs.eraseIdx k)))
theorem size_lt : sizeLine < 2 ^ 63 := by decide +kernel
theorem mt_popI : MtR X "list.pop" rPopI := by
  intro pins s σ H x xs v us Q I rx rv ⟨l, ys, i, k, y, e, e2, h, hk, hy, q⟩
  obtain ⟨h1, h2, h3, h4⟩ := ixN_seq hk
  have hz := (Inv.lstM I h).1
  have := size_lt
  exact mt_popAt pins s σ H x xs v us Q I rx rv ⟨l, ys, i, k, y, e, e2, h, by omega, by omega, h1, hy, q⟩
def rSd : V → List V → Hp → VK → Prop := fun x vs H Q => ∃ a kvs k d, x = .ref a ∧ vs = [kV k, d] ∧ H a = some (.dK kvs) ∧ ((∃ v, valV kvs k = some v ∧ Q v H) ∨ (valV kvs k = none ∧ kvs.length < sizeLine ∧ Q d (upd H a (.dK (kvs ++ [(k, d)])))))
theorem d_setd0 {pins : List (Addr × Obj)} {σ : St} {H : Hp} {s : Shared} {a : Addr} {u r : Value} {d v : V} {k : Key} {A : Around} {E : Value → Shared → Prop} {kvs : List (Key × V)} {Q : Value → Shared → Prop} (I : Inv X pins σ H s) (e : H a = some (.dK kvs)) (ry : RelV (kV k) u) (rd : RelV d r)
    (hv : valV kvs k = some v) (h1 : ∀ (w' : Value) (s' : Shared), Inv X pins σ H s' → RelV v w' → Q w' s') :
    wpAny (model X.prog X.w) A (call (.builtin "dict.setdefault") [.ref a, u, r]) Q E s := by
  obtain ⟨z, hd, vs, rel, dd⟩ := dk_of I.hok e
  have hz : vs.length ≤ sizeLine := by
    rw [← rel.length]
    exact z
  have q := rel.val k
  rw [hv] at q
  refine call_meetsIn PySem.F.slot_dict_setdefault dd.typeIs PySem.F.entry_dict_setdefault (PySem.F.args_dict_setdefault_3 _ _ _) (kt_meets_setdefault (mixKind X.prog X.w) a (kV_is ry) hd r) ⟨vs, dd, hz, fun w hw => ?_, fun hn => ?_⟩
  · rw [hw] at q
    exact h1 _ _ (I.tok _) q
  · rw [hn] at q
    exact (show False from q).elim
theorem mt_sd : MtR X "dict.setdefault" rSd := by
  intro pins s σ H x xs v us Q I rx rv ⟨a, kvs, k, d, e, e2, h, q⟩
  subst e e2
  obtain rfl : v = .ref a := rx
  obtain ⟨u, w, rfl, ru, rw'⟩ := vals2 rv
  rcases q with ⟨v0, hv, q⟩ | ⟨hv, hl, q⟩
  · exact d_setd0 I h ru rw' hv fun w' s' I' r' => ⟨_, H, I', r', q⟩
  · refine d_setd I h ru rw' hl (fun v e => by rw [hv] at e; cases e) fun _ w' s' I' r' => ⟨_, _, I', r', ?_⟩
    rw [putK_new _ hv]; exact q
def rMut : Mm → V → List V → Hp → VK → Prop
  | .append => rAppend
  | .pop => fun x vs H Q => rPop x vs H Q ∨ rPopI x vs H Q
  | .extend => rExtend
  | .setdefault => rSd
  | _ => fun _ _ _ _ => False
theorem mut_core {m : Mm} {d d' : D} {n : Nat} {v : Sl} {x : V} {f1 z1 : List Addr} {xs : List Sl} {vs : List V} {fa za : List Addr} {H : Hp} {Q : VK} (r : Rep X.K H d (n + 1) x f1 z1) (s : SL X.K H (vs.map some) (xs.map some) fa za) (dj : Disj (fa ++ f1) (za ++ z1)) (e : mutD m d (n + 1) xs = some (v, d'))
    (k : ∀ u H' fv zv f1' z1', Stay f1 H H' → Rep X.K H' v.1 v.2 u fv zv → Rep X.K H' d' (n + 1) x f1' z1' → Less (fa ++ f1) (za ++ z1) (fv ++ f1') (zv ++ z1') → Q u H') : rMut m x vs H Q := by
  unfold mutD at e
  split at e
  · -- append
    rename_i ys s0
    simp only [Nat.add_sub_cancel] at e
    split at e
    · rename_i hc
      simp only [Bool.and_eq_true, decide_eq_true_eq] at hc
      cases e
      obtain ⟨a, ws, g, rfl, hp, rl, rfl⟩ := r.ownL
      obtain ⟨w, rfl, rw0⟩ := sl_one s
      obtain ⟨fa', za', rw1, l1⟩ := Rep.hasd hc.2 rw0
      have st : Stay (a :: g) H (upd H a (.lst (ws ++ [w]))) := stay_upd g (by rw [hp]; simp) (by rw [hp]; exact trivial)
      have st' : Stay [a] H (upd H a (.lst (ws ++ [w]))) := stay_upd [] (by rw [hp]; simp) (by rw [hp]; exact trivial)
      have nd := List.nodup_append.mp dj.1
      have ng := List.nodup_cons.mp nd.2.1
      have rl' := RepL.stay st' _ _ _ _ _ rl (fun b m h => by rw [List.mem_singleton.mp h] at m; exact ng.1 m) (fun b m h => by rw [List.mem_singleton.mp h] at m; exact dj.2 a (by simp) (by simp [m]))
      have rw2 := Rep.stay st' _ _ _ _ _ rw1 (fun b m h => by rw [List.mem_singleton.mp h] at m; exact nd.2.2 a (l1.fp a m) a (by simp) rfl)
        (fun b m h => by
          rw [List.mem_singleton.mp h] at m
          rcases l1.fz a m with m | m
          · exact dj.2 a (by simp) (by simp [m])
          · exact nd.2.2 a m a (by simp) rfl)
      refine ⟨a, ws, w, rfl, rfl, hp, by rw [RepL.len rl]; exact hc.1, k .non _ [] [] (a :: (g ++ fa')) (z1 ++ za') st (by simp [Rep]) (Rep.mkL upd_same (RepL.app rl' ?_)) ?_⟩
      · simp only [RepL]
        exact ⟨w, [], fa', [], za', [], rfl, by simp, by simp, rw2, rfl, rfl, rfl⟩
      · obtain ⟨mv, p, sz⟩ := l1
        refine .by mv (fun b => ?_) fun b m => ?_
        · have := cnt_perm p b
          simp only [List.count_append, List.count_cons, List.count_nil, List.nil_append] at *
          omega
        · rcases List.mem_append.mp m with m | m
          · cases m
          · rcases List.mem_append.mp m with m | m
            · exact .inl (by simp [m])
            · exact (sz b m).imp (fun m => by simp [m]) id
    · cases e
  · -- pop()
    rename_i ys
    simp only [Option.map_eq_some_iff, Nat.add_sub_cancel] at e
    obtain ⟨y, hy, e⟩ := e
    cases e
    obtain ⟨a, ws, g, rfl, hp, rl, rfl⟩ := r.ownL
    obtain rfl := sl_nil s
    obtain ⟨rfl, rfl⟩ := sl_nil2 s
    obtain ⟨w, fy, zy, f', z', hw, ry, rl2, p, q⟩ := RepL.takeAt _ y rl hy
    have hl := RepL.len rl
    have st : Stay (a :: g) H (upd H a (.lst ws.dropLast)) := stay_upd g (by rw [hp]; simp) (by rw [hp]; exact trivial)
    have st' : Stay [a] H (upd H a (.lst ws.dropLast)) := stay_upd [] (by rw [hp]; simp) (by rw [hp]; exact trivial)
    have ng := List.nodup_cons.mp (by simpa using dj.1)
    have nz : a ∉ z1 := fun m => dj.2 a (by simp) (by simpa using m)
    have rl' := RepL.stay st' _ _ _ _ _ rl2 (fun b m h => by rw [List.mem_singleton.mp h] at m; exact ng.1 (p.mem_iff.mp (by simp [m]))) (fun b m h => by rw [List.mem_singleton.mp h] at m; exact nz (q.mem_iff.mp (by simp [m])))
    have ry' := Rep.stay st' _ _ _ _ _ ry (fun b m h => by rw [List.mem_singleton.mp h] at m; exact ng.1 (p.mem_iff.mp (by simp [m]))) (fun b m h => by rw [List.mem_singleton.mp h] at m; exact nz (q.mem_iff.mp (by simp [m])))
    refine .inl ⟨a, ws, w, rfl, rfl, hp, by rw [hl]; exact hw, k w _ fy zy (a :: f') z' st ry' (Rep.mkL upd_same ?_) ?_⟩
    · have e1 : ys.dropLast = ys.eraseIdx (ys.length - 1) := (List.eraseIdx_length_sub_one).symm
      have e2 : ws.dropLast = ws.eraseIdx (ys.length - 1) := by rw [← hl]; exact (List.eraseIdx_length_sub_one).symm
      rw [e1]; rw [e2] at rl' ⊢
      exact rl'
    · refine .by [] (fun b => ?_) fun b m => .inl ?_
      · have := cnt_perm p b
        simp only [List.count_append, List.count_cons, List.count_nil, List.nil_append] at *
        omega
      · simpa using q.mem_iff.mp m
  · -- pop(i)
    rename_i ys i k0
    split at e
    · rename_i j hj
      simp only [Option.map_eq_some_iff, Nat.add_sub_cancel] at e
      obtain ⟨y, hy, e⟩ := e
      cases e
      obtain ⟨a, ws, g, rfl, hp, rl, rfl⟩ := r.ownL
      obtain ⟨w0, rfl, r0⟩ := sl_one s
      have h0 := r0.toInt
      subst h0
      have hfz : fa = [] ∧ za = [] := by simp only [Rep] at r0; exact ⟨r0.2.1, r0.2.2⟩
      obtain ⟨rfl, rfl⟩ := hfz
      obtain ⟨w, fy, zy, f', z', hw, ry, rl2, p, q⟩ := RepL.takeAt _ y rl hy
      have hl := RepL.len rl
      have st : Stay (a :: g) H (upd H a (.lst (ws.eraseIdx j))) := stay_upd g (by rw [hp]; simp) (by rw [hp]; exact trivial)
      have st' : Stay [a] H (upd H a (.lst (ws.eraseIdx j))) := stay_upd [] (by rw [hp]; simp) (by rw [hp]; exact trivial)
      have ng := List.nodup_cons.mp (by simpa using dj.1)
      have nz : a ∉ z1 := fun m => dj.2 a (by simp) (by simpa using m)
      have rl' := RepL.stay st' _ _ _ _ _ rl2 (fun b m h => by rw [List.mem_singleton.mp h] at m; exact ng.1 (p.mem_iff.mp (by simp [m]))) (fun b m h => by rw [List.mem_singleton.mp h] at m; exact nz (q.mem_iff.mp (by simp [m])))
      have ry' := Rep.stay st' _ _ _ _ _ ry (fun b m h => by rw [List.mem_singleton.mp h] at m; exact ng.1 (p.mem_iff.mp (by simp [m]))) (fun b m h => by rw [List.mem_singleton.mp h] at m; exact nz (q.mem_iff.mp (by simp [m])))
      refine .inr ⟨a, ws, i, j, w, rfl, rfl, hp, by rw [hl]; exact hj, hw, k w _ fy zy (a :: f') z' st ry' (Rep.mkL upd_same rl') ?_⟩
      refine .by [] (fun b => ?_) fun b m => .inl ?_
      · have := cnt_perm p b
        simp only [List.count_append, List.count_cons, List.count_nil, List.nil_append] at *
        omega
      · simpa using q.mem_iff.mp m
    · cases e
  · -- extend
    rename_i ys zs k0
    split at e
    · rename_i hc
      cases e
      simp only [Bool.and_eq_true, decide_eq_true_eq, Bool.or_eq_true, beq_iff_eq] at hc
      obtain ⟨a, ws, g, rfl, hp, rl, rfl⟩ := r.ownL
      obtain ⟨w0, rfl, r0⟩ := sl_one s
      have h2 : ∃ b us fb zb, w0 = .ref b ∧ H b = some (.lst us) ∧ RepL X.K H zs n us fb zb ∧ Less fa za fb zb := by
        simp only [Rep] at r0
        obtain ⟨b, us, f, z, e, rq, q⟩ := r0
        have hq : H b = some (.lst us) ∧ Less fa za f z := by
          rcases q with ⟨_, q, e1, e2⟩ | ⟨_, q, e1, e2⟩
          · refine ⟨q, ?_⟩
            rw [e1, e2]
            exact .by [] (fun x => by simp) fun x m => .inl (by simp [m])
          · refine ⟨q, ?_⟩
            rw [e1, e2]
            exact .by [b] (fun x => by simp only [List.count_cons, List.count_nil]; omega) fun x m => .inl m
        have hk : ∃ fb zb, RepL X.K H zs n us fb zb ∧ Less f z fb zb := by
          rcases hc.2 with (h | h) | h
          · have hn : n = 0 := by omega
            subst hn
            exact RepL.less zs _ 0 us f z (by omega) rq
          · exact RepL.less zs _ n us f z (by omega) rq
          · obtain ⟨rfl, rfl, ri⟩ := RepL.imm zs _ n us f z h rq
            exact ⟨[], [], ri, .refl _ _⟩
        obtain ⟨fb, zb, rb, lb⟩ := hk
        exact ⟨b, us, fb, zb, e, hq.1, rb, hq.2.trans lb⟩
      obtain ⟨b, us, fb, zb, rfl, hb, rb, l1⟩ := h2
      have st : Stay (a :: g) H (upd H a (.lst (ws ++ us))) := stay_upd g (by rw [hp]; simp) (by rw [hp]; exact trivial)
      have st' : Stay [a] H (upd H a (.lst (ws ++ us))) := stay_upd [] (by rw [hp]; simp) (by rw [hp]; exact trivial)
      have nd := List.nodup_append.mp dj.1
      have ng := List.nodup_cons.mp nd.2.1
      have rl' := RepL.stay st' _ _ _ _ _ rl (fun b m h => by rw [List.mem_singleton.mp h] at m; exact ng.1 m) (fun b m h => by rw [List.mem_singleton.mp h] at m; exact dj.2 a (by simp) (by simp [m]))
      have rb' := RepL.stay st' _ _ _ _ _ rb (fun b m h => by rw [List.mem_singleton.mp h] at m; exact nd.2.2 a (l1.fp a m) a (by simp) rfl)
        (fun b m h => by
          rw [List.mem_singleton.mp h] at m
          rcases l1.fz a m with m | m
          · exact dj.2 a (by simp) (by simp [m])
          · exact nd.2.2 a m a (by simp) rfl)
      refine ⟨a, b, ws, us, rfl, rfl, hp, hb, by rw [RepL.len rl, RepL.len rb]; exact hc.1, k .non _ [] [] (a :: (g ++ fb)) (z1 ++ zb) st (by simp [Rep]) (Rep.mkL upd_same (RepL.app rl' rb')) ?_⟩
      obtain ⟨mv, p, sz⟩ := l1
      refine .by mv (fun b => ?_) fun b m => ?_
      · have := cnt_perm p b
        simp only [List.count_append, List.count_cons, List.count_nil, List.nil_append] at *
        omega
      · rcases List.mem_append.mp m with m | m
        · cases m
        · rcases List.mem_append.mp m with m | m
          · exact .inl (by simp [m])
          · exact (sz b m).imp (fun m => by simp [m]) id
    · cases e
  · -- setdefault
    rename_i kvs k0 n0 x0
    split at e
    · rename_i kk hk
      obtain ⟨a, ws, g, rfl, hp, rk, rfl⟩ := r.ownK
      obtain ⟨w1, w2, g1, g2, y1, y2, rfl, rfl, rfl, ra, rb⟩ := sl_two s
      obtain ⟨za', ra', _⟩ := ra.frz
      obtain rfl := key_rep ra' hk
      split at e
      · rename_i y hy
        split at e
        · rename_i hn
          have hn : n = 0 := by simpa using hn
          subst hn
          cases e
          have hg : g = [] := RepK.zero _ _ _ _ rk
          subst hg
          obtain ⟨v0, z', hv, rv, hz⟩ := RepK.at0 rk kk y hy
          refine ⟨a, ws, kk, w2, rfl, rfl, hp, .inl ⟨v0, hv, k v0 H [] z' [a] z1 (.refl _ _) rv (Rep.mkK hp rk) ?_⟩⟩
          refine .by (g1 ++ g2) (fun b => by simp only [List.count_append, List.nil_append]; omega) fun b m => .inl ?_
          rcases List.mem_append.mp m with m | m
          · simp [hz b m]
          · simp [m]
        · cases e
      · rename_i hy
        split at e
        · rename_i hc
          simp only [Bool.and_eq_true, decide_eq_true_eq] at hc
          cases e
          obtain ⟨rfl, rfl, rb'⟩ := Rep.imm _ _ n _ _ _ hc.2 rb
          have hv : valV ws kk = none := by
            rcases RepK.val rk kk with ⟨_, b⟩ | ⟨d, v, a, _⟩
            · exact b
            · rw [hy] at a; cases a
          have st : Stay (a :: g) H (upd H a (.dK (ws ++ [(kk, w2)]))) := stay_upd g (by rw [hp]; simp) (by rw [hp]; exact trivial)
          have st' : Stay [a] H (upd H a (.dK (ws ++ [(kk, w2)]))) := stay_upd [] (by rw [hp]; simp) (by rw [hp]; exact trivial)
          have nd := List.nodup_append.mp dj.1
          have ng := List.nodup_cons.mp nd.2.1
          have rk' := RepK.stay st' _ _ _ _ _ rk (fun b m h => by rw [List.mem_singleton.mp h] at m; exact ng.1 m) (fun b m h => by rw [List.mem_singleton.mp h] at m; exact dj.2 a (by simp) (by simp [m]))
          have rb2 := Rep.stay st' _ _ _ _ _ rb' (by simp) (by simp)
          obtain ⟨_, _, rb3⟩ := Rep.imm _ _ 0 _ _ _ hc.2 rb2
          refine ⟨a, ws, kk, w2, rfl, rfl, hp, .inr ⟨hv, by rw [RepK.len rk]; exact hc.1, k w2 _ [] [] (a :: (g ++ [])) (z1 ++ []) st rb3 (Rep.mkK upd_same (RepK.app kk rk' rb2)) ?_⟩⟩
          refine .by g1 (fun b => by simp only [List.count_append, List.count_cons, List.count_nil, List.nil_append, List.append_nil]; omega) fun b m => .inl ?_
          simp only [List.nil_append, List.append_nil] at m
          simp [m]
        · cases e
    · cases e
  · cases e
end
end Pi
/-! Pi14: o.append(..) and the like. -/
namespace Pi
open PySem L2
section
variable {K : PySem.W.Frag} {cf : Cf} {σ : St} {H H1 H2 : Hp} {ρ ρ1 : Env} {fp fz : List Addr}
theorem Ext.mut {F1 Z1 F2 Z2 W : List Addr} (x : Ext false H fp fz H1 F1 Z1) (s : Stay W H1 H2) (hW : ∀ a ∈ W, a ∈ F1) (l : Less F1 Z1 F2 Z2) : Ext false H fp fz H2 F2 Z2 := by
  have y : Ext false H fp fz H2 F1 Z1 := by
    refine ⟨fun a o h n => ?_, x.fpx, x.fzx⟩
    refine s a o (x.stay a o h n) fun m => ?_
    rcases x.fpx a (hW a m) with q | q
    · exact n q
    · rw [h] at q; cases q
  exact y.less l
/-- a slot's container is written: the slots behind it -/
theorem mut_sl {i n : Nat} {d' : D} {v : V} {f1 z1 f2 z2 g1 y1 g2 y2 f1' z1' fv zv : List Addr} (sr : SL K H1 σ (st ρ1 i none) g2 y2) (hσ : σ[i]? = some (some v)) (p1 : (g1 ++ g2).Perm f2) (p2 : (y1 ++ y2).Perm z2) (dj : Disj (f1 ++ f2) (z1 ++ z2))
    (x : Ext false H fp fz H1 (f1 ++ f2) (z1 ++ z2)) (s : Stay g1 H1 H2) (rd : Rep K H2 d' n v f1' z1') (l : Less (f1 ++ g1) (z1 ++ y1) (fv ++ f1') (zv ++ z1')) :
    ∃ F Z, SL K H2 σ (st ρ1 i (some (d', n))) F Z ∧ Disj (fv ++ F) (zv ++ Z) ∧ Ext false H fp fz H2 (fv ++ F) (zv ++ Z) := by
  have nd := List.nodup_append.mp (p1.nodup_iff.mpr dj.right.1)
  have sr' := SL.stay s sr (fun a m m' => nd.2.2 a m' a m rfl) (fun a m m' => dj.2 a (List.mem_append_right _ (p1.mem_iff.mp (List.mem_append_left _ m'))) (List.mem_append_right _ (p2.mem_iff.mp (List.mem_append_right _ m))))
  obtain ⟨F, Z, sF, q1, q2⟩ := SL.fill sr' hσ rd
  have L : Less (f1 ++ f2) (z1 ++ z2) (fv ++ F) (zv ++ Z) := by
    obtain ⟨mv, p, sz⟩ := l
    refine .by mv (fun a => ?_) fun a m => ?_
    · have h1 := cnt_perm p a
      have h2 := cnt_perm q1 a
      have h3 := cnt_perm p1 a
      simp only [List.count_append] at *
      omega
    · have h : a ∈ zv ++ z1' ∨ a ∈ y2 := by
        rcases List.mem_append.mp m with m | m
        · exact .inl (List.mem_append_left _ m)
        · rcases List.mem_append.mp (q2.mem_iff.mpr m) with m | m
          · exact .inl (List.mem_append_right _ m)
          · exact .inr m
      rcases h with h | h
      · rcases sz a h with h | h
        · refine .inl ?_
          rcases List.mem_append.mp h with h | h
          · exact List.mem_append_left _ h
          · exact List.mem_append_right _ (p2.mem_iff.mp (List.mem_append_left _ h))
        · exact .inr h
      · exact .inl (List.mem_append_right _ (p2.mem_iff.mp (List.mem_append_right _ h)))
  exact ⟨F, Z, sF, L.disj dj, x.mut s (fun a m => List.mem_append_right _ (p1.mem_iff.mp (List.mem_append_left _ m))) L⟩
theorem mut_dj {f1 z1 f2 z2 g1 y1 g2 y2 : List Addr} (p1 : (g1 ++ g2).Perm f2) (p2 : (y1 ++ y2).Perm z2) (dj : Disj (f1 ++ f2) (z1 ++ z2)) : Disj (f1 ++ g1) (z1 ++ y1) :=
  Less.disj (Less.by g2 (fun a => by have := cnt_perm p1 a; simp only [List.count_append] at *; omega) fun a m => .inl ((List.mem_append.mp m).elim (fun m => List.mem_append_left _ m) fun m => List.mem_append_right _ (p2.mem_iff.mp (List.mem_append_left _ m)))) dj
end
section
variable {X : Cx} {tb : Tb} {cf : Cf} {c : CkC}
theorem pe_none {e : Expr} : PE X e (fun _ _ _ => False) := ⟨fun _ _ _ _ _ _ h => h.elim⟩
def mmT : Mm → String
  | .setdefault => "dict"
  | _ => "list"
def mmId : Mm → String
  | .append => "list.append" | .pop => "list.pop" | .extend => "list.extend" | .insert => "list.insert" | .remove => "list.remove" | .setdefault => "dict.setdefault"
theorem mm_pe {m : Mm} {o : Expr} {es : List Expr} {to : TE} {t : TA} {apos cpos : Pos} (ho : PE X o to) (ha : PA X es t) (hnc : ∀ f a k p, o ≠ .Call f a k p) (hline : (apos.endLine == cpos.line) = true) (h1 : starEach es X.env = es.map fun x => (false, eval x X.env)) (hl : es.length < 20) (hm : m ≠ .insert ∧ m ≠ .remove) :
    PE X (.Call (.Attribute o (ck.mmName m) apos) es [] cpos) (tMth X (mmT m) (rMut m) to t) := by
  cases m
  · exact meth_pe PySem.F.plainAttrs_list PySem.F.slot_list_append PySem.F.type_list_append mt_append ho ha hnc hline h1 hl
  · exact meth_pe PySem.F.plainAttrs_list PySem.F.slot_list_pop PySem.F.type_list_pop (MtR.or (show MtR X "list.pop" rPop from mt_pop) mt_popI) ho ha hnc hline h1 hl
  · exact meth_pe PySem.F.plainAttrs_list PySem.F.slot_list_extend PySem.F.type_list_extend mt_extend ho ha hnc hline h1 hl
  · exact absurd rfl hm.1
  · exact absurd rfl hm.2
  · exact meth_pe PySem.F.plainAttrs_dict PySem.F.slot_dict_setdefault PySem.F.type_dict_setdefault mt_sd ho ha hnc hline h1 hl
theorem mm_not {m : Mm} (d : D) (n : Nat) (xs : List Sl) (h : m = .insert ∨ m = .remove) : mutD m d n xs = none := by
  rcases h with rfl | rfl <;> rfl
theorem knd_tyG {m : Mm} {d : D} {n : Nat} {v : V} {H : Hp} {f z : List Addr} (r : Rep X.K H d n v f z) (h : kndD (some (d, n)) = mmK m) : tyG X (mmT m) v H := by
  have hl : ∀ l, d = .lst l → tyG X "list" v H := by
    rintro l rfl
    obtain ⟨z', r', _⟩ := r.frz
    obtain ⟨a, vs, _, rfl, h, _⟩ := r'.toLst
    exact tyG_list rfl h
  have hk : ∀ l, d = .dk l → tyG X "dict" v H := by
    rintro l rfl
    obtain ⟨z', r', _⟩ := r.frz
    obtain ⟨a, vs, _, rfl, h, _⟩ := r'.toDk
    exact tyG_dict rfl (.inl ⟨vs, h⟩)
  cases m <;> cases d <;> first | exact hl _ rfl | exact hk _ rfl | (simp [kndD, mmK] at h)
theorem mutv_pe (ok : XOk X tb cf c) {m : Mm} {i : Nat} {l : Ex} {x : Str} {xs : List Expr} {p apos cpos : Pos} (hx : ckVar c i x = true) (il : PA X xs (tIA X.K cf l)) (hline : (apos.endLine == cpos.line) = true) (h1 : starEach xs X.env = xs.map fun x => (false, eval x X.env)) (hl : xs.length < 20) :
    PE X (.Call (.Attribute (.Name x p) (ck.mmName m) apos) xs [] cpos) (tI X.K cf (.mutv m i l)) := by
  by_cases hm : m = .insert ∨ m = .remove
  · refine pe_imp pe_none fun σ H Q ⟨ρ, fp, fz, d, ρ', s, dj, e, q⟩ => ?_
    simp only [ev] at e
    split at e
    · cases e
    · obtain ⟨ys, ρ2, e2, eb⟩ := bind_inv e
      split at eb
      · rw [mm_not _ _ _ hm] at eb; cases eb
      · cases eb
  · have hm2 : m ≠ .insert ∧ m ≠ .remove := ⟨fun h => hm (.inl h), fun h => hm (.inr h)⟩
    refine pe_imp (mm_pe (ckVar_ok ok hx) il (fun _ _ _ _ h => by cases h) hline h1 hl hm2) fun σ H Q ⟨ρ, fp, fz, d, ρ', s, dj, e, q⟩ => ?_
    simp only [ev] at e
    split at e
    · cases e
    rename_i hk
    have hk : kndD (gt ρ i) = mmK m := by simpa using hk
    obtain ⟨ys, ρ1, e2, eb⟩ := bind_inv e
    obtain ⟨as, ρ0, e0, ec⟩ := bind_inv e2
    clear e e2
    obtain ⟨hv, h0⟩ := of_inv ec
    subst h0
    split at eb
    · rename_i d1 n1 hg
      split at eb
      · rename_i u d' hmu
        cases eb
        have hs : ∃ d0 n0, gt ρ i = some (d0, n0) := by
          cases h : gt ρ i with
          | none => rw [h] at hk; cases m <;> simp [kndD, mmK] at hk
          | some s => exact ⟨s.1, s.2, rfl⟩
        obtain ⟨d0, n0, hg0⟩ := hs
        obtain ⟨v, _, _, _, _, hσ, r0, _⟩ := SL.take s hg0
        rw [hg0] at hk
        refine ⟨v, hσ, knd_tyG r0 hk, ρ, fp, fz, as, _, s, dj, e0, fun vs H1 f1 z1 f2 z2 al s2 d2 x2 _ => ?_⟩
        have sv := vals_al hv al
        obtain ⟨v', g1, g2, y1, y2, hσ', r1, sr, p1, p2⟩ := SL.take s2 hg
        rw [hσ] at hσ'
        cases hσ'
        refine mut_core r1 sv (mut_dj p1 p2 d2) hmu fun w H2 fv zv f1' z1' hst rw' rd' lss => ?_
        obtain ⟨F, Z, sF, dF, xF⟩ := mut_sl sr hσ p1 p2 d2 (x2.weak fun h => by cases h) hst rd' lss
        exact q w H2 fv zv F Z rw' sF dF xF (fun h => by cases h)
      · cases eb
    · cases eb
theorem mutk_pe (ok : XOk X tb cf c) {m : Mm} {i : Nat} {key : Str} {l : Ex} {x : Str} {xs : List Expr} {p apos cpos pk ps : Pos} {uk : Nat} (hx : ckVar c i x = true) (il : PA X xs (tIA X.K cf l)) (hq : quiet l = true) (hline : (apos.endLine == cpos.line) = true) (h1 : starEach xs X.env = xs.map fun x => (false, eval x X.env)) (hl : xs.length < 20) :
    PE X (.Call (.Attribute (.Subscript (.Name x p) (.Constant (.str key) uk pk) ps) (ck.mmName m) apos) xs [] cpos) (tI X.K cf (.mutk m i key l)) := by
  by_cases hm : m = .insert ∨ m = .remove
  · refine pe_imp pe_none fun σ H Q ⟨ρ, fp, fz, d, ρ', s, dj, e, q⟩ => ?_
    simp only [ev] at e
    split at e
    · cases e
    · obtain ⟨ys, ρ2, e2, eb⟩ := bind_inv e
      split at eb
      · split at eb
        · rw [mm_not _ _ _ hm] at eb; cases eb
        · cases eb
      · cases eb
  · have hm2 : m ≠ .insert ∧ m ≠ .remove := ⟨fun h => hm (.inl h), fun h => hm (.inr h)⟩
    have hrec : PE X (.Subscript (.Name x p) (.Constant (.str key) uk pk) ps) _ := pe_ix (ix_dict (by have := ok.hu; omega)) (ckVar_ok ok hx) pe_str (notSl_ok rfl)
    refine pe_imp (mm_pe hrec il (fun _ _ _ _ h => by cases h) hline h1 hl hm2) fun σ H Q ⟨ρ, fp, fz, d, ρ', s, dj, e, q⟩ => ?_
    simp only [ev] at e
    split at e
    · cases e
    rename_i hk
    have hk : kndK (gt ρ i) key = mmK m := by simpa using hk
    obtain ⟨ys, ρ1, e2, eb⟩ := bind_inv e
    obtain ⟨as, ρ0, e0, ec⟩ := bind_inv e2
    clear e e2
    obtain ⟨hv, h0⟩ := of_inv ec
    subst h0
    split at eb
    · rename_i kvs1 n1 hg
      split at eb
      · rename_i d1 hd1
        split at eb
        · rename_i u d' hmu
          cases eb
          have hs : ∃ kvs0 n0 d0, gt ρ i = some (.dk kvs0, n0) ∧ getK kvs0 (.inr key) = some d0 ∧ kndD (some (d0, 0)) = mmK m := by
            unfold kndK at hk
            split at hk
            · rename_i kvs0 n0 hg0 _ _
              split at hk
              · rename_i d0 hd0
                exact ⟨kvs0, n0, d0, hg0, hd0, hk⟩
              · cases m <;> simp [mmK] at hk
            · cases m <;> simp [mmK] at hk
          obtain ⟨kvs0, n0, d0, hg0, hd0, hk0⟩ := hs
          obtain ⟨v, _, _, _, _, hσ, r0, _⟩ := SL.take s hg0
          obtain ⟨z0, r0', _⟩ := r0.frz
          obtain ⟨a, ws, z0', rfl, hRd, rk0, _⟩ := r0'.toDk
          obtain ⟨w0, z2', hw0, rw0, _⟩ := RepK.at0 rk0 (.inr key) d0 hd0
          refine ⟨.ref a, hσ, a, w0, rfl, .inl ⟨ws, .inr key, hRd, rfl, hw0.symm⟩, knd_tyG rw0 hk0, ρ, fp, fz, as, _, s, dj, e0, fun vs H1 f1 z1 f2 z2 al s2 d2 x2 _ => ?_⟩
          have sv := vals_al hv al
          obtain ⟨v', g1, g2, y1, y2, hσ', r1, sr, p1, p2⟩ := SL.take s2 hg
          rw [hσ] at hσ'
          cases hσ'
          rw [hq] at x2
          obtain ⟨a', ws', g, ha', hH1, rk1, rfl⟩ := r1.ownK
          cases ha'
          have hRd1 : Rd H1 a (.dK ws) := x2.stay.rd hRd (fun m => absurd m List.not_mem_nil)
          have hww : ws' = ws := by
            rcases hRd1 with h | ⟨o, h⟩
            · rw [hH1] at h; cases h; rfl
            · rw [hH1] at h; cases h
          subst hww
          obtain ⟨v2, fd, zd, f', z', hv2, rd, q1, q2, foc⟩ := RepK.focus (.inr key) rk1 hd1
          rw [hw0] at hv2
          cases hv2
          have d3 := mut_dj p1 p2 d2
          have nd3 := List.nodup_cons.mp (List.nodup_append.mp d3.1).2.1
          have L0 : Less (f1 ++ (a :: g)) (z1 ++ y1) (f1 ++ fd) (z1 ++ zd) := .by (a :: f') (fun b => by have := cnt_perm q1 b; simp only [List.count_append, List.count_cons] at *; omega)
            fun b m => .inl ((List.mem_append.mp m).elim (fun m => List.mem_append_left _ m) fun m => List.mem_append_right _ (q2.mem_iff.mp (List.mem_append_left _ m)))
          refine mut_core rd sv (L0.disj d3) hmu fun w H2 fv zv f1' z1' hst rw' rd' lss => ?_
          have ndg := List.nodup_append.mp (q1.nodup_iff.mpr nd3.2)
          have dz : ∀ b ∈ a :: g, b ∉ y1 := fun b m m' => d3.2 b (List.mem_append_right _ m) (List.mem_append_right _ m')
          obtain ⟨f'', z'', rk2, q3, q4⟩ := foc H2 fd d' f1' z1' hst (fun b m m' => ndg.2.2 b m' b m rfl) (fun b m m' => dz b (List.mem_cons_of_mem _ (q1.mem_iff.mp (List.mem_append_left _ m'))) (q2.mem_iff.mp (List.mem_append_right _ m))) rd'
          have hH2 : H2 a = some (.dK ws') := hst a _ hH1 fun m => absurd (q1.mem_iff.mp (List.mem_append_left _ m)) nd3.1
          have lss2 : Less (f1 ++ (a :: g)) (z1 ++ y1) (fv ++ (a :: f'')) (zv ++ z'') := by
            obtain ⟨mv, pm, sz⟩ := lss
            refine .by mv (fun b => ?_) fun b m => ?_
            · have h1 := cnt_perm pm b
              have h2 := cnt_perm q1 b
              have h3 := cnt_perm q3 b
              simp only [List.count_append, List.count_cons] at *
              omega
            · have hb : b ∈ zv ++ z1' ∨ b ∈ z' := by
                rcases List.mem_append.mp m with m | m
                · exact .inl (List.mem_append_left _ m)
                · rcases List.mem_append.mp (q4.mem_iff.mpr m) with m | m
                  · exact .inl (List.mem_append_right _ m)
                  · exact .inr m
              rcases hb with hb | hb
              · refine (sz b hb).imp (fun hb => ?_) id
                rcases List.mem_append.mp hb with hb | hb
                · exact List.mem_append_left _ hb
                · exact List.mem_append_right _ (q2.mem_iff.mp (List.mem_append_left _ hb))
              · exact .inl (List.mem_append_right _ (q2.mem_iff.mp (List.mem_append_right _ hb)))
          obtain ⟨F, Z, sF, dF, xF⟩ := mut_sl sr hσ p1 p2 d2 (x2.weak fun h => by cases h) (hst.mono fun b m => List.mem_cons_of_mem _ (q1.mem_iff.mp (List.mem_append_left _ m))) (Rep.mkK hH2 rk2) lss2
          exact q w H2 fv zv F Z rw' sF dF xF (fun h => by cases h)
        · cases eb
      · cases eb
    · cases eb
end
end Pi
/-! Pi14e: enumerate of a tuple -/
namespace Pi
open PySem L2 PySem.Spec PyProof.Rows
theorem meets_enum_newT (l : Addr) (items : Array Value) :
    Meets (Builtin.«enumerate.__new__» ⟨[.type "enumerate", .ref l], []⟩) (fun _ R s => s.heap.IsTuple l items ∧
      R (.ok (.ret (.ref (s.heap.push { cls := .type "tuple_iterator", data := .fields #[.ref l, .int 0 0] }).objs.size)))
        { s with heap := (s.heap.push { cls := .type "tuple_iterator", data := .fields #[.ref l, .int 0 0] }).push { cls := .type "enumerate", data := .fields #[.none, .bool false, .ref s.heap.objs.size, rawInt 0, .none, .none] } }) :=
  .of_wp fun prog w A R s h => by
    obtain ⟨hp, g, d, tk, os⟩ := s; obtain ⟨hL, h⟩ := h
    obtain ⟨o, hl, _⟩ := id hL
    have hsub := sub_enumerate
    have hL' : Heap.IsTuple (Shared.heap ⟨hp, g, d, tk, os⟩) l items := hL
    replace hl : hp.get? l = some o := hl
    wp_walk using AutoSeq1.wpAny_loadPart' hl
    refine wpAny_stack_any fun st => wpAny_pure ?_
    split
    · rename_i c _ _ _ _ _
      cases (c == Value.type "enumerate")
      · wp_walk using AutoSeq1.wpAny_loadPart' hl, wpAny_pyIter_tuple hL'
        exact ⟨_, rfl, h⟩
      · wp_walk using AutoSeq1.wpAny_loadPart' hl, wpAny_pyIter_tuple hL'
        exact ⟨_, rfl, h⟩
    · wp_walk using AutoSeq1.wpAny_loadPart' hl, wpAny_pyIter_tuple hL'
      exact ⟨_, rfl, h⟩
section
variable {prog : Program} {w : World} {A : Around} {E : Value → Shared → Prop} {s : Shared}
theorem call_enum_tup {l : Addr} {items : Array Value} {Q : Value → Shared → Prop} (hL : s.heap.IsTuple l items)
    (h : ∀ h', IsEnum h' (s.heap.objs.size + 1) s.heap.objs.size 0 .none → h'.IsTupleIter s.heap.objs.size l 0 → h'.objs.size = s.heap.objs.size + 2 →
      (∀ b o, s.heap.get? b = some o → h'.get? b = some o) → Q (.ref (s.heap.objs.size + 1)) { s with heap := h' }) :
    wpAny (model prog w) A (call (.type "enumerate") [.ref l]) Q E s := by
  refine callType_new F.called_enumerate (by decide) (F.typeCall_enumerate_1 _) (F.newCall_enumerate_1 _) (fun obj => F.args_object_init_2 obj _) F.entry_enumerate_new
    (meets_enum_newT l items) ⟨hL, ?_⟩
  have hz : (s.heap.push { cls := .type "tuple_iterator", data := .fields #[.ref l, .int 0 0] }).objs.size = s.heap.objs.size + 1 := Heap.size_push ..
  show _ ∧ _
  rw [hz]
  have he : IsEnum ((s.heap.push { cls := .type "tuple_iterator", data := .fields #[.ref l, .int 0 0] }).push
      { cls := .type "enumerate", data := .fields #[.none, .bool false, .ref s.heap.objs.size, rawInt 0, .none, .none] }) (s.heap.objs.size + 1) s.heap.objs.size 0 .none := by
    have := Heap.get?_push_size (s.heap.push { cls := .type "tuple_iterator", data := .fields #[.ref l, .int 0 0] })
      (o := { cls := .type "enumerate", data := .fields #[.none, .bool false, .ref s.heap.objs.size, rawInt 0, .none, .none] }) rfl
    rw [hz] at this; exact this
  refine ⟨⟨_, he, rfl⟩, h _ he ⟨_, Heap.get?_push_of_some _ (Heap.get?_push_size _ rfl), rfl, rfl⟩ (by rw [Heap.size_push, hz]) fun b o x => Heap.get?_push_of_some _ (Heap.get?_push_of_some _ x)⟩
theorem next_enumT_end {e it l : Addr} {i : Nat} {items : Array Value} {old : Value} {Q : Option Value → Shared → Prop} (hh : A.handled = none)
    (he : IsEnum s.heap e it i old) (hit : s.heap.IsTupleIter it l i) (hl : s.heap.IsTuple l items) (hx : items[i]? = none)
    (hQ : ∀ h', Heap.ExtBut it s.heap h' → Q none { s with heap := h' }) : wpAny (model prog w) A (pyNext (.ref e)) Q E s := by
  have hT : s.TypeIs (.ref e) "enumerate" := ⟨_, he, rfl⟩
  unfold pyNext
  refine wpAny_bind (wpAny_attempt (wpAny_callSpecial?_slot (name := Str.ofString "__next__") hT F.slot_enumerate_next
    (wpAny_call_entry F.slot_enumerate_next hT F.entry_enumerate_next ?_ (F.args_enumerate_next_1 _))))
  show wpAny _ _ (field (.ref e) 2 >>= _) _ _ _
  refine wpAny_bind (wpAny_field he rfl (x := .ref it) rfl ?_)
  refine wpAny_bind (wpAny_nextOf_tuple_end hh hit hl hx fun h' x he' hx' => ?_)
  obtain ⟨o, ho, hc⟩ := hx'
  refine wpAny_bind (wpAny_isInstance (T := "StopIteration") (b := true) ⟨o, ho, hc⟩ isSubtype_stop ?_)
  exact wpAny_pure (hQ _ he')
end
/-- the tuple at a, each item in a new pair -/
def IteT (K : PySem.W.Frag) (a : Addr) : It :=
  ⟨fun i H => ∃ (xs : List V) (x : V), SqT K H a xs ∧ xs[i]? = some x, fun i H v H' => ∃ T x, v = .ref T ∧ H T = none ∧ H' = upd H T (.tup [.int (i : Nat), x]) ∧ ∀ xs, SqT K H a xs → xs[i]? = some x, fun i H => ∃ xs : List V, SqT K H a xs ∧ xs.length ≤ i⟩
theorem turn_enumT {P : Program} {w : World} {K : PySem.W.Frag} {elts : List Expr} {kk : Nat} {tpos : Pos} (a e it : Addr) :
    Turn P w K (.Tuple elts kk tpos) (IteT K a) [e, it] e (fun i h => (∃ old, IsEnum h e it ((i : Nat) : Int) old) ∧ h.IsTupleIter it a i ∧ e ≠ it ∧ a ≠ e ∧ a ≠ it) where
  mem := by simp
  obj := fun i h st b hb => by
    obtain ⟨⟨old, he⟩, ⟨o, ho, hc, hd⟩, _⟩ := st
    have e' : b = e ∨ b = it := by simpa using hb
    rcases e' with z | z
    · rw [z]; exact ⟨_, he, fun v q => nomatch q⟩
    · rw [z]; exact ⟨o, ho, fun v q => by rw [hd] at q; cases q⟩
  keep := fun i h h' st k => let ⟨⟨old, he⟩, hi, hne⟩ := st; ⟨⟨old, k e (by simp) _ he⟩, hi.at fun o q => k it (by simp) o q, hne⟩
  item := by
    intro X hP hw hK hc i pins s σ H E I hf st hg
    subst hP hw hK
    obtain ⟨⟨old, he⟩, hit, hne, hae, hai⟩ := st
    obtain ⟨xs, x, hq, hx⟩ := hg
    obtain ⟨its, rv, p, hz⟩ := I.tuple hq
    obtain ⟨u, hu, ru⟩ := rv.get hx
    have hel : e < s.heap.objs.size := Heap.lt_size he
    have hil : it < s.heap.objs.size := by obtain ⟨_, q, _⟩ := hit; exact Heap.lt_size q
    have hlt : i < its.toArray.size := by
      rw [List.size_toArray]
      exact (List.getElem?_eq_some_iff.mp hu).1
    refine wpAny_pyNext_enum_itemD (Draws.tuple (prog := X.prog) (w := X.w) (A := X.A.in1) (show X.A.in1.handled = none from I.ok.hd hc) it a hai its.toArray) he ⟨hit, p⟩ hlt hne (by simp [hne, Ne.symm hae]) fun y h' tk hy ho hit' hT hsz hk => ?_
    have huy : u = y := by
      have : its[i]? = some y := by simpa using hy
      rw [hu] at this; exact Option.some.inj this
    subst huy
    refine ⟨_, rfl, wpAny_letOwnedTupleGo_enum (s := { s with heap := h', toks := tk + 1 }) ho fun h'' he' sb => ?_⟩
    have hT2 : h''.get? s.heap.objs.size = some { cls := .type "tuple", data := .seq #[.int i tk, u] } := (sb.2 _ (Nat.ne_of_gt hel)).trans hT
    have new : ObjOk X.prog X.w (upd H s.heap.objs.size (.tup [.int (i : Nat), x])) h'' s.heap.objs.size (.tup [.int (i : Nat), x]) :=
      ⟨by show 2 ≤ sizeLine; decide, [.int i tk, u], .cons ⟨_, rfl⟩ (.cons ru .nil), ⟨_, hT2, rfl, _, rfl⟩⟩
    have I1 : Inv X pins σ (upd H s.heap.objs.size (.tup [.int (i : Nat), x])) { s with heap := h'', toks := tk + 1 } :=
      I.turnedNew (ch := [e, it]) (fun b ob hb q => (sb.2 b (fun z => hb (by simp [z]))).trans (hk b ob (fun z => hb (by simp [z])) (fun z => hb (by simp [z])) q)) hf (Nat.le_refl _) new
    refine ⟨.ref s.heap.objs.size, _, I1, rfl, ⟨_, x, rfl, I.hok.fresh (Nat.le_refl _), rfl, fun ys hy => by rw [I.tuple_inj hy hq]; exact hx⟩, ⟨⟨u, ?_⟩, hit'.1.at fun o q => (sb.2 it (Ne.symm hne)).trans q, hne, hae, hai⟩, fun b hb => ?_⟩
    · have e1 : ((i + 1 : Nat) : Int) = (i : Int) + 1 := by omega
      rw [e1]; exact he'
    · have hb' : b < s.heap.objs.size := by
        have e' : b = e ∨ b = it := by simpa using hb
        rcases e' with z | z
        · rw [z]; exact hel
        · rw [z]; exact hil
      rw [upd_ne (Nat.ne_of_lt hb')]
      exact (hf b hb).1
  done := by
    intro X hP hw hK hc i pins s σ H E I hf st hg
    subst hP hw hK
    obtain ⟨⟨old, he⟩, hit, hne, hae, hai⟩ := st
    obtain ⟨xs, hq, hx⟩ := hg
    obtain ⟨its, rv, p, hz⟩ := I.tuple hq
    obtain ⟨f0, f1, f2, f3, f4, f5⟩ := hf it (by simp)
    have hl := rv.length
    exact next_enumT_end (I.ok.hd hc) he hit p (by simp; omega) fun h' eb => ⟨rfl, I.turned (t' := s.toks) (fun b o hb q => eb b o hb q) f0 f1 f3 f4 f5⟩
  self := fun A i s Q E st h => let ⟨⟨_, he⟩, _⟩ := st; wpAny_pyIter_enum he h
def iEnumT (K : PySem.W.Frag) (ta : TA) : TI := fun σ H R => ta σ H fun vs H1 => ∃ a xs, vs = [.ref a] ∧ SqT K H1 a xs ∧ R (IteT K a) H1
theorem pi_enumT {X : Cx} {e : Expr} {ta : TA} {p pos tpos : Pos} {elts : List Expr} {kk : Nat} (hg : Gl X "enumerate") (hm : X.mg "enumerate" = none) (ha : PA X [e] ta) (hs : starEach [e] X.env = [(false, eval e X.env)] := by rfl) :
    PI X (.Tuple elts kk tpos) (.Call (.Name "enumerate" p) [e] [] pos) (iEnumT X.K ta) := by
  refine ⟨fun pins s σ H R I h => ?_⟩
  refine Call_ (ld_blt I hg hm boot_enumerate (PyProof.Rows.callWith_type1 (thn (ha.run pos pins s σ H _ I h) fun us s1 ⟨vs, H1, I1, r1, q1⟩ => ?_) hs rfl))
  obtain ⟨a, xs, ex, hq, q⟩ := q1
  subst ex
  cases r1 with
  | cons r rr =>
    cases rr
    cases r
    obtain ⟨its, rv, p', hz⟩ := I1.tuple hq
    have hal : a < s1.heap.objs.size := by obtain ⟨_, ho, _⟩ := p'; exact Heap.lt_size ho
    refine call_enum_tup p' fun h' he hit hsz hk => wpAny_pyIter_enum he ?_
    have I2 : Inv X pins σ H1 { s1 with heap := h' } := I1.kept (t' := s1.toks) hk
    refine ⟨s1.heap.objs.size + 1, [s1.heap.objs.size + 1, s1.heap.objs.size], _, _, H1, rfl, I2, turn_enumT a (s1.heap.objs.size + 1) s1.heap.objs.size, ⟨⟨.none, he⟩, hit, Nat.succ_ne_self _, Nat.ne_of_lt (Nat.lt_succ_of_lt hal), Nat.ne_of_lt hal⟩, fun b hb => ?_, q⟩
    have e' : b = s1.heap.objs.size + 1 ∨ b = s1.heap.objs.size := by simpa using hb
    have hle : s1.heap.objs.size ≤ b := by
      rcases e' with z | z
      · rw [z]; exact Nat.le_add_right _ _
      · rw [z]; exact Nat.le_refl _
    exact I1.fpOk hle (I1.hok.fresh hle)
/-! ### as the evaluator's items -/
theorem enum_at {l : List D} {i : Nat} {d : D} (h : (enumD l)[i]? = some d) : ∃ y, l[i]? = some y ∧ d = .tup [.int (i : Nat), y] := by
  unfold enumD at h
  rw [List.getElem?_map, Option.map_eq_some_iff] at h
  obtain ⟨⟨y, j⟩, h1, rfl⟩ := h
  rw [List.getElem?_zipIdx, Option.map_eq_some_iff] at h1
  obtain ⟨y', h2, h3⟩ := h1
  injection h3 with h4 h5
  subst h4 h5
  exact ⟨_, h2, by simp⟩
theorem enum_len {l : List D} : (enumD l).length = l.length := by simp [enumD]
theorem pair_rep {K : PySem.W.Frag} {H : Hp} {T : Addr} {i : Int} {y : D} {v : V} {z : List Addr} (r : Rep K H y 0 v [] z) (hT : H T = none) : Rep K (upd H T (.tup [.int i, v])) (.tup [.int i, y]) 0 (.ref T) [] z := by
  have r' := Rep.stay0 (.new hT) (H' := upd H T (.tup [.int i, v])) r
  simp only [Rep, RepL]
  exact ⟨T, _, rfl, upd_same, .int i, [v], [], [], [], z, rfl, rfl, rfl, ⟨rfl, rfl, rfl⟩, v, [], [], [], z, [], rfl, rfl, by simp, r', rfl, rfl, rfl⟩
theorem it_enumL {K : PySem.W.Frag} {a : Addr} {l : List D} {vs : List V} {z : List Addr} : ItOk K (Ite K a) (enumD l) (fun H => H a = some (.lst vs) ∧ RepL K H l 0 vs [] z) (a :: z) where
  keep := fun W H H' s n ⟨h, r⟩ => ⟨s a _ h fun m => absurd m (n a List.mem_cons_self), RepL.stay s _ _ _ _ _ r (by simp) fun b m => n b (List.mem_cons_of_mem _ m)⟩
  trk := fun H ⟨h, r⟩ b m q => by
    rcases List.mem_cons.mp m with rfl | m
    · rw [h] at q; cases q
    · obtain ⟨o, e⟩ := (RepL.own _ _ _ _ _ r).2 b m
      rw [e] at q; cases q
  go := fun i H d ⟨h, r⟩ hi => by
    obtain ⟨y, hy, rfl⟩ := enum_at hi
    obtain ⟨v, z', e, rv, hz⟩ := RepL.at0 r i y hy
    refine ⟨⟨vs, v, SqL.of h, e⟩, fun x H' ⟨T, w, ex, hT, hH, hx⟩ => ?_⟩
    have := hx vs (SqL.of h)
    rw [e] at this
    cases this
    subst ex hH
    exact ⟨.new hT, z', pair_rep rv hT, fun b m => .inl (List.mem_cons_of_mem _ (hz b m))⟩
  stop := fun i H ⟨h, r⟩ hi => ⟨vs, SqL.of h, by rw [RepL.len r]; rw [enum_len] at hi; exact hi⟩
theorem it_enumT {K : PySem.W.Frag} {a : Addr} {l : List D} {vs : List V} {z : List Addr} : ItOk K (IteT K a) (enumD l) (fun H => SqT K H a vs ∧ RepL K H l 0 vs [] z) z where
  keep := fun W H H' s n ⟨h, r⟩ => ⟨s.sqt h, RepL.stay s _ _ _ _ _ r (by simp) n⟩
  trk := fun H ⟨h, r⟩ b m q => by
    obtain ⟨o, e⟩ := (RepL.own _ _ _ _ _ r).2 b m
    rw [e] at q; cases q
  go := fun i H d ⟨h, r⟩ hi => by
    obtain ⟨y, hy, rfl⟩ := enum_at hi
    obtain ⟨v, z', e, rv, hz⟩ := RepL.at0 r i y hy
    refine ⟨⟨vs, v, h, e⟩, fun x H' ⟨T, w, ex, hT, hH, hx⟩ => ?_⟩
    have := hx vs h
    rw [e] at this
    cases this
    subst ex hH
    exact ⟨.new hT, z', pair_rep rv hT, fun b m => .inl (hz b m)⟩
  stop := fun i H ⟨h, r⟩ hi => ⟨vs, h, by rw [RepL.len r]; rw [enum_len] at hi; exact hi⟩
section
variable {X : Cx} {tb : Tb} {cf : Cf} {c : CkC}
theorem ienum_pi (ok : XOk X tb cf c) {a : Ex} {elts : List Expr} {kk : Nat} {tpos : Pos} {xa : Expr} {p pos : Pos} (hb : ckBlt tb c "enumerate" = true) (ia : PE X xa (tI X.K cf a)) (hs : starEach [xa] X.env = [(false, eval xa X.env)]) : PI X (.Tuple elts kk tpos) (.Call (.Name "enumerate" p) [xa] [] pos) (tII X.K cf (.ienum a)) := by
  obtain ⟨hm, hg, _, _⟩ := ckBlt_ok ok hb
  refine ⟨fun pins s σ H R I ⟨ρ, fp, fz, items, ρ', sl, dj, e, k⟩ => ?_⟩
  simp only [evI] at e
  obtain ⟨x, ρ1, e1, e2⟩ := bind_inv e
  clear e
  obtain ⟨d, n⟩ := x
  cases d <;> simp only [reduceCtorEq] at e2
  case lst l =>
    cases e2
    refine (pi_enum hg hm (pa_cons ia pa_nil hs) hs).run pins s σ H R I (step1 (q := quiet a) sl dj e1 (fun h => h) fun v H1 z1 f2 z2 r s2 d2 x2 => ?_)
    obtain ⟨b, vs, z', rfl, h, rl, rfl⟩ := r.toLst
    exact ⟨b, vs, rfl, SqL.of h, k _ H1 _ _ f2 z2 it_enumL ⟨h, rl⟩ s2 d2 x2⟩
  case tup l =>
    cases e2
    refine (pi_enumT hg hm (pa_cons ia pa_nil hs) hs).run pins s σ H R I (step1 (q := quiet a) sl dj e1 (fun h => h) fun v H1 z1 f2 z2 r s2 d2 x2 => ?_)
    obtain ⟨b, vs, rfl, h, rl⟩ := r.toTup
    exact ⟨b, vs, rfl, SqT.of h, k _ H1 _ _ f2 z2 it_enumT ⟨SqT.of h, rl⟩ s2 d2 x2⟩
end
end Pi
/-! Pi15: what is walked; targets; displays of dicts. -/
namespace Pi
open PySem L2
theorem getI_map {l : List Int} {i : Nat} {d : D} (h : (l.map D.int)[i]? = some d) : ∃ k, d = .int k ∧ l[i]? = some k := by
  rw [List.getElem?_map, Option.map_eq_some_iff] at h
  obtain ⟨k, a, b⟩ := h
  exact ⟨k, b.symm, a⟩
section
variable {X : Cx} {tb : Tb} {cf : Cf} {c : CkC}
theorem set_no {x : Expr} {env : PySem.Env} (h : ∀ a k p, x ≠ .Set a k p) (v : Value) : foldedSetIterable x env v = pure v := by
  cases x <;> first | rfl | exact absurd rfl (h _ _ _)
/-- walked: a list, as it stands -/
theorem it_list {K : PySem.W.Frag} {a : Addr} {l : List D} {vs : List V} {z : List Addr} : ItOk K (Itl K a) l (fun H => H a = some (.lst vs) ∧ RepL K H l 0 vs [] z) (a :: z) where
  keep := fun W H H' s n ⟨h, r⟩ => ⟨s a _ h fun m => absurd m (n a List.mem_cons_self), RepL.stay s _ _ _ _ _ r (by simp) fun b m => n b (List.mem_cons_of_mem _ m)⟩
  trk := fun H ⟨h, r⟩ b m q => by
    rcases List.mem_cons.mp m with rfl | m
    · rw [h] at q; cases q
    · obtain ⟨o, e⟩ := (RepL.own _ _ _ _ _ r).2 b m
      rw [e] at q; cases q
  go := fun i H d ⟨h, r⟩ hi => by
    obtain ⟨v, z', e, rv, hz⟩ := RepL.at0 r i d hi
    refine ⟨⟨vs, v, SqL.of h, e⟩, fun x H' ⟨hh, hx⟩ => ?_⟩
    subst hh
    have := hx vs (SqL.of h)
    rw [e] at this
    cases this
    exact ⟨.refl _ _, z', rv, fun b m => .inl (List.mem_cons_of_mem _ (hz b m))⟩
  stop := fun i H ⟨h, r⟩ hi => ⟨vs, SqL.of h, by rw [RepL.len r]; exact hi⟩
theorem it_tup {K : PySem.W.Frag} {a : Addr} {l : List D} {vs : List V} {z : List Addr} : ItOk K (Itt K a) l (fun H => SqT K H a vs ∧ RepL K H l 0 vs [] z) z where
  keep := fun W H H' s n ⟨h, r⟩ => ⟨s.sqt h, RepL.stay s _ _ _ _ _ r (by simp) n⟩
  trk := fun H ⟨h, r⟩ b m q => by
    obtain ⟨o, e⟩ := (RepL.own _ _ _ _ _ r).2 b m
    rw [e] at q; cases q
  go := fun i H d ⟨h, r⟩ hi => by
    obtain ⟨v, z', e, rv, hz⟩ := RepL.at0 r i d hi
    refine ⟨⟨vs, v, h, e⟩, fun x H' ⟨hh, hx⟩ => ?_⟩
    subst hh
    have := hx vs h
    rw [e] at this
    cases this
    exact ⟨.refl _ _, z', rv, fun b m => .inl (hz b m)⟩
  stop := fun i H ⟨h, r⟩ hi => ⟨vs, h, by rw [RepL.len r]; exact hi⟩
theorem it_scr1 {K : PySem.W.Frag} {a : Addr} {l : List Int} : ItOk K (Itl K a) (l.map .int) (fun H => Rd H a (.lst (l.map .int))) [a] where
  keep := fun W H H' s n h => s.rd h (n a (by simp))
  trk := fun H h b m q => by
    rw [List.mem_singleton.mp m] at q
    rcases h with h | ⟨o, h⟩ <;> (rw [h] at q; cases q)
  go := fun i H d h hi => by
    obtain ⟨k, rfl, hk⟩ := getI_map hi
    refine ⟨⟨_, .int k, .inl h, by rw [List.getElem?_map, hk]; rfl⟩, fun x H' ⟨hh, hx⟩ => ?_⟩
    subst hh
    have := hx _ (.inl h)
    rw [List.getElem?_map, hk] at this
    cases this
    exact ⟨.refl _ _, [], by simp [Rep], by simp⟩
  stop := fun i H h hi => ⟨_, .inl h, by simpa using hi⟩
theorem it_scr2 {K : PySem.W.Frag} {a : Addr} {l : List Int} (h : KL K a (l.map .int)) : ItOk K (Itl K a) (l.map .int) (fun _ => True) [] where
  keep := fun W H H' s n h => trivial
  trk := fun H h b m q => absurd m List.not_mem_nil
  go := fun i H d _ hi => by
    obtain ⟨k, rfl, hk⟩ := getI_map hi
    refine ⟨⟨_, .int k, .inr h, by rw [List.getElem?_map, hk]; rfl⟩, fun x H' ⟨hh, hx⟩ => ?_⟩
    subst hh
    have := hx _ (.inr h)
    rw [List.getElem?_map, hk] at this
    cases this
    exact ⟨.refl _ _, [], by simp [Rep], by simp⟩
  stop := fun i H _ hi => ⟨_, .inr h, by simpa using hi⟩
theorem ival_pi {a : Ex} {tg xa : Expr} (ia : PE X xa (tI X.K cf a)) : PI X tg xa (tII X.K cf (.ival a)) := by
  refine ⟨fun pins s σ H R I ⟨ρ, fp, fz, items, ρ', sl, dj, e, k⟩ => ?_⟩
  simp only [evI] at e
  obtain ⟨x, ρ1, e1, e2⟩ := bind_inv e
  obtain ⟨hi, h0⟩ := of_inv e2
  subst h0
  clear e e2
  obtain ⟨d, n⟩ := x
  cases d <;> simp only [itemsD, Option.some.injEq, reduceCtorEq] at hi
  case lst l =>
    subst hi
    refine (pi_list ia).run pins s σ H R I (step1 (q := quiet a) sl dj e1 (fun h => h) fun v H1 z1 f2 z2 r s2 d2 x2 => ?_)
    obtain ⟨b, vs, z', rfl, h, rl, rfl⟩ := r.toLst
    exact ⟨b, rfl, ⟨vs, SqL.of h⟩, k _ H1 _ _ f2 z2 it_list ⟨h, rl⟩ s2 d2 x2⟩
  case tup l =>
    subst hi
    refine (pi_tup ia).run pins s σ H R I (step1 (q := quiet a) sl dj e1 (fun h => h) fun v H1 z1 f2 z2 r s2 d2 x2 => ?_)
    obtain ⟨b, vs, rfl, h, rl⟩ := r.toTup
    exact ⟨b, rfl, ⟨vs, SqT.of h⟩, k _ H1 _ _ f2 z2 it_tup ⟨SqT.of h, rl⟩ s2 d2 x2⟩
  case ctup l =>
    subst hi
    refine (pi_tup ia).run pins s σ H R I (step1 (q := quiet a) sl dj e1 (fun h => h) fun v H1 z1 f2 z2 r s2 d2 x2 => ?_)
    obtain ⟨b, vs, rfl, h, rl⟩ := r.toCtup
    exact ⟨b, rfl, ⟨vs, h⟩, k _ H1 _ _ f2 z2 it_tup ⟨h, rl⟩ s2 d2 x2⟩
  case scr l =>
    subst hi
    refine (pi_list ia).run pins s σ H R I (step1 (q := quiet a) sl dj e1 (fun h => h) fun v H1 z1 f2 z2 r s2 d2 x2 => ?_)
    simp only [Rep] at r
    obtain ⟨b, rfl, _, q⟩ := r
    rcases q with ⟨q, rfl⟩ | ⟨q, rfl⟩
    · exact ⟨b, rfl, ⟨_, .inl q⟩, k _ H1 _ _ f2 z2 it_scr1 q s2 d2 x2⟩
    · exact ⟨b, rfl, ⟨_, .inr q⟩, k _ H1 _ _ f2 z2 (it_scr2 q) trivial s2 d2 x2⟩
theorem it_rng {K : PySem.W.Frag} (lo : Int) (n : Nat) : ItOk K (Itr lo n) ((List.range n).map fun k => .int (lo + (k : Nat))) (fun _ => True) [] where
  keep := fun W H H' s n h => trivial
  trk := fun H h b m q => absurd m List.not_mem_nil
  go := fun i H d _ hi => by
    rw [List.getElem?_map, Option.map_eq_some_iff] at hi
    obtain ⟨k, hk, rfl⟩ := hi
    obtain ⟨hk1, hk2⟩ := List.getElem?_eq_some_iff.mp hk
    rw [List.getElem_range] at hk2
    subst hk2
    refine ⟨show i < n by simpa using hk1, fun x H' ⟨hh, hx⟩ => ?_⟩
    subst hh hx
    exact ⟨.refl _ _, [], by simp [Rep], by simp⟩
  stop := fun i H _ hi => show n ≤ i by simpa using hi
theorem irng1_pi (ok : XOk X tb cf c) {a : Ex} {tg xa : Expr} {p pos : Pos} (hb : ckBlt tb c "range" = true) (ia : PE X xa (tI X.K cf a)) (hs : starEach [xa] X.env = [(false, eval xa X.env)]) : PI X tg (.Call (.Name "range" p) [xa] [] pos) (tII X.K cf (.irng1 a)) := by
  obtain ⟨hm, hg, _, _⟩ := ckBlt_ok ok hb
  refine ⟨fun pins s σ H R I ⟨ρ, fp, fz, items, ρ', sl, dj, e, k⟩ => ?_⟩
  simp only [evI] at e
  obtain ⟨x, ρ1, e1, e2⟩ := bind_inv e
  obtain ⟨hi, h0⟩ := of_inv e2
  subst h0
  clear e e2
  obtain ⟨d, n⟩ := x
  cases d <;> simp only [rngD, reduceCtorEq] at hi
  rename_i j
  split at hi
  · rename_i hc
    simp only [Bool.and_eq_true, decide_eq_true_eq] at hc
    cases hi
    refine (pi_range1 hg hm (pa_cons ia pa_nil hs) hs).run pins s σ H R I (step1 (q := quiet a) sl dj e1 (fun h => h) fun v H1 z1 f2 z2 r s2 d2 x2 => ?_)
    cases r.toInt
    refine ⟨j, rfl, hc.1.2, hc.2, k _ H1 (fun _ => True) [] f2 z2 ?_ trivial s2 ⟨d2.1, fun b m m' => d2.2 b m (List.mem_append_right _ m')⟩ (x2.to (fun b m => m) fun b m => .inr (List.mem_append_right _ m))⟩
    have := it_rng (K := X.K) 0 j.toNat
    simpa using this
  · cases hi
theorem irng2_pi (ok : XOk X tb cf c) {a b : Ex} {tg xa xb : Expr} {p pos : Pos} (hb : ckBlt tb c "range" = true) (ia : PE X xa (tI X.K cf a)) (ib : PE X xb (tI X.K cf b)) (hs : starEach [xa, xb] X.env = [(false, eval xa X.env), (false, eval xb X.env)]) (hs2 : starEach [xb] X.env = [(false, eval xb X.env)]) :
    PI X tg (.Call (.Name "range" p) [xa, xb] [] pos) (tII X.K cf (.irng2 a b)) := by
  obtain ⟨hm, hg, _, _⟩ := ckBlt_ok ok hb
  refine ⟨fun pins s σ H R I ⟨ρ, fp, fz, items, ρ', sl, dj, e, k⟩ => ?_⟩
  simp only [evI] at e
  obtain ⟨x, ρ1, e1, e0⟩ := bind_inv e
  obtain ⟨y, ρ2, e2, e3⟩ := bind_inv e0
  obtain ⟨hi, h0⟩ := of_inv e3
  subst h0
  clear e e3 e0
  obtain ⟨d, n⟩ := x
  obtain ⟨d', n'⟩ := y
  cases d <;> cases d' <;> simp only [rngD, reduceCtorEq] at hi
  rename_i i j
  split at hi
  · rename_i hc
    simp only [Bool.and_eq_true, decide_eq_true_eq] at hc
    cases hi
    refine (pi_range2 hg hm (pa_cons ia (pa_cons ib pa_nil hs2) (by rw [hs, hs2])) hs hs2).run pins s σ H R I (step2 (q := quiet (.irng2 a b)) sl dj e1 e2 (fun h => and_iff2 (by simpa only [quiet] using h)) fun v w H1 z1 z2 f2 z3 r1 r2 s2 d2 x2 => ?_)
    cases r1.toInt
    cases r2.toInt
    refine ⟨i, j, rfl, ⟨hc.1.1.1, hc.1.1.2, hc.1.2, hc.2⟩, k _ H1 _ [] f2 z3 (it_rng _ _) trivial s2 ⟨d2.1, fun b m m' => d2.2 b m (List.mem_append_right _ m')⟩ (x2.to (fun b m => m) fun b m => .inr (List.mem_append_right _ m))⟩
  · cases hi
theorem it_rngC {K : PySem.W.Frag} (lo c : Int) (n : Nat) : ItOk K (Itc lo c n) ((List.range n).map fun k => .int (lo + (k : Nat) * c)) (fun _ => True) [] where
  keep := fun W H H' s n h => trivial
  trk := fun H h b m q => absurd m List.not_mem_nil
  go := fun i H d _ hi => by
    rw [List.getElem?_map, Option.map_eq_some_iff] at hi
    obtain ⟨k, hk, rfl⟩ := hi
    obtain ⟨hk1, hk2⟩ := List.getElem?_eq_some_iff.mp hk
    rw [List.getElem_range] at hk2
    subst hk2
    refine ⟨show i < n by simpa using hk1, fun x H' ⟨hh, hx⟩ => ?_⟩
    subst hh hx
    exact ⟨.refl _ _, [], by simp [Rep], by simp⟩
  stop := fun i H _ hi => show n ≤ i by simpa using hi
theorem irng3_pi (ok : XOk X tb cf c) {a b d : Ex} {tg xa xb xd : Expr} {p pos : Pos} (hb : ckBlt tb c "range" = true) (ia : PE X xa (tI X.K cf a)) (ib : PE X xb (tI X.K cf b)) (id : PE X xd (tI X.K cf d)) (hs : starEach [xa, xb, xd] X.env = [(false, eval xa X.env), (false, eval xb X.env), (false, eval xd X.env)]) (hs2 : starEach [xb, xd] X.env = [(false, eval xb X.env), (false, eval xd X.env)]) (hs3 : starEach [xd] X.env = [(false, eval xd X.env)]) :
    PI X tg (.Call (.Name "range" p) [xa, xb, xd] [] pos) (tII X.K cf (.irng3 a b d)) := by
  obtain ⟨hm, hg, _, _⟩ := ckBlt_ok ok hb
  refine ⟨fun pins s σ H R I ⟨ρ, fp, fz, items, ρ', sl, dj, e, k⟩ => ?_⟩
  simp only [evI] at e
  obtain ⟨x, ρ1, e1, e0⟩ := bind_inv e
  obtain ⟨y, ρ2, e2, e00⟩ := bind_inv e0
  obtain ⟨w, ρ3, e3, e4⟩ := bind_inv e00
  obtain ⟨hi, h0⟩ := of_inv e4
  subst h0
  clear e e4 e0 e00
  have hq : quiet (.irng3 a b d) = true → quiet a = true ∧ quiet b = true ∧ quiet d = true := fun h => and_iff3 (by simpa only [quiet] using h)
  unfold rng3D at hi
  split at hi
  · rename_i i j l hx hy hw
    split at hi
    · rename_i hc
      simp only [Bool.and_eq_true, decide_eq_true_eq] at hc
      cases hi
      refine (pi_range3 hg hm (pa_cons ia (pa_cons ib (pa_cons id pa_nil hs3) (by rw [hs2, hs3])) (by rw [hs, hs2])) (by rw [hs, hs2]) (by rw [hs2]; rfl)).run pins s σ H R I
        (step2 (q := quiet (.irng3 a b d)) sl dj e1 e2 (fun h => ⟨(hq h).1, (hq h).2.1⟩) fun v u H1 z1 z2 f2 z3 r1 r2 s2 d2 x2 => step1 (q := quiet (.irng3 a b d)) s2 ⟨d2.1, fun b m m' => d2.2 b m (List.mem_append_right _ m')⟩ e3 (fun h => (hq h).2.2) fun t H2 z4 f3 z5 r3 s3 d3 x3 => ?_)
      rw [hx] at r1
      rw [hy] at r2
      rw [hw] at r3
      cases r1.toInt
      cases r2.toInt
      cases r3.toInt
      refine ⟨i, j, l, _, rfl, ⟨hc.1.1.1, hc.1.1.2, hc.1.2, (Int.toNat_of_nonneg hc.2).symm⟩, k _ H2 (fun _ => True) [] f3 z5 (it_rngC _ _ _) trivial s3 ⟨d3.1, fun b m m' => d3.2 b m (List.mem_append_right _ m')⟩ ((Ext.trans0 (x2.to (fun b m => m) fun b m => .inr (List.mem_append_right _ m)) x3).to (fun b m => m) fun b m => .inr (List.mem_append_right _ m))⟩
    · cases hi
  · cases hi
end
/-! ### targets -/
theorem wipe_set {σ : St} {i : Nat} {x : Option V} : ∀ {vs : List Nat}, i ∈ vs → wipe (σ.set i x) vs = wipe σ vs
  | [], m => absurd m List.not_mem_nil
  | v :: vs, m => by
    simp only [wipe]
    by_cases h : i ∈ vs
    · rw [wipe_set h]
    · have hv : i = v := (List.mem_cons.mp m).resolve_right h
      subst hv
      have : ∀ {vs : List Nat} {σ : St}, i ∉ vs → wipe (σ.set i x) vs = (wipe σ vs).set i x := by
        intro vs
        induction vs with
        | nil => intro σ _; rfl
        | cons w ws ih =>
          intro σ hn
          simp only [wipe]
          rw [ih (fun h => hn (List.mem_cons_of_mem _ h))]
          exact List.set_comm _ _ (fun h => hn (by rw [h]; exact List.mem_cons_self))
      rw [this h, List.set_set]
theorem st_big : ∀ (ρ : Env) (i : Nat) (x : Option Sl), ρ.length ≤ i → st ρ i x = ρ
  | [], _, _, _ => rfl
  | _ :: _, 0, _, h => by simp at h
  | y :: ρ, i + 1, x, h => by simp only [st]; rw [st_big ρ i x (by simpa using h)]
theorem SL.set2 {K : PySem.W.Frag} {H : Hp} {σ : St} {ρ : Env} {fp fz : List Addr} {i : Nat} {d : D} {n : Nat} {v : V} {f1 z1 : List Addr} (r : SL K H σ ρ fp fz) (rv : Rep K H d n v f1 z1) :
    ∃ f z, SL K H (σ.set i (some v)) (st ρ i (some (d, n))) f z ∧ Less (f1 ++ fp) (z1 ++ fz) f z := by
  by_cases hi : i < σ.length
  · exact SL.set r hi rv
  · have h2 := SL.len r
    rw [st_big _ _ _ (by omega), List.set_eq_of_length_le (by omega)]
    exact ⟨fp, fz, r, .by f1 (fun a => by simp only [List.count_append]; omega) fun a m => .inl (List.mem_append_right _ m)⟩
section
variable {X : Cx} {tb : Tb} {cf : Cf} {c : CkC}
/-- what storing d into the target does -/
def TgT (K : PySem.W.Frag) (tg : Tg) (g : TG) : Prop := ∀ (x : V) (σ : St) (H : Hp) (Q : St → Hp → Prop) (d : D) (ρ ρ2 : Env) (f z zx : List Addr), SL K H σ ρ f z → Rep K H d 0 x [] zx → setT tg d ρ = some ρ2 →
  (∀ σ2 f' z', SL K H σ2 ρ2 f' z' → Less f (zx ++ z) f' z' → (∀ vs, (∀ i ∈ tgSlots tg, i ∈ vs) → wipe σ2 vs = wipe σ vs) → Q σ2 H) → g x σ H Q
def gsName : List Nat → TGs
  | [] => gNil
  | i :: is => gCons (gName i) (gsName is)
theorem sls {K : PySem.W.Frag} {H : Hp} : ∀ {is : List Nat} {ds : List D} {xs : List V} {zx : List Addr} {σ : St} {ρ ρ2 : Env} {f z : List Addr} {Q : St → Hp → Prop}, SL K H σ ρ f z → RepL K H ds 0 xs [] zx → setT.go is ds ρ = some ρ2 →
    (∀ σ2 f' z', SL K H σ2 ρ2 f' z' → Less f (zx ++ z) f' z' → (∀ vs, (∀ i ∈ is, i ∈ vs) → wipe σ2 vs = wipe σ vs) → Q σ2 H) → gsName is xs σ H Q
  | [], [], xs, zx, σ, ρ, ρ2, f, z, Q, s, r, h, k => by
    simp only [RepL] at r
    obtain ⟨rfl, _, rfl⟩ := r
    cases h
    exact ⟨rfl, k σ f z s (by simpa using Less.refl f z) fun _ _ => rfl⟩
  | i :: is, d :: ds, xs, zx, σ, ρ, ρ2, f, z, Q, s, r, h, k => by
    simp only [RepL] at r
    obtain ⟨x, xs', g1, g2, y1, y2, rfl, hg, rfl, r1, r2⟩ := r
    have h1 : g1 = [] := (List.append_eq_nil_iff.mp hg.symm).1
    have h2 : g2 = [] := (List.append_eq_nil_iff.mp hg.symm).2
    subst h1 h2
    obtain ⟨f', z', s', l⟩ := SL.set2 (i := i) s r1
    refine ⟨x, xs', rfl, ?_⟩
    refine sls s' r2 (by simpa only [setT.go] using h) fun σ2 f2 z2 s2 l2 hw => k σ2 f2 z2 s2 ?_ fun vs hv => ?_
    · obtain ⟨m1, p1, q1⟩ := l
      obtain ⟨m2, p2, q2⟩ := l2
      refine .by (m2 ++ m1) (fun a => ?_) fun a m => ?_
      · have := cnt_perm p1 a
        have := cnt_perm p2 a
        simp only [List.count_append, List.nil_append] at *
        omega
      · rcases q2 a m with q | q
        · rcases List.mem_append.mp q with q | q
          · exact .inl (by simp [q])
          · rcases q1 a q with q | q
            · exact .inl (by rcases List.mem_append.mp q with q | q <;> simp [q])
            · exact .inr (by simp [q])
        · exact .inr (by simp [q])
    · rw [hw vs fun j m => hv j (List.mem_cons_of_mem _ m)]
      exact wipe_set (hv i (by simp))
  | [], _ :: _, _, _, _, _, _, _, _, _, _, _, h, _ => by simp [setT.go] at h
  | _ :: _, [], _, _, _, _, _, _, _, _, _, _, h, _ => by simp [setT.go] at h
theorem asgn_nostar {x : Str} {p : Pos} {es : List Expr} {env : PySem.Env} : assignEach (.Name x p :: es) env = (false, assign (.Name x p) env) :: assignEach es env := rfl
theorem pgs_go (ok : XOk X tb cf c) : ∀ {l : List Nat} {xs : List Expr}, ckTg.go c l xs = true → PGs X xs (gsName l) ∧ (assignEach xs X.env).length = l.length ∧ (assignEach xs X.env).findIdx? (·.1) = none
  | [], [], _ => ⟨pgs_nil, rfl, rfl⟩
  | i :: is, x :: xs, h => by
    cases x <;> simp only [ckTg.go, Bool.false_eq_true] at h
    rename_i n p
    simp only [Bool.and_eq_true] at h
    obtain ⟨a, b, d⟩ := pgs_go ok h.2
    refine ⟨pgs_cons (ckTgt_ok ok h.1) a rfl, ?_, ?_⟩
    · rw [asgn_nostar]; simp [b]
    · rw [asgn_nostar, List.findIdx?_cons]; simp [d]
  | [], _ :: _, h => by simp [ckTg.go] at h
  | _ :: _, [], h => by simp [ckTg.go] at h
def tgG (K : PySem.W.Frag) : Tg → TG
  | .nm i => gName i
  | .tp l => gTup K l.length (gsName l)
theorem tg_ok (ok : XOk X tb cf c) {tg : Tg} {xt : Expr} (h : ckTg c tg xt = true) : PG X xt (tgG X.K tg) ∧ TgT X.K tg (tgG X.K tg) := by
  cases tg with
  | nm i =>
    cases xt <;> simp only [ckTg, Bool.false_eq_true] at h
    refine ⟨ckTgt_ok ok h, fun x σ H Q d ρ ρ2 f z zx s r e k => ?_⟩
    cases e
    obtain ⟨f', z', s', l⟩ := SL.set2 (i := i) s r
    exact k _ f' z' s' (by simpa using l) fun vs hv => wipe_set (hv i (by simp [tgSlots]))
  | tp l =>
    cases xt <;> simp only [ckTg, Bool.false_eq_true] at h
    rename_i es kk pp
    obtain ⟨a, b, d⟩ := pgs_go ok h
    refine ⟨pg_tup ok.calm a b d, fun x σ H Q d ρ ρ2 f z zx s r e k => ?_⟩
    simp only [setT] at e
    split at e
    · rename_i ds
      obtain ⟨a, vs, rfl, h, rl⟩ := r.toTup
      have hlen : ∀ (is : List Nat) (ds : List D) (ρ ρ2 : Env), setT.go is ds ρ = some ρ2 → ds.length = is.length := by
        intro is
        induction is with
        | nil => intro ds ρ ρ2 h; cases ds <;> simp [setT.go] at h ⊢
        | cons i is ih => intro ds ρ ρ2 h; cases ds <;> simp only [setT.go, reduceCtorEq] at h; simp [ih _ _ _ h]
      exact ⟨a, vs, rfl, SqT.of h, by rw [RepL.len rl]; exact hlen _ _ _ _ e, sls s rl e k⟩
    · cases e
end
end Pi
/-! Pi16: displays of dicts, list comprehensions. -/
namespace Pi
open PySem L2
/-! ### a new object that is written later -/
section
variable {K : PySem.W.Frag} {b : Bool} {H H1 H2 : Hp} {fp fz F Z : List Addr} {p : Addr}
theorem Ext.new {o : HO} (x : Ext b H fp fz H1 F Z) (hp : H1 p = Option.none) : Ext b H fp fz (upd H1 p o) (p :: F) Z :=
  ⟨fun a u h n => Stay.new hp a u (x.stay a u h n) (fun m => absurd m List.not_mem_nil), fun a m => by
    rcases List.mem_cons.mp m with rfl | m
    · exact (x.some hp).symm
    · exact x.fpx a m, x.fzx⟩
theorem Ext.wr (x : Ext b H fp fz H1 F Z) (hp : p ∈ F) (hn : b = true → H p = Option.none) (s : Stay [p] H1 H2) : Ext b H fp fz H2 F Z := by
  refine ⟨fun a o h n => s a o (x.stay a o h n) fun m => ?_, x.fpx, x.fzx⟩
  rw [List.mem_singleton.mp m] at h n
  cases b with
  | true => rw [hn rfl] at h; cases h
  | false =>
    rcases x.fpx p hp with q | q
    · exact n q
    · rw [q] at h; cases h
theorem Ext.pre {o : HO} (hp : H p = Option.none) (t : Trk H fp) (t' : Trk H fz) (x : Ext b (upd H p o) fp fz H1 F Z) : Ext b H fp fz H1 F Z ∧ p ∉ F ∧ p ∉ Z := by
  have n1 : p ∉ fp := fun m => t p m hp
  have n2 : p ∉ fz := fun m => t' p m hp
  refine ⟨⟨fun a u h n => x.stay a u (Stay.new hp a u h fun m => absurd m List.not_mem_nil) n, fun a m => ?_, fun a m => ?_⟩, fun m => ?_, fun m => ?_⟩
  · refine (x.fpx a m).imp id fun h => ?_
    have : a ≠ p := fun e => by rw [e, upd_same] at h; cases h
    rwa [upd_ne this] at h
  · refine (x.fzx a m).imp id fun h => h.imp id fun h => ?_
    have : a ≠ p := fun e => by rw [e, upd_same] at h; cases h
    rwa [upd_ne this] at h
  · rcases x.fpx p m with h | h
    · exact n1 h
    · rw [upd_same] at h; cases h
  · rcases x.fzx p m with h | h | h
    · exact n1 h
    · exact n2 h
    · rw [upd_same] at h; cases h
end
/-! ### dicts -/
def pairUp : List V → List (V × V)
  | x :: y :: r => (x, y) :: pairUp r
  | _ => []
section
variable {K : PySem.W.Frag} {H : Hp}
theorem rep_key {d : D} {k : Key} {n : Nat} {v : V} {f z : List Addr} (r : Rep K H d n v f z) (h : isKey d = some k) : v = kV k ∧ f = [] ∧ z = [] := by
  cases d <;> simp only [isKey, reduceCtorEq, Option.some.injEq] at h <;> (subst h; simp only [Rep] at r; exact r)
theorem pairs_rep {n : Nat} : ∀ {ds : List D} {ps : List (Key × D)} {vs : List V} {f z : List Addr}, RepL K H ds n vs f z → pairsK ds = some ps → ∃ kvs : List (Key × V), pairUp vs = kvs.map (fun kv => (kV kv.1, kv.2)) ∧ RepK K H ps n kvs f z ∧ ps.length * 2 = ds.length
  | [], ps, vs, f, z, r, h => by
    simp only [RepL] at r
    obtain ⟨rfl, rfl, rfl⟩ := r
    cases h
    exact ⟨[], rfl, by simp [RepK], rfl⟩
  | [_], ps, vs, f, z, r, h => by simp [pairsK] at h
  | a :: b :: ds, ps, vs, f, z, r, h => by
    simp only [RepL] at r
    obtain ⟨v, vs', f1, f2, z1, z2, rfl, rfl, rfl, r1, w, vs2, f3, f4, z3, z4, rfl, rfl, rfl, r2, r3⟩ := r
    simp only [pairsK] at h
    split at h
    · rename_i k ps' hk hps
      cases h
      obtain ⟨rfl, rfl, rfl⟩ := rep_key r1 hk
      obtain ⟨kvs, e, rk, hl⟩ := pairs_rep r3 hps
      refine ⟨(k, w) :: kvs, by simp [pairUp, e], ?_, by simp; omega⟩
      simp only [RepK]
      exact ⟨w, kvs, f3, f4, z3, z4, rfl, by simp, by simp, r2, rk⟩
    · cases h
theorem merge_rep {n : Nat} : ∀ {ps acc : List (Key × D)} {kp ka : List (Key × V)} {f z f2 z2 : List Addr}, RepK K H acc n ka f z → RepK K H ps n kp f2 z2 → ∃ f' z', RepK K H (mergeD acc ps) n (mergeD ka kp) f' z' ∧ Less (f2 ++ f) (z2 ++ z) f' z'
  | [], acc, kp, ka, f, z, f2, z2, r, s => by
    simp only [RepK] at s
    obtain ⟨rfl, rfl, rfl⟩ := s
    exact ⟨f, z, r, by simpa using Less.refl f z⟩
  | (k, d) :: ps, acc, kp, ka, f, z, f2, z2, r, s => by
    simp only [RepK] at s
    obtain ⟨v, kp', g1, g2, y1, y2, rfl, rfl, rfl, s1, s2⟩ := s
    obtain ⟨f3, z3, r3, m1, p1, q1⟩ := RepK.put k r s1
    obtain ⟨f4, z4, r4, m2, p2, q2⟩ := merge_rep r3 s2
    refine ⟨f4, z4, r4, .by (m2 ++ m1) (fun a => ?_) fun a m => ?_⟩
    · have := cnt_perm p1 a
      have := cnt_perm p2 a
      simp only [List.count_append] at *
      omega
    · rcases q2 a m with q | q
      · rcases List.mem_append.mp q with q | q
        · exact .inl (by simp [q])
        · rcases q1 a q with q | q
          · exact .inl (by rcases List.mem_append.mp q with q | q <;> simp [q])
          · exact .inr (by simp [q])
      · exact .inr (by simp [q])
end
section
variable {κ : Type} [DecidableEq κ]
theorem putK_eq (k : κ) (v : V) : ∀ {l : List (κ × V)}, (l.map (·.1)).Nodup → putK l k v = putD l k v
  | [], _ => by simp [putK, putD]
  | p :: r, h => by
    have h2 := List.nodup_cons.mp h
    by_cases hp : p.1 = k
    · have hr : r.map (fun kv => if kv.1 = k then (kv.1, v) else kv) = r := by
        refine (List.map_congr_left fun q m => ?_).trans (List.map_id r)
        have : q.1 ≠ k := fun e => h2.1 (by show p.1 ∈ r.map (·.1); rw [hp, ← e]; exact List.mem_map_of_mem m)
        rw [if_neg this]; rfl
      have ha : ((p :: r).any fun kv => decide (kv.1 = k)) = true := by simp [hp]
      unfold putK
      rw [if_pos ha]
      simp only [putD, if_pos hp, List.map_cons, hr]
    · have ih := putK_eq k v (l := r) h2.2
      have ha : ((p :: r).any fun kv => decide (kv.1 = k)) = (r.any fun kv => decide (kv.1 = k)) := by simp [hp]
      simp only [putD, if_neg hp]
      rw [← ih]
      unfold putK
      rw [ha]
      split
      · simp only [List.map_cons, if_neg hp]
      · simp
theorem putD_keys (k : κ) (v : V) : ∀ (l : List (κ × V)), (putD l k v).map (·.1) = l.map (·.1) ∨ (k ∉ l.map (·.1) ∧ (putD l k v).map (·.1) = l.map (·.1) ++ [k])
  | [] => .inr ⟨by simp, rfl⟩
  | p :: r => by
    by_cases hp : p.1 = k
    · exact .inl (by simp [putD, hp])
    · rcases putD_keys k v r with h | ⟨h, h'⟩
      · exact .inl (by simp only [putD, if_neg hp, List.map_cons, h])
      · refine .inr ⟨fun m => (List.mem_cons.mp m).elim (fun e => hp e.symm) h, by simp only [putD, if_neg hp, List.map_cons, h', List.cons_append]⟩
theorem putD_nodup (k : κ) (v : V) {l : List (κ × V)} (h : (l.map (·.1)).Nodup) : ((putD l k v).map (·.1)).Nodup := by
  rcases putD_keys k v l with e | ⟨n, e⟩ <;> rw [e]
  · exact h
  · exact List.nodup_append.mpr ⟨h, by simp, fun a m b m' => by rw [List.mem_singleton.mp m']; rintro rfl; exact n m⟩
end
theorem mergeK_eq : ∀ (more acc : List (Key × V)), (acc.map (·.1)).Nodup → mergeK acc more = mergeD acc more
  | [], acc, _ => rfl
  | (k, v) :: r, acc, h => by
    show mergeK (putK acc k v) r = mergeD (putD acc k v) r
    rw [putK_eq k v h]
    exact mergeK_eq r _ (putD_nodup k v h)
section
variable {X : Cx} {tb : Tb} {cf : Cf} {c : CkC}
theorem tI_mono {K : PySem.W.Frag} {e : Ex} {σ : St} {H : Hp} {Q Q' : VK} (h : ∀ v H', Q v H' → Q' v H') (t : tI K cf e σ H Q) : tI K cf e σ H Q' := by
  obtain ⟨ρ, fp, fz, d, ρ', s, dj, e, p⟩ := t
  exact ⟨ρ, fp, fz, d, ρ', s, dj, e, fun v H' f1 z1 f2 z2 a b c d e => h v H' (p v H' f1 z1 f2 z2 a b c d e)⟩
structure DOk (X : Cx) (cf : Cf) (l : Ex) (ks : List (Option Expr)) (vs : List Expr) : Prop where
  ex : ∃ trs, (∀ pos, PPs X pos ks vs trs) ∧ ∀ σ H Q, tIA X.K cf l σ H (fun xs H' => Q (pairUp xs) H') → tPairs trs σ H Q
  all : ks.all (·.isSome) = true
  len : ks.length = vs.length
theorem dok_nil : DOk X cf .nil [] [] := ⟨⟨[], fun _ => pps_nil, fun σ H Q h => by
  obtain ⟨_, q⟩ : [] = ([] : List V) ∧ Q [] H := ⟨rfl, nil_tA σ H _ h⟩
  exact q⟩, rfl, rfl⟩
theorem dok_cons {k v r : Ex} {xk xv : Expr} {ks : List (Option Expr)} {vs : List Expr} (nk : ∀ i, k ≠ .lend i) (nv : ∀ i, v ≠ .lend i) (ik : PE X xk (tI X.K cf k)) (iv : PE X xv (tI X.K cf v)) (ir : DOk X cf r ks vs) : DOk X cf (.cons k (.cons v r)) (some xk :: ks) (xv :: vs) := by
  obtain ⟨trs, a, b⟩ := ir.ex
  refine ⟨⟨(tI X.K cf k, tI X.K cf v) :: trs, fun pos => pps_cons ik iv (a pos), fun σ H Q h => ?_⟩, by simpa using ir.all, by simpa using ir.len⟩
  have h1 := cons_tA nk σ H _ h
  refine tI_mono (fun x H1 h2 => ?_) h1
  have h3 := cons_tA nv σ H1 _ h2
  exact tI_mono (fun y H2 h4 => b σ H2 _ h4) h3
theorem dict_nil_pe {k : Nat} {pos : Pos} : PE X (.Dict [] [] pos) (tI X.K cf (.dict k .nil)) := by
  refine pe_imp pe_dnewK fun σ H Q ⟨ρ, fp, fz, d, ρ', s, dj, e, p⟩ q hq => ?_
  simp only [ev, evA, valsA, Rs.of, Rs.bind, List.all_nil, Bool.true_and, List.length_nil, demL, List.map_nil, pairsK, mergeD, Nat.zero_le, decide_true, if_true] at e
  cases e
  have t := s.trk
  have nf : q ∉ fp := fun m => t.1 q m hq
  have nz : q ∉ fz := fun m => t.2 q m hq
  refine p (.ref q) _ [q] [] fp fz (Rep.mkK (g := []) upd_same (by simp [RepK])) (SL.stay (.new hq) s (by simp) (by simp)) ⟨?_, fun a m => ?_⟩ ((Ext.refl _ _ _ _).new hq) (fun _ a m => by rw [List.mem_singleton.mp m]; exact hq)
  · exact List.nodup_cons.mpr ⟨nf, dj.1⟩
  · rcases List.mem_cons.mp m with rfl | m
    · exact nz
    · exact dj.2 a m
theorem dict_pe {k : Nat} {l : Ex} {ks : List (Option Expr)} {vs : List Expr} {pos : Pos} (il : DOk X cf l ks vs) (h0 : ks ≠ []) (h15 : ks.length ≤ 15) : PE X (.Dict ks vs pos) (tI X.K cf (.dict k l)) := by
  obtain ⟨trs, a, b⟩ := il.ex
  refine pe_imp (pe_disp (a pos) il.all il.len h0 h15) fun σ H Q ⟨ρ, fp, fz, d, ρ', s, dj, e, p⟩ q hq => ?_
  simp only [ev] at e
  obtain ⟨xs, ρ1, e1, e2⟩ := bind_inv e
  obtain ⟨as, ρ0, e3, e4⟩ := bind_inv e1
  obtain ⟨hv, h0'⟩ := of_inv e4
  subst h0'
  clear e e1 e4
  split at e2
  · rename_i hc
    simp only [Bool.and_eq_true, decide_eq_true_eq] at hc
    split at e2
    · rename_i ps hps
      cases e2
      have t := s.trk
      refine b σ _ _ ⟨ρ, fp, fz, as, _, SL.stay (.new hq) s (by simp) (by simp), dj, e3, fun ws H1 f1 z1 f2 z2 al s2 d2 x2 n2 => ?_⟩
      obtain ⟨x3, np, nz⟩ := Ext.pre hq t.1 t.2 x2
      have hq1 : H1 q = some (.dK []) := x2.stay q _ upd_same fun m => absurd (wset_sub q m) fun m => t.1 q m hq
      have sv := vals_al hv al
      obtain ⟨f1', z1', rl, l1⟩ := sl_repL k sv hc.1
      obtain ⟨kvs, hup, rk, hlen⟩ := pairs_rep rl hps
      obtain ⟨f5, z5, rm, l5⟩ := merge_rep (acc := []) (ka := []) (f := []) (z := []) (by simp [RepK]) rk
      have l6 : Less f1 z1 f5 z5 := l1.trans (by simpa using l5)
      have hkl : kvs.length ≤ 15 := by
        have := RepK.len rk
        have h2 : (demL xs).length = xs.length := by simp [demL]
        omega
      refine ⟨hq1, kvs, hup, hkl, ?_⟩
      rw [mergeK_eq _ _ (by simp)]
      have hst : Stay [q] H1 (upd H1 q (.dK (mergeD [] kvs))) := stay_upd [] (by rw [hq1]; simp) (by rw [hq1]; exact trivial)
      have nf1 : q ∉ f1 := fun m => np (List.mem_append_left _ m)
      have nz1 : q ∉ z1 := fun m => nz (List.mem_append_left _ m)
      have nf5 : q ∉ f5 := fun m => nf1 (l6.fp q m)
      have nz5 : q ∉ z5 := fun m => (l6.fz q m).elim nz1 nf1
      have rm' := RepK.stay hst _ _ _ _ _ rm (fun a m h => by rw [List.mem_singleton.mp h] at m; exact nf5 m) (fun a m h => by rw [List.mem_singleton.mp h] at m; exact nz5 m)
      have s2' := SL.stay hst s2 (fun a m h => by rw [List.mem_singleton.mp h] at m; exact np (List.mem_append_right _ m)) (fun a m h => by rw [List.mem_singleton.mp h] at m; exact nz (List.mem_append_right _ m))
      have l7 := l6.app (Less.refl f2 z2)
      have d7 := l7.disj d2
      have x7 : Ext (quiet l) H fp fz (upd H1 q (.dK (mergeD [] kvs))) (q :: (f5 ++ f2)) (z5 ++ z2) := by
        refine ⟨fun a o h n => ?_, fun a m => ?_, fun a m => (x3.less l7).fzx a m⟩
        · have hne : a ≠ q := fun e => by rw [e, hq] at h; cases h
          rw [upd_ne hne]
          exact x3.stay a o h n
        · rcases List.mem_cons.mp m with rfl | m
          · exact .inr hq
          · exact (x3.less l7).fpx a m
      refine p (.ref q) _ (q :: f5) z5 f2 z2 (Rep.mkK upd_same rm') s2' ⟨?_, fun a m => ?_⟩ x7 (fun h a m => ?_)
      · exact List.nodup_cons.mpr ⟨fun m => (List.mem_append.mp m).elim nf5 fun m => np (List.mem_append_right _ m), d7.1⟩
      · rcases List.mem_cons.mp m with rfl | m
        · exact fun m => (List.mem_append.mp m).elim nz5 fun m => nz (List.mem_append_right _ m)
        · exact d7.2 a m
      · rcases List.mem_cons.mp m with rfl | m
        · exact hq
        · have h2 := n2 h a (l6.fp a m)
          have hne : a ≠ q := fun e => by rw [e, upd_same] at h2; cases h2
          rwa [upd_ne hne] at h2
    · cases e2
  · cases e2
end
end Pi
/-! Pi17: list comprehensions. -/
namespace Pi
open PySem L2
theorem wipe_get {σ : St} {i : Nat} : ∀ {vs : List Nat}, i ∉ vs → (wipe σ vs)[i]? = σ[i]? := fun h => wipe_out h
theorem wipe_wipe {σ : St} : ∀ (vs ws : List Nat), (∀ v ∈ vs, v ∈ ws) → wipe (wipe σ ws) vs = wipe σ ws
  | [], ws, _ => rfl
  | v :: vs, ws, h => by
    simp only [wipe]
    rw [wipe_wipe vs ws fun u m => h u (List.mem_cons_of_mem _ m)]
    have hm := h v (by simp)
    clear h
    induction ws with
    | nil => exact absurd hm List.not_mem_nil
    | cons w ws ih =>
      simp only [wipe]
      by_cases hw : v = w
      · subst hw; rw [List.set_set]
      · have := ih ((List.mem_cons.mp hm).resolve_left hw)
        rw [List.set_comm _ _ (fun h => hw h.symm), this]
theorem gt_wp (ρ : Env) : ∀ (vs : List Nat) (v : Nat), v ∈ vs → gt (wp ρ vs) v = none
  | [], v, h => absurd h List.not_mem_nil
  | w :: vs, v, h => by
    simp only [wp]
    by_cases hw : v = w
    · subst hw
      by_cases hl : v < (wp ρ vs).length
      · exact gt_st_same _ _ _ hl
      · rw [gt_get]
        rw [List.getElem?_eq_none (by rw [st_len]; omega)]; rfl
    · rw [gt_st_ne _ _ _ _ hw]
      exact gt_wp ρ vs v ((List.mem_cons.mp h).resolve_left hw)
section
variable {K : PySem.W.Frag} {H : Hp}
theorem SL.wipe {σ : St} {ρ : Env} {f z : List Addr} (s : SL K H σ ρ f z) : ∀ (vs : List Nat), ∃ f' z', SL K H (wipe σ vs) (wp ρ vs) f' z' ∧ Less f z f' z'
  | [] => ⟨f, z, s, .refl _ _⟩
  | v :: vs => by
    obtain ⟨f1, z1, s1, l1⟩ := SL.wipe s vs
    obtain ⟨f2, z2, s2, l2⟩ := SL.drop v s1
    exact ⟨f2, z2, SL.other none s2, l1.trans l2⟩
theorem SL.cong : ∀ {σ σ' : St} {ρ : Env} {f z : List Addr}, SL K H σ ρ f z → σ'.length = σ.length → (∀ i, gt ρ i ≠ none → σ'[i]? = σ[i]?) → SL K H σ' ρ f z
  | [], σ', [], f, z, s, hl, h => by
    cases σ' with
    | nil => exact s
    | cons _ _ => simp at hl
  | x :: σ, σ', none :: ρ, f, z, s, hl, h => by
    cases σ' with
    | nil => simp at hl
    | cons y σ' => exact SL.cong (σ := σ) (σ' := σ') (ρ := ρ) s (by simpa using hl) fun i hi => by simpa using h (i + 1) hi
  | x :: σ, σ', some (d, n) :: ρ, f, z, s, hl, h => by
    cases σ' with
    | nil => simp at hl
    | cons y σ' =>
      obtain ⟨v, f1, f2, z1, z2, e, e1, e2, r, s⟩ := s
      have h0 : y = x := by simpa using h 0 (by simp [gt])
      exact ⟨v, f1, f2, z1, z2, by rw [h0]; exact e, e1, e2, r, SL.cong (σ := σ) (σ' := σ') (ρ := ρ) s (by simpa using hl) fun i hi => by simpa using h (i + 1) hi⟩
  | [], _, _ :: _, _, _, s, _, _ => s.elim
  | _ :: _, _, [], _, _, s, _, _ => s.elim
theorem rep_keepI {d : D} {n : Nat} {v : V} {f z : List Addr} {d' : D} {n' : Nat} (r : Rep K H d n v f z) (h : keepI (some (d, n)) = some (d', n')) (H' : Hp) : Rep K H' d' n' v [] [] := by
  cases d <;> simp only [keepI, reduceCtorEq, Option.some.injEq, Prod.mk.injEq] at h <;> (obtain ⟨rfl, rfl⟩ := h; simp only [Rep] at r ⊢; simp [r])
/-- the block's own slots as before -/
theorem rst_ok {H1 : Hp} {σ : St} {ρ1 ρ : Env} {f1 z1 F Z : List Addr} (s : SL K H σ ρ F Z) (s1 : SL K H1 σ ρ1 f1 z1) : ∀ (vs : List Nat), (∀ v ∈ vs, gt ρ v = none) → ∃ F' Z', SL K H σ (rst ρ1 ρ vs) F' Z' ∧ F.Perm F' ∧ Z.Perm Z'
  | [], _ => ⟨F, Z, s, .refl _, .refl _⟩
  | v :: vs, h => by
    obtain ⟨F1, Z1, s2, p, q⟩ := rst_ok s s1 vs fun u m => h u (List.mem_cons_of_mem _ m)
    have hdrop := SL.drop v s2
    simp only [rst]
    by_cases hn : gt (rst ρ1 ρ vs) v = none
    · have e := st_none _ _ hn
      cases hk : keepI (gt ρ1 v) with
      | none => rw [e]; exact ⟨F1, Z1, s2, p, q⟩
      | some s0 =>
        cases hg : gt ρ1 v with
        | none => rw [hg] at hk; cases hk
        | some t0 =>
          obtain ⟨d, n⟩ := t0
          obtain ⟨d', n'⟩ := s0
          obtain ⟨w, _, _, _, _, hσ, r, _⟩ := SL.take s1 hg
          rw [hg] at hk
          rw [← e] at s2
          obtain ⟨F2, Z2, s3, p3, q3⟩ := SL.fill s2 hσ (rep_keepI r hk H)
          exact ⟨F2, Z2, s3, p.trans (by simpa using p3), q.trans (by simpa using q3)⟩
    · -- the slot was restored before: the same value
      have hv : v ∈ vs := by
        refine Classical.byContradiction fun hv => hn ?_
        have : ∀ ws : List Nat, v ∉ ws → gt (rst ρ1 ρ ws) v = gt ρ v := by
          intro ws
          induction ws with
          | nil => intro _; rfl
          | cons w ws ih =>
            intro hw
            simp only [rst]
            rw [gt_st_ne _ _ _ _ (fun e => hw (by rw [e]; exact List.mem_cons_self))]
            exact ih fun m => hw (List.mem_cons_of_mem _ m)
        rw [this vs hv]
        exact h v (by simp)
      have hsame : st (rst ρ1 ρ vs) v (keepI (gt ρ1 v)) = rst ρ1 ρ vs := by
        have hg : gt (rst ρ1 ρ vs) v = keepI (gt ρ1 v) := by
          have : ∀ ws : List Nat, v ∈ ws → gt (rst ρ1 ρ ws) v = keepI (gt ρ1 v) ∨ gt (rst ρ1 ρ ws) v = none := by
            intro ws
            induction ws with
            | nil => intro m; exact absurd m List.not_mem_nil
            | cons w ws ih =>
              intro m
              simp only [rst]
              by_cases hw : v = w
              · subst hw
                by_cases hl : v < (rst ρ1 ρ ws).length
                · exact .inl (gt_st_same _ _ _ hl)
                · refine .inr ?_
                  rw [gt_get, List.getElem?_eq_none (by rw [st_len]; omega)]; rfl
              · rw [gt_st_ne _ _ _ _ hw]
                exact ih ((List.mem_cons.mp m).resolve_left hw)
          exact (this vs hv).resolve_right hn
        rw [← hg]
        have : ∀ (ρ : Env) (v : Nat), st ρ v (gt ρ v) = ρ := by
          intro ρ
          induction ρ with
          | nil => intro v; rfl
          | cons x ρ ih => intro v; cases v with
            | zero => rfl
            | succ v => simp [st, gt, ih]
        exact this _ _
      rw [hsame]
      exact ⟨F1, Z1, s2, p, q⟩
end
section
variable {X : Cx} {tb : Tb} {cf : Cf} {c : CkC}
abbrev blkK (c : CkC) (scope : Scope) : CkC := ⟨c.N, relab scope c.sc, fun x => scope.names.lookup x == some .cell⟩
theorem xok_blk (ok : XOk X tb cf c) {s : Shared} {H : Hp} {scope : Scope} {C : Addr} {cl : List (Str × Addr)} {fp : List Addr} : XOk (X.blk s H scope (compEnvC scope cl C X.env) fp) tb cf (blkK c scope) where
  calm := ok.calm
  nd := ok.nd
  hN := ok.hN
  hsc := by
    show relabel scope X.env = relab scope c.sc
    rw [← ok.hsc]; rfl
  hfn := fun x h => h
  gd := ok.gd
  hu := ok.hu
  hd := ok.hd
  blt := ok.blt
  con := ok.con
  calls := fun sh m => ⟨(ok.calls sh m).ex⟩
theorem pts_imp {ifs : List Expr} {t t' : TT} (h : PTs X ifs t) (i : ∀ σ H Q, t' σ H Q → t σ H Q) : PTs X ifs t' := ⟨fun pins s σ H Q I q => h.run pins s σ H Q I (i σ H Q q)⟩
theorem pts_yes : PTs X [] (tIT X.K cf .tyes) := pts_imp pts_nil fun σ H Q ⟨ρ, fp, fz, b, ρ', s, dj, e, p⟩ => by
  simp only [evT] at e
  cases e
  exact p H fp fz s dj (.refl _ _ _ _)
theorem own_map {α : Type} (f : Nat → α) (own : List Nat) : (own.map fun i => (f i, i)).map (·.2) = own := by simp [List.map_map, Function.comp_def]
theorem lcL_cons {f : D → Env → Rs (Option D)} {x : D} {xs : List D} {ρ ρ5 : Env} {ys : List D} (h : lcL f (x :: xs) ρ = .ok ys ρ5) : ∃ y ρ1 ys', f x ρ = .ok y ρ1 ∧ lcL f xs ρ1 = .ok ys' ρ5 ∧ ys = (match y with | some z => z :: ys' | none => ys') := by
  simp only [lcL] at h
  obtain ⟨y, ρ1, h1, h2⟩ := bind_inv h
  obtain ⟨ys', ρ2, h3, h4⟩ := bind_inv h2
  cases h4
  exact ⟨y, ρ1, ys', h1, h3, rfl⟩
/-- one turn's body -/
def lcB (cf : Cf) (k : Nat) (own : List Nat) (elt : Ex) (tg : Tg) (cnd : Ex) : D → Env → Rs (Option D) := fun x ρ => match setT tg x ρ with
  | none => .stk
  | some ρ2 => (evT cf cnd ρ2).bind fun t ρ3 => if t then
      (ev cf elt ρ3).bind fun s ρ4 => if hasd k s then .ok (some s.1) (wp ρ4 own) else .stk
    else .ok none (wp ρ3 own)
theorem ev_lc {k : Nat} {own : List Nat} {elt : Ex} {tg : Tg} {it cnd : Ex} {ρ : Env} : ev cf (.lc k own elt tg it cnd) ρ = (evI cf it ρ).bind fun xs ρ1 => (lcL (lcB cf k own elt tg cnd) xs (wp ρ1 own)).bind fun ys ρ5 => if ys.length ≤ sizeLine then .ok (.lst ys, k + 1) (rst ρ1 ρ5 own) else .stk := by
  simp only [ev]; rfl
theorem lc_read (σ : St) (H : Hp) (Q : VK) {k : Nat} {own : List Nat} {elt : Ex} {tg : Tg} {it cnd : Ex} (hown : ∀ i ∈ tgSlots tg, i ∈ own) (htg : TgT X.K tg (tgG X.K tg)) (h : tI X.K cf (.lc k own elt tg it cnd) σ H Q) :
    tLc (tII X.K cf it) (tgG X.K tg) (tIT X.K cf cnd) (tI X.K cf elt) own σ H Q := by
  obtain ⟨ρ, fp, fz, d, ρ', s, dj, e, p⟩ := h
  rw [ev_lc] at e
  obtain ⟨xs, ρ1, e1, e2⟩ := bind_inv e
  obtain ⟨ys, ρ5, e3, e4⟩ := bind_inv e2
  clear e e2
  split at e4
  case isFalse => cases e4
  rename_i hlen
  cases e4
  have hq : quiet (.lc k own elt tg it cnd) = true → quiet elt = true ∧ quiet it = true ∧ quiet cnd = true := fun h => and_iff3 (by simpa only [quiet] using h)
  generalize quiet (.lc k own elt tg it cnd) = q at p hq
  refine ⟨ρ, fp, fz, xs, ρ1, s, dj, e1, fun J H1 hold zI f2 z2 it' hh s1 d1 x1 Dd hD => ?_⟩
  have x1 := x1.weak (b' := q) (fun h => (hq h).2.1)
  have tI0 := it'.trk _ hh
  let W : Nat → Nat → Hp → Prop := fun i m Hc => m = xs.length - i ∧ ∃ done acc ρc rest f z F Z, ys = done ++ rest ∧ lcL (lcB cf k own elt tg cnd) (xs.drop i) ρc = .ok rest ρ5 ∧ Hc Dd = some (.lst acc) ∧ RepL X.K Hc done k acc f z ∧ SL X.K Hc (wipe σ own) ρc F Z ∧
    hold Hc ∧ Disj ((Dd :: f) ++ F) ((z ++ zI) ++ Z) ∧ Ext q H fp fz Hc ((Dd :: f) ++ F) ((z ++ zI) ++ Z) ∧ (q = true → New H (Dd :: f)) ∧ (∀ v ∈ own, gt ρc v = none)
  refine ⟨W, ⟨xs.length, by simp, ?_⟩, fun i m Hc ⟨hm, done, acc, ρc, rest, f, z, F, Z, hys, hl, hcD, rl, sc, hhc, dc, xc, nc, gc⟩ => ?_⟩
  · obtain ⟨F, Z, sw, lw⟩ := SL.wipe s1 own
    have x2 := (x1.to (f := F) (z := zI ++ Z) (fun a m => lw.fp a m) (fun a m => (List.mem_append.mp m).elim (fun m => .inr (List.mem_append_left _ m)) fun m => (lw.fz a m).elim (fun m => .inr (List.mem_append_right _ m)) .inl)).new (o := .lst []) hD
    have tw := sw.trk
    refine ⟨[], [], wp ρ1 own, ys, [], [], F, Z, rfl, by simpa using e3, upd_same, by simp [RepL], SL.stay (.new hD) sw (by simp) (by simp), it'.keep [] _ _ (.new hD) (by simp) hh, ⟨?_, ?_⟩, x2, fun h a m => ?_, fun v hv => gt_wp _ _ _ hv⟩
    · have dF := lw.disj ⟨d1.1, fun a m m' => d1.2 a m (List.mem_append_right _ m')⟩
      exact List.nodup_cons.mpr ⟨fun m => tw.1 Dd m hD, dF.1⟩
    · intro a m m'
      have dF := lw.disj ⟨d1.1, fun a m m' => d1.2 a m (List.mem_append_right _ m')⟩
      simp only [List.nil_append, List.cons_append] at m m'
      rcases List.mem_cons.mp m with rfl | m
      · rcases List.mem_append.mp m' with m' | m'
        · exact tI0 a m' hD
        · exact tw.2 a m' hD
      · rcases List.mem_append.mp m' with m' | m'
        · exact d1.2 a (lw.fp a m) (List.mem_append_left _ m')
        · exact dF.2 a m m'
    · subst h
      rw [List.mem_singleton.mp m]; exact x1.none hD
  · by_cases hi : i < xs.length
    · refine .inr ?_
      have hx : xs[i]? = some xs[i] := List.getElem?_eq_getElem hi
      obtain ⟨hgo, hyld⟩ := it'.go i Hc xs[i] hhc hx
      refine ⟨hgo, W (i + 1) (xs.length - (i + 1)), fun H' w => ⟨_, by omega, w⟩, fun x H' hy => ?_⟩
      obtain ⟨st0, zx, rx, hzx⟩ := hyld x H' hy
      rw [List.drop_eq_getElem_cons hi] at hl
      obtain ⟨y, ρa, rest', hb, hl', hrest⟩ := lcL_cons hl
      unfold lcB at hb
      split at hb
      · cases hb
      rename_i ρ2 hset
      obtain ⟨t, ρ3, ht, hb2⟩ := bind_inv hb
      have sc' := SL.stay st0 sc (by simp) (by simp)
      have trl := RepL.own _ _ _ _ _ rl
      have tc := sc.trk
      have tz := it'.trk _ hhc
      have hne : ∀ a ∈ (Dd :: f) ++ F, Hc a ≠ none := fun a m => by
        rcases List.mem_append.mp m with m | m
        · rcases List.mem_cons.mp m with rfl | m
          · rw [hcD]; simp
          · obtain ⟨o, e, _⟩ := trl.1 a m
            rw [e]; simp
        · exact tc.1 a m
      have dc' : Disj ((Dd :: f) ++ F) ((z ++ zI) ++ (zx ++ Z)) := ⟨dc.1, fun a m m' => by
        rcases List.mem_append.mp m' with m' | m'
        · exact dc.2 a m (List.mem_append_left _ m')
        · rcases List.mem_append.mp m' with m' | m'
          · rcases hzx a m' with h | h
            · exact dc.2 a m (List.mem_append_left _ (List.mem_append_right _ h))
            · exact hne a m h
          · exact dc.2 a m (List.mem_append_right _ m')⟩
      have xc' : Ext q H fp fz H' ((Dd :: f) ++ F) ((z ++ zI) ++ (zx ++ Z)) := ⟨fun a o h n => st0 a o (xc.stay a o h n) (by simp), xc.fpx, fun a m => by
        rcases List.mem_append.mp m with m | m
        · exact xc.fzx a (List.mem_append_left _ m)
        · rcases List.mem_append.mp m with m | m
          · rcases hzx a m with h | h
            · exact xc.fzx a (List.mem_append_left _ (List.mem_append_right _ h))
            · exact (xc.some h).elim (fun h => .inr (.inr h)) .inl
          · exact xc.fzx a (List.mem_append_right _ m)⟩
      have rl0 := RepL.stay0 st0 rl
      have hD0 := st0 Dd _ hcD (by simp)
      have hh0 := it'.keep [] _ _ st0 (by simp) hhc
      refine htg x _ H' _ _ ρc ρ2 F Z zx sc' rx hset (fun σ2 f' z' s2 l2 hw => ?_)
      have l3 : Less ((Dd :: f) ++ F) ((z ++ zI) ++ (zx ++ Z)) ((Dd :: f) ++ f') ((z ++ zI) ++ z') := (Less.refl _ _).app l2
      have d3 := l3.disj dc'
      have x3 := xc'.less l3
      have hwo : wipe σ2 own = wipe σ own := by rw [hw own hown]; exact wipe_wipe own own fun _ h => h
      have tkF : Trk H' (Dd :: f) := fun a m => by
        rcases List.mem_cons.mp m with rfl | m
        · rw [hD0]; simp
        · obtain ⟨o, e, _⟩ := (RepL.own _ _ _ _ _ rl0).1 a m
          rw [e]; simp
      have tkZ : Trk H' (z ++ zI) := fun a m => by
        rcases List.mem_append.mp m with m | m
        · obtain ⟨o, e⟩ := (RepL.own _ _ _ _ _ rl0).2 a m
          rw [e]; simp
        · exact it'.trk _ hh0 a m
      refine ⟨hwo, ρ2, f', z', t, ρ3, s2, d3.right, ht, fun H3 f3 z3 s3 d4 x4 => ?_⟩
      have d4' := Ext.disj d3 tkF tkZ x4 d4
      have x4' := Ext.trans x3 (x4.weak (b' := q) fun h => (hq h).2.2)
      have off1 : ∀ a ∈ Dd :: f, a ∉ wset (quiet cnd) f' := d3.off1
      have off2 : ∀ a ∈ z ++ zI, a ∉ wset (quiet cnd) f' := d3.off2
      have rl3 := RepL.stay x4.stay _ _ _ _ _ rl0 (fun a m => off1 a (List.mem_cons_of_mem _ m)) (fun a m => off2 a (List.mem_append_left _ m))
      have hD3 := x4.stay Dd _ hD0 (fun m => absurd m (off1 Dd (by simp)))
      have hh3 := it'.keep _ _ _ x4.stay (fun a m => off2 a (List.mem_append_right _ m)) hh0
      cases t with
      | false =>
        simp only [Bool.false_eq_true, if_false] at hb2 ⊢
        cases hb2
        simp only at hrest
        subst hrest
        obtain ⟨F', Z', sw, lw⟩ := SL.wipe s3 own
        rw [hwo] at sw
        have l5 := (Less.refl (Dd :: f) (z ++ zI)).app lw
        exact ⟨rfl, done, acc, wp ρ3 own, _, f, z, F', Z', hys, hl', hD3, rl3, sw, hh3, l5.disj d4', x4'.less l5, nc, fun v hv => gt_wp _ _ _ hv⟩
      | true =>
        simp only [if_true] at hb2 ⊢
        obtain ⟨sv, ρ4, he, hb3⟩ := bind_inv hb2
        split at hb3
        case isFalse => cases hb3
        rename_i hhd
        cases hb3
        simp only at hrest
        have tkF3 : Trk H3 (Dd :: f) := fun a m => by
          rcases List.mem_cons.mp m with rfl | m
          · rw [hD3]; simp
          · obtain ⟨o, e, _⟩ := (RepL.own _ _ _ _ _ rl3).1 a m
            rw [e]; simp
        have tkZ3 : Trk H3 (z ++ zI) := fun a m => by
          rcases List.mem_append.mp m with m | m
          · obtain ⟨o, e⟩ := (RepL.own _ _ _ _ _ rl3).2 a m
            rw [e]; simp
          · exact it'.trk _ hh3 a m
        refine ⟨ρ3, f3, z3, sv, ρ4, s3, d4, he, fun u H4 f5 z5 f6 z6 ru s6 d6 x6 n6 => ?_⟩
        have d6' := Ext.disj d4' tkF3 tkZ3 x6 d6
        have x6' := Ext.trans x4' (x6.weak (b' := q) fun h => (hq h).1)
        have off1 : ∀ a ∈ Dd :: f, a ∉ wset (quiet elt) f3 := d4'.off1
        have off2 : ∀ a ∈ z ++ zI, a ∉ wset (quiet elt) f3 := d4'.off2
        have rl4 := RepL.stay x6.stay _ _ _ _ _ rl3 (fun a m => off1 a (List.mem_cons_of_mem _ m)) (fun a m => off2 a (List.mem_append_left _ m))
        have hD4 := x6.stay Dd _ hD3 (fun m => absurd m (off1 Dd (by simp)))
        have hh4 := it'.keep _ _ _ x6.stay (fun a m => off2 a (List.mem_append_right _ m)) hh3
        obtain ⟨f5', z5', ru', l5⟩ := Rep.hasd hhd ru
        obtain ⟨F', Z', sw, lw⟩ := SL.wipe s6 own
        rw [hwo] at sw
        have hst : Stay [Dd] H4 (upd H4 Dd (.lst (acc ++ [u]))) := stay_upd [] (by rw [hD4]; simp) (by rw [hD4]; exact trivial)
        -- the addresses beside D
        have ndD : Dd ∉ f ++ (f5 ++ f6) ∧ Dd ∉ (z ++ zI) ++ (z5 ++ z6) := by
          have h1 := List.nodup_cons.mp (show (Dd :: (f ++ (f5 ++ f6))).Nodup from d6'.1)
          exact ⟨h1.1, d6'.2 Dd (by simp)⟩
        have no : ∀ a : Addr, a ≠ Dd → a ∉ [Dd] := fun a h m => h (List.mem_singleton.mp m)
        have nf : ∀ a ∈ f, a ∉ [Dd] := fun a m => no a fun e => ndD.1 (by rw [e] at m; simp [m])
        have nz : ∀ a ∈ z, a ∉ [Dd] := fun a m => no a fun e => ndD.2 (by rw [e] at m; simp [m])
        have nzI : ∀ a ∈ zI, a ∉ [Dd] := fun a m => no a fun e => ndD.2 (by rw [e] at m; simp [m])
        have nf5 : ∀ a ∈ f5, a ∉ [Dd] := fun a m => no a fun e => ndD.1 (by rw [e] at m; simp [m])
        have nz5 : ∀ a ∈ z5, a ∉ [Dd] := fun a m => no a fun e => ndD.2 (by rw [e] at m; simp [m])
        have nf6 : ∀ a ∈ f6, a ∉ [Dd] := fun a m => no a fun e => ndD.1 (by rw [e] at m; simp [m])
        have nz6 : ∀ a ∈ z6, a ∉ [Dd] := fun a m => no a fun e => ndD.2 (by rw [e] at m; simp [m])
        have rl5 := RepL.stay hst _ _ _ _ _ rl4 nf nz
        have ru5 := Rep.stay hst _ _ _ _ _ ru' (fun a m => nf5 a (l5.fp a m)) (fun a m => (l5.fz a m).elim (nz5 a) (nf5 a))
        have sw5 := SL.stay hst sw (fun a m => nf6 a (lw.fp a m)) (fun a m => (lw.fz a m).elim (nz6 a) (nf6 a))
        have rl6 : RepL X.K (upd H4 Dd (.lst (acc ++ [u]))) (done ++ [sv.1]) k (acc ++ [u]) (f ++ f5') (z ++ z5') := by
          refine RepL.app rl5 ?_
          simp only [RepL]
          exact ⟨u, [], f5', [], z5', [], rfl, by simp, by simp, ru5, rfl, rfl, rfl⟩
        have L : Less ((Dd :: f) ++ (f5 ++ f6)) ((z ++ zI) ++ (z5 ++ z6)) ((Dd :: (f ++ f5')) ++ F') (((z ++ z5') ++ zI) ++ Z') := by
          obtain ⟨m1, p1, q1⟩ := l5
          obtain ⟨m2, p2, q2⟩ := lw
          refine .by (m1 ++ m2) (fun a => ?_) fun a m => ?_
          · have := cnt_perm p1 a
            have := cnt_perm p2 a
            simp only [List.count_append, List.count_cons] at *
            omega
          · simp only [List.mem_append] at m ⊢
            rcases m with ((m | m) | m) | m
            · exact .inl (.inl (.inl m))
            · exact (q1 a m).imp (fun m => .inr (.inl m)) .inl
            · exact .inl (.inl (.inr m))
            · exact (q2 a m).imp (fun m => .inr (.inr m)) .inr
        have hxD : Ext q H fp fz (upd H4 Dd (.lst (acc ++ [u]))) ((Dd :: f) ++ (f5 ++ f6)) ((z ++ zI) ++ (z5 ++ z6)) := x6'.wr (by simp) (fun h => nc h Dd (by simp)) hst
        refine ⟨acc, hD4, ?_, rfl, done ++ [sv.1], acc ++ [u], wp ρ4 own, rest', f ++ f5', z ++ z5', F', Z', by rw [hys, hrest]; simp, hl', upd_same, rl6, sw5, it'.keep _ _ _ hst nzI hh4, L.disj d6', hxD.less L, fun h a m => ?_, fun v hv => gt_wp _ _ _ hv⟩
        · rw [hys, hrest, List.length_append] at hlen
          rw [RepL.len rl4]
          simp only [List.length_cons] at hlen
          omega
        · rcases List.mem_cons.mp m with rfl | m
          · exact nc h _ (by simp)
          · rcases List.mem_append.mp m with m | m
            · exact nc h a (by simp [m])
            · have h1 := n6 (hq h).1 a (l5.fp a m)
              subst h
              exact x4'.none h1
    · refine .inl ⟨it'.stop i Hc hhc (by omega), ?_⟩
      rw [List.drop_eq_nil_of_le (by omega)] at hl
      simp only [lcL] at hl
      cases hl
      have hys' : ys = done := by simpa using hys
      subst hys'
      have sσ : SL X.K Hc σ ρ5 F Z := SL.cong sc (by rw [wipe_length]) fun j hj => (wipe_out fun m => hj (gc j m)).symm
      obtain ⟨F', Z', sf, p1, p2⟩ := rst_ok sσ s1 own gc
      have L : Less ((Dd :: f) ++ F) ((z ++ zI) ++ Z) ((Dd :: f) ++ F') (z ++ Z') := by
        refine .by [] (fun a => ?_) fun a m => .inl ?_
        · have := cnt_perm p1 a
          simp only [List.count_append, List.count_cons, List.count_nil] at *
          omega
        · rcases List.mem_append.mp m with m | m
          · simp [m]
          · exact List.mem_append_right _ (p2.mem_iff.mpr m)
      exact p (.ref Dd) Hc (Dd :: f) z F' Z' (Rep.mkL hcD rl) sf (L.disj dc) (xc.less L) nc
theorem lc_pe (ok : XOk X tb cf c) {k : Nat} {own : List Nat} {elt : Ex} {tg : Tg} {it cnd : Ex} {xe xt xi : Expr} {ifs : List Expr} {scope : Scope} {pos : Pos} (hi : PI X xt xi (tII X.K cf it)) (hblk : blkC c.N c.sc scope (own.map fun i => ((c.N[i]?).getD Str.empty, i)) = true)
    (hown : (tgSlots tg).all own.contains = true) (htg : ckTg (blkK c scope) tg xt = true)
    (he : ∀ X', XOk X' tb cf (blkK c scope) → PE X' xe (tI X'.K cf elt)) (hc : ∀ X', XOk X' tb cf (blkK c scope) → PTs X' ifs (tIT X'.K cf cnd)) (hs : ∀ x, foldedSetIterable xi X.env x = pure x) :
    PE X (.ListComp xe [⟨xt, xi, ifs, 0⟩] scope pos) (tI X.K cf (.lc k own elt tg it cnd)) := by
  have hb : BlkOk X.N X.env.scope scope (own.map fun i => ((c.N[i]?).getD Str.empty, i)) := by
    rw [ok.hN, ok.hsc]; exact blkOk_by hblk
  have h0 := pe_lc (X := X) (pos := pos) (g := tgG X.K tg) (tt := tIT X.K cf cnd) (te := tI X.K cf elt) ok.calm ok.nd hi hb (fun s H C cl fp => (tg_ok (xok_blk ok) htg).1) (fun s H C cl fp => hc _ (xok_blk ok)) (fun s H C cl fp => he _ (xok_blk ok)) hs
  rw [own_map] at h0
  refine ⟨fun pins s σ H Q I q => h0.run pins s σ H Q I (lc_read σ H Q (fun i m => ?_) (tg_ok (xok_blk (s := s) (H := H) (scope := scope) (C := 0) (cl := []) (fp := []) ok) htg).2 q)⟩
  simpa using List.all_eq_true.mp hown i m
end
end Pi
/-! Pi18: every expression. -/
namespace Pi
open PySem L2
theorem nof {P : Prop} (h : false = true) : P := by cases h
section
variable {tb : Tb} {cf : Cf}
structure Ok (tb : Tb) (cf : Cf) (e : Ex) : Prop where
  pe : ∀ (X : Cx) (c : CkC) (x : Expr), XOk X tb cf c → ck tb c e x = true → PE X x (tI X.K cf e)
  pa : ∀ (X : Cx) (c : CkC) (xs : List Expr) (kws : List Keyword), XOk X tb cf c → ckA tb c e (xs ++ kws.map (·.value)) = true → PAK X xs kws (tIA X.K cf e)
  pd : ∀ (X : Cx) (c : CkC) (ks : List (Option Expr)) (vs : List Expr), XOk X tb cf c → ckD tb c e ks vs = true → DOk X cf e ks vs
  pv : ∀ v r, e = .cons v r → (∀ (X : Cx) (c : CkC) (x : Expr), XOk X tb cf c → ck tb c v x = true → PE X x (tI X.K cf v)) ∧ (∀ (X : Cx) (c : CkC) (ks : List (Option Expr)) (vs : List Expr), XOk X tb cf c → ckD tb c r ks vs = true → DOk X cf r ks vs)
  po : ∀ (X : Cx) (c : CkC) (x : Option Expr), XOk X tb cf c → ckO tb c e x = true → PO X x (tIO X.K cf e)
  pt : ∀ (X : Cx) (c : CkC) (x : Expr), XOk X tb cf c → ckT tb c e x = true → PT X x (tIT X.K cf e)
  pw : ∀ (X : Cx) (c : CkC) (op : BoolOp) (xs : List Expr) (p : Pos), XOk X tb cf c → ckT tb c e (.BoolOp op xs p) = true → PW X (.BoolOp op xs p) (tIT X.K cf e)
  pi : ∀ (X : Cx) (c : CkC) (xt x : Expr), XOk X tb cf c → ckI tb c e xt x = true → PI X xt x (tII X.K cf e)
theorem Ok.mkE {e : Ex} (pe : ∀ (X : Cx) (c : CkC) (x : Expr), XOk X tb cf c → ck tb c e x = true → PE X x (tI X.K cf e)) (ha : ∀ c xs, ckA tb c e xs = false) (hd : ∀ c ks vs, ckD tb c e ks vs = false) (ho : ∀ c x, ckO tb c e x = false)
    (ht : ∀ c x, ckT tb c e x = false) (hi : ∀ c xt x, ckI tb c e xt x = false) (hv : ∀ v r, e ≠ .cons v r := by intro v r h; cases h) : Ok tb cf e where
  pv := fun v r h => absurd h (hv v r)
  pe := pe
  pa := fun X c xs kws ok h => by rw [ha] at h; cases h
  pd := fun X c ks vs ok h => by rw [hd] at h; cases h
  po := fun X c x ok h => by rw [ho] at h; cases h
  pt := fun X c x ok h => by rw [ht] at h; cases h
  pw := fun X c op xs p ok h => by rw [ht] at h; cases h
  pi := fun X c xt x ok h => by rw [hi] at h; cases h
theorem Ok.mkT {e : Ex} (he : ∀ c x, ck tb c e x = false) (ha : ∀ c xs, ckA tb c e xs = false) (hd : ∀ c ks vs, ckD tb c e ks vs = false) (ho : ∀ c x, ckO tb c e x = false)
    (pt : ∀ (X : Cx) (c : CkC) (x : Expr), XOk X tb cf c → ckT tb c e x = true → PT X x (tIT X.K cf e)) (pw : ∀ (X : Cx) (c : CkC) (op : BoolOp) (xs : List Expr) (p : Pos), XOk X tb cf c → ckT tb c e (.BoolOp op xs p) = true → PW X (.BoolOp op xs p) (tIT X.K cf e)) (hi : ∀ c xt x, ckI tb c e xt x = false) (hv : ∀ v r, e ≠ .cons v r := by intro v r h; cases h) : Ok tb cf e where
  pv := fun v r h => absurd h (hv v r)
  pe := fun X c x ok h => by rw [he] at h; cases h
  pa := fun X c xs kws ok h => by rw [ha] at h; cases h
  pd := fun X c ks vs ok h => by rw [hd] at h; cases h
  po := fun X c x ok h => by rw [ho] at h; cases h
  pt := pt
  pw := pw
  pi := fun X c xt x ok h => by rw [hi] at h; cases h
theorem Ok.mkI {e : Ex} (he : ∀ c x, ck tb c e x = false) (ha : ∀ c xs, ckA tb c e xs = false) (hd : ∀ c ks vs, ckD tb c e ks vs = false) (ht : ∀ c x, ckT tb c e x = false)
    (po : ∀ (X : Cx) (c : CkC) (x : Option Expr), XOk X tb cf c → ckO tb c e x = true → PO X x (tIO X.K cf e)) (pi : ∀ (X : Cx) (c : CkC) (xt x : Expr), XOk X tb cf c → ckI tb c e xt x = true → PI X xt x (tII X.K cf e)) (hv : ∀ v r, e ≠ .cons v r := by intro v r h; cases h) : Ok tb cf e where
  pv := fun v r h => absurd h (hv v r)
  pe := fun X c x ok h => by rw [he] at h; cases h
  pa := fun X c xs kws ok h => by rw [ha] at h; cases h
  pd := fun X c ks vs ok h => by rw [hd] at h; cases h
  po := po
  pt := fun X c x ok h => by rw [ht] at h; cases h
  pw := fun X c op xs p ok h => by rw [ht] at h; cases h
  pi := pi
def cndOk (tb : Tb) (c : CkC) (cnd : Ex) (ifs : List Expr) : Bool := match ifs with
  | [] => (match cnd with | .tyes => true | _ => false)
  | [xc] => ckT tb c cnd xc
  | _ => false
theorem star_tail {x : Expr} {xs : List Expr} {env : PySem.Env} (h : starEach (x :: xs) env = (x :: xs).map fun x => (false, eval x env)) : starEach xs env = xs.map fun x => (false, eval x env) := by
  cases x <;> exact (List.cons.inj h).2
theorem ckA_starP {c : CkC} : ∀ {l : Ex} {xs ys : List Expr} (env : PySem.Env), ckA tb c l (xs ++ ys) = true → starEach xs env = xs.map fun x => (false, eval x env) := by
  intro l xs ys env h
  have h1 := ckA_star env h
  clear h
  induction xs with
  | nil => rfl
  | cons x xs ih =>
    have h2 := ih (star_tail h1)
    have : starEach (x :: xs) env = (false, eval x env) :: starEach xs env := by
      cases x <;> first | rfl | exact nomatch congrArg Prod.fst (List.cons.inj h1).1
    rw [this, h2]; rfl
theorem ckTg_lt {c : CkC} {tg : Tg} {xt : Expr} (h : ckTg c tg xt = true) : ∀ i ∈ tgSlots tg, i < c.N.length := by
  have h1 : ∀ {i : Nat} {x : Str}, ckTgt c i x = true → i < c.N.length := by
    intro i x h
    simp only [ckTgt, Bool.and_eq_true, beq_iff_eq] at h
    exact (List.getElem?_eq_some_iff.mp h.1.1).1
  have h2 : ∀ {l : List Nat} {xs : List Expr}, ckTg.go c l xs = true → ∀ i ∈ l, i < c.N.length := by
    intro l
    induction l with
    | nil => intro xs _ i m; exact absurd m List.not_mem_nil
    | cons j l ih =>
      intro xs h i m
      cases xs with
      | nil => exact nof h
      | cons x xs =>
        cases x <;> first | exact nof h | skip
        simp only [ckTg.go, Bool.and_eq_true] at h
        rcases List.mem_cons.mp m with rfl | m
        · exact h1 h.1
        · exact ih h.2 i m
  cases tg with
  | nm i =>
    cases xt <;> first | exact nof h | skip
    intro j m
    rw [List.mem_singleton.mp m]
    exact h1 h
  | tp l =>
    cases xt <;> first | exact nof h | skip
    exact h2 h
theorem tq_pw {X : Cx} {a : Ex} {xa : Expr} (ia : PW X xa (tIT X.K cf a)) (hq : quiet a = true) : PW X xa (tIT X.K cf (.tq a)) := by
  refine pw_imp ia fun σ H Q ⟨ρ, fp, fz, w, ρ', s, dj, e, p⟩ => ?_
  simp only [evT] at e
  obtain ⟨k, ρ1, e1, ea⟩ := bind_inv e
  cases ea
  refine ⟨ρ, fp, fz, w, ρ1, s, dj, e1, fun H1 f2 z2 s2 d2 x2 => ?_⟩
  rw [hq] at x2
  have s' : SL X.K H1 σ ρ fp fz := SL.stay x2.stay s (fun _ _ m => absurd m List.not_mem_nil) (fun _ _ m => absurd m List.not_mem_nil)
  exact p H1 fp fz s' dj ⟨x2.stay.mono fun _ m => absurd m List.not_mem_nil, fun a m => .inl m, fun a m => .inr (.inl m)⟩
theorem star1 {X : Cx} {c : CkC} {a : Ex} {x : Expr} (h : ck tb c a x = true) (es : List Expr) : starEach (x :: es) X.env = (false, eval x X.env) :: starEach es X.env := ck_nostar h es X.env
theorem PAK.pa' {X : Cx} {xs : List Expr} {c : CkC} {e : Ex} (o : Ok tb cf e) (ok : XOk X tb cf c) (h : ckA tb c e xs = true) : PA X xs (tIA X.K cf e) := PAK.pa (o.pa X c xs [] ok (by simpa using h))
theorem ok_all (e : Ex) : Ok tb cf e := by
  induction e with
  | var i =>
    refine .mkE (fun X c x ok h => ?_) (fun _ _ => rfl) (fun _ _ _ => rfl) (fun _ _ => rfl) (fun _ _ => rfl) (fun _ _ _ => rfl)
    cases x <;> first | exact nof h | exact var_ok ok h
  | mv i =>
    refine .mkE (fun X c x ok h => ?_) (fun _ _ => rfl) (fun _ _ _ => rfl) (fun _ _ => rfl) (fun _ _ => rfl) (fun _ _ _ => rfl)
    cases x <;> first | exact nof h | exact mv_ok ok h
  | q e ih =>
    refine .mkE (fun X c x ok h => ?_) (fun _ _ => rfl) (fun _ _ _ => rfl) (fun _ _ => rfl) (fun _ _ => rfl) (fun _ _ _ => rfl)
    have h : (ck tb c e x && quiet e) = true := h
    rw [Bool.and_eq_true] at h
    exact q_ok (ih.pe X c x ok h.1) h.2
  | int i =>
    refine .mkE (fun X c x ok h => ?_) (fun _ _ => rfl) (fun _ _ _ => rfl) (fun _ _ => rfl) (fun _ _ => rfl) (fun _ _ _ => rfl)
    cases x <;> first | exact nof h | skip
    rename_i v k p
    cases v <;> first | exact nof h | skip
    rename_i j
    have h : (i == j) = true := h
    rw [beq_iff_eq] at h
    subst h
    exact const_ok pe_int (fun ρ => rfl) (fun H => ⟨rfl, rfl, rfl⟩)
  | bl i =>
    refine .mkE (fun X c x ok h => ?_) (fun _ _ => rfl) (fun _ _ _ => rfl) (fun _ _ => rfl) (fun _ _ => rfl) (fun _ _ _ => rfl)
    cases x <;> first | exact nof h | skip
    rename_i v k p
    cases v <;> first | exact nof h | skip
    rename_i j
    have h : (i == j) = true := h
    rw [beq_iff_eq] at h
    subst h
    exact const_ok pe_bl (fun ρ => rfl) (fun H => ⟨rfl, rfl, rfl⟩)
  | str i =>
    refine .mkE (fun X c x ok h => ?_) (fun _ _ => rfl) (fun _ _ _ => rfl) (fun _ _ => rfl) (fun _ _ => rfl) (fun _ _ _ => rfl)
    cases x <;> first | exact nof h | skip
    rename_i v k p
    cases v <;> first | exact nof h | skip
    rename_i j
    have h : (i == j) = true := h
    rw [beq_iff_eq] at h
    subst h
    exact const_ok pe_str (fun ρ => rfl) (fun H => ⟨rfl, rfl, rfl⟩)
  | non =>
    refine .mkE (fun X c x ok h => ?_) (fun _ _ => rfl) (fun _ _ _ => rfl) (fun _ _ => rfl) (fun _ _ => rfl) (fun _ _ _ => rfl)
    cases x <;> first | exact nof h | skip
    rename_i v k p
    cases v <;> first | exact nof h | exact const_ok pe_non (fun ρ => rfl) (fun H => ⟨rfl, rfl, rfl⟩)
  | con j =>
    refine .mkE (fun X c x ok h => ?_) (fun _ _ => rfl) (fun _ _ _ => rfl) (fun _ _ => rfl) (fun _ _ => rfl) (fun _ _ _ => rfl)
    cases x <;> first | exact nof h | skip
    simp only [ck, Bool.and_eq_true, beq_iff_eq] at h
    exact con_ok ok h.1.1 h.1.2 h.2
  | op2 o a b iha ihb =>
    refine .mkE (fun X c x ok h => ?_) (fun _ _ => rfl) (fun _ _ _ => rfl) (fun _ _ => rfl) (fun _ _ => rfl) (fun _ _ _ => rfl)
    cases x <;> first | exact nof h | skip
    simp only [ck, Bool.and_eq_true, beq_iff_eq] at h
    obtain ⟨⟨rfl, h1⟩, h2⟩ := h
    exact op2_pe (iha.pe X c _ ok h1) (ihb.pe X c _ ok h2)
  | neg a ih =>
    refine .mkE (fun X c x ok h => ?_) (fun _ _ => rfl) (fun _ _ _ => rfl) (fun _ _ => rfl) (fun _ _ => rfl) (fun _ _ _ => rfl)
    cases x <;> first | exact nof h | skip
    rename_i op x p
    cases op <;> first | exact nof h | exact neg_pe (ih.pe X c x ok h)
  | not a ih =>
    refine .mkE (fun X c x ok h => ?_) (fun _ _ => rfl) (fun _ _ _ => rfl) (fun _ _ => rfl) (fun _ _ => rfl) (fun _ _ _ => rfl)
    cases x <;> first | exact nof h | skip
    rename_i op x p
    cases op <;> first | exact nof h | exact not_pe (ih.pe X c x ok h)
  | cmp o a b iha ihb =>
    refine .mkE (fun X c x ok h => ?_) (fun _ _ => rfl) (fun _ _ _ => rfl) (fun _ _ => rfl) (fun _ _ => rfl) (fun _ _ _ => rfl)
    cases x <;> first | exact nof h | skip
    rename_i xa ops cs p
    rcases ops with _ | ⟨o', _ | ⟨o2, ops⟩⟩ <;> rcases cs with _ | ⟨xb, _ | ⟨x2, cs⟩⟩ <;> first | exact nof h | (cases ops <;> exact nof h) | (rcases ops with _ | ⟨_, _⟩ <;> cases cs <;> exact nof h) | skip
    simp only [ck, Bool.and_eq_true, beq_iff_eq, Bool.not_eq_true'] at h
    obtain ⟨⟨⟨rfl, h1⟩, h2⟩, h3⟩ := h
    exact cmp_pe ok (iha.pe X c _ ok h1) (ihb.pe X c _ ok h2) h3
  | chain o p a b d iha ihb ihd =>
    refine .mkE (fun X c x ok h => ?_) (fun _ _ => rfl) (fun _ _ _ => rfl) (fun _ _ => rfl) (fun _ _ => rfl) (fun _ _ _ => rfl)
    cases x <;> first | exact nof h | skip
    rename_i xa ops cs pp
    rcases ops with _ | ⟨o', _ | ⟨o2, _ | ⟨o3, ops⟩⟩⟩ <;> rcases cs with _ | ⟨xb, _ | ⟨x2, _ | ⟨x3, cs⟩⟩⟩ <;> first | exact nof h | skip
    simp only [ck, Bool.and_eq_true, beq_iff_eq, Bool.not_eq_true'] at h
    obtain ⟨⟨⟨⟨⟨rfl, rfl⟩, h1⟩, h2⟩, h3⟩, h4⟩ := h
    exact chain_pe ok (iha.pe X c _ ok h1) (ihb.pe X c _ ok h2) (ihd.pe X c _ ok h3) h4
  | and a b iha ihb =>
    refine .mkE (fun X c x ok h => ?_) (fun _ _ => rfl) (fun _ _ _ => rfl) (fun _ _ => rfl) (fun _ _ => rfl) (fun _ _ _ => rfl)
    cases x <;> first | exact nof h | skip
    rename_i op vs p
    rcases vs with _ | ⟨xa, _ | ⟨xb, r⟩⟩ <;> cases op <;> first | exact nof h | skip
    cases r with
    | nil =>
      simp only [ck, Bool.and_eq_true] at h
      exact and_pe (iha.pe X c _ ok h.1) (pe_one (ihb.pe X c _ ok h.2))
    | cons y r =>
      simp only [ck, Bool.and_eq_true] at h
      exact and_pe (iha.pe X c _ ok h.1) (ihb.pe X c _ ok h.2)
  | or a b iha ihb =>
    refine .mkE (fun X c x ok h => ?_) (fun _ _ => rfl) (fun _ _ _ => rfl) (fun _ _ => rfl) (fun _ _ => rfl) (fun _ _ _ => rfl)
    cases x <;> first | exact nof h | skip
    rename_i op vs p
    rcases vs with _ | ⟨xa, _ | ⟨xb, r⟩⟩ <;> cases op <;> first | exact nof h | skip
    cases r with
    | nil =>
      simp only [ck, Bool.and_eq_true] at h
      exact or_pe (iha.pe X c _ ok h.1) (pe_one (ihb.pe X c _ ok h.2))
    | cons y r =>
      simp only [ck, Bool.and_eq_true] at h
      exact or_pe (iha.pe X c _ ok h.1) (ihb.pe X c _ ok h.2)
  | ite t a b iht iha ihb =>
    refine .mkE (fun X c x ok h => ?_) (fun _ _ => rfl) (fun _ _ _ => rfl) (fun _ _ => rfl) (fun _ _ => rfl) (fun _ _ _ => rfl)
    cases x <;> first | exact nof h | skip
    simp only [ck, Bool.and_eq_true] at h
    exact ite_pe (iht.pt X c _ ok h.1.1) (iha.pe X c _ ok h.1.2) (ihb.pe X c _ ok h.2)
  | nil =>
    refine ⟨fun X c x ok h => nof h, fun X c xs kws ok h => ?_, fun X c ks vs ok h => ?_, (fun v r h => by cases h), fun X c x ok h => ?_, fun X c x ok h => nof h, fun X c op xs p ok h => nof h, fun X c xt x ok h => nof h⟩
    · cases xs with
      | nil =>
        cases kws with
        | nil => exact pak_imp pak_nil nil_tA
        | cons k kws => exact nof h
      | cons x xs => exact nof h
    · cases ks <;> cases vs <;> first | exact nof h | exact dok_nil
    · cases x <;> first | exact nof h | exact po_nil
  | cons a r iha ihr =>
    refine ⟨fun X c x ok h => nof h, fun X c xs kws ok h => ?_, fun X c ks vs ok h => ?_, (fun v r h => by cases h; exact ⟨iha.pe, ihr.pd⟩), fun X c x ok h => nof h, fun X c x ok h => nof h, fun X c op xs p ok h => nof h, fun X c xt x ok h => nof h⟩
    · by_cases hl : ∃ i, a = .lend i
      · obtain ⟨i, rfl⟩ := hl
        cases xs with
        | nil =>
          cases kws with
          | nil => exact nof h
          | cons k kws =>
            obtain ⟨nm, e, kp⟩ := k
            have h : ckA tb c (.cons (.lend i) r) (e :: kws.map (·.value)) = true := h
            cases e
            case Name =>
              simp only [ckA, Bool.and_eq_true] at h
              exact pak_imp (pak_kw (ckVar_ok ok h.1) (ihr.pa X c [] kws ok h.2)) lend_tA
            all_goals (simp only [ckA, ck, Bool.false_and, Bool.false_eq_true] at h)
        | cons x xs =>
          have h : ckA tb c (.cons (.lend i) r) (x :: (xs ++ kws.map (·.value))) = true := h
          cases x
          case Name =>
            simp only [ckA, Bool.and_eq_true] at h
            exact pak_imp (pak_cons (ckVar_ok ok h.1) (ihr.pa X c xs kws ok h.2) rfl) lend_tA
          all_goals (simp only [ckA, ck, Bool.false_and, Bool.false_eq_true] at h)
      · have hl' : ∀ i, a ≠ .lend i := fun i e => hl ⟨i, e⟩
        have key : ∀ x xs, ckA tb c (.cons a r) (x :: xs) = true → ck tb c a x = true ∧ ckA tb c r xs = true := by
          intro x xs h
          cases a <;> first | (simpa only [ckA, Bool.and_eq_true] using h) | exact absurd ⟨_, rfl⟩ hl
        have key0 : ckA tb c (.cons a r) [] = false := by cases a <;> rfl
        cases xs with
        | nil =>
          cases kws with
          | nil =>
            have h : ckA tb c (.cons a r) [] = true := h
            rw [key0] at h; cases h
          | cons k kws =>
            obtain ⟨nm, e, kp⟩ := k
            obtain ⟨h1, h2⟩ := key e (kws.map (·.value)) (show ckA tb c (.cons a r) (e :: kws.map (·.value)) = true from h)
            exact pak_imp (pak_kw (iha.pe X c e ok h1) (ihr.pa X c [] kws ok h2)) (cons_tA hl')
        | cons x xs =>
          obtain ⟨h1, h2⟩ := key x (xs ++ kws.map (·.value)) h
          exact pak_imp (pak_cons (iha.pe X c x ok h1) (ihr.pa X c xs kws ok h2) (star1 h1 xs)) (cons_tA hl')
    · cases r
      case cons v r =>
        obtain ⟨iv, ir⟩ := ihr.pv v r rfl
        rcases ks with _ | ⟨_ | xk, ks⟩ <;> rcases vs with _ | ⟨xv, vs⟩ <;> first | exact nof h | skip
        simp only [ckD, Bool.and_eq_true] at h
        refine dok_cons (fun i e => ?_) (fun i e => ?_) (iha.pe X c xk ok h.1.1) (iv X c xv ok h.1.2) (ir X c ks vs ok h.2)
        · subst e; exact nof h.1.1
        · subst e; exact nof h.1.2
      all_goals exact nof h
  | tup k l ih =>
    refine .mkE (fun X c x ok h => ?_) (fun _ _ => rfl) (fun _ _ _ => rfl) (fun _ _ => rfl) (fun _ _ => rfl) (fun _ _ _ => rfl)
    cases x <;> first | exact nof h | exact tup_pe (PAK.pa' ih ok h)
  | lst k l ih =>
    refine .mkE (fun X c x ok h => ?_) (fun _ _ => rfl) (fun _ _ _ => rfl) (fun _ _ => rfl) (fun _ _ => rfl) (fun _ _ _ => rfl)
    cases x <;> first | exact nof h | exact lst_pe (PAK.pa' ih ok h)
  | dict k l ih =>
    refine .mkE (fun X c x ok h => ?_) (fun _ _ => rfl) (fun _ _ _ => rfl) (fun _ _ => rfl) (fun _ _ => rfl) (fun _ _ _ => rfl)
    cases x <;> first | exact nof h | skip
    rename_i ks vs p
    simp only [ck, Bool.and_eq_true, decide_eq_true_eq] at h
    have hd := ih.pd X c ks vs ok h.1
    cases ks with
    | nil =>
      have hv : vs = [] := by simpa using hd.len.symm
      subst hv
      cases l <;> first | exact dict_nil_pe | (first | exact nof h.1 | (rename_i a r; cases r <;> exact nof h.1))
    | cons x ks => exact dict_pe hd (by simp) h.2
  | ix a b iha ihb =>
    refine .mkE (fun X c x ok h => ?_) (fun _ _ => rfl) (fun _ _ _ => rfl) (fun _ _ => rfl) (fun _ _ => rfl) (fun _ _ _ => rfl)
    cases x <;> first | exact nof h | skip
    simp only [ck, Bool.and_eq_true] at h
    exact ix_pe ok (iha.pe X c _ ok h.1.1) (ihb.pe X c _ ok h.1.2) h.2
  | sl a lo hi iha ihl ihh =>
    refine .mkE (fun X c x ok h => ?_) (fun _ _ => rfl) (fun _ _ _ => rfl) (fun _ _ => rfl) (fun _ _ => rfl) (fun _ _ _ => rfl)
    cases x <;> first | exact nof h | skip
    rename_i xa s p
    cases s <;> first | exact nof h | skip
    rename_i xl xh st p2
    cases st <;> first | exact nof h | skip
    simp only [ck, Bool.and_eq_true] at h
    exact sl_pe (iha.pe X c _ ok h.1.1) (ihl.po X c _ ok h.1.2) (ihh.po X c _ ok h.2)
  | rev a iha =>
    refine .mkE (fun X c x ok h => ?_) (fun _ _ => rfl) (fun _ _ _ => rfl) (fun _ _ => rfl) (fun _ _ => rfl) (fun _ _ _ => rfl)
    cases x <;> first | exact nof h | skip
    rename_i xa s p
    cases s <;> first | exact nof h | skip
    rename_i xl xh st p2
    cases xl <;> cases xh <;> cases st <;> first | exact nof h | skip
    simp only [ck, Bool.and_eq_true] at h
    exact rev_pe (iha.pe X c _ ok h.1) h.2
  | fld a f iha =>
    refine .mkE (fun X c x ok h => ?_) (fun _ _ => rfl) (fun _ _ _ => rfl) (fun _ _ => rfl) (fun _ _ => rfl) (fun _ _ _ => rfl)
    cases x <;> first | exact nof h | skip
    rename_i xa n p
    simp only [ck, Bool.and_eq_true, beq_iff_eq] at h
    obtain ⟨⟨h1, rfl⟩, h2⟩ := h
    exact fld_pe (iha.pe X c _ ok h1) (by intro f a k p he; subst he; exact nof h2)
  | call f l sel backs ih =>
    refine .mkE (fun X c x ok h => ?_) (fun _ _ => rfl) (fun _ _ _ => rfl) (fun _ _ => rfl) (fun _ _ => rfl) (fun _ _ _ => rfl)
    cases x <;> first | exact nof h | skip
    rename_i xf xs kws p
    cases xf <;> first | exact nof h | skip
    simp only [ck, Bool.and_eq_true, decide_eq_true_eq, beq_iff_eq, Bool.or_eq_true, List.isEmpty_iff, List.all_eq_true, List.contains_iff_mem] at h
    obtain ⟨⟨⟨⟨⟨⟨⟨⟨⟨⟨rfl, h2⟩, h3⟩, h4⟩, h5⟩, h6⟩, h7⟩, h8⟩, h9⟩, h10⟩, h11⟩ := h
    split at h11
    · rename_i ks hks
      exact dcall_pe ok (by simpa using h11) h2 h3 hks h4 h5 h6 h7 h8 h9 h10 (ih.pa X c xs kws ok h4) (ckA_starP X.env h4)
    · cases h11
  | blt f l ih =>
    refine .mkE (fun X c x ok h => ?_) (fun _ _ => rfl) (fun _ _ _ => rfl) (fun _ _ => rfl) (fun _ _ => rfl) (fun _ _ _ => rfl)
    cases x <;> first | exact nof h | skip
    rename_i xf xs kws p
    cases xf <;> first | exact nof h | skip
    cases kws <;> first | exact nof h | skip
    simp only [ck, Bool.and_eq_true, beq_iff_eq, Bool.not_eq_true'] at h
    obtain ⟨⟨⟨⟨rfl, h2⟩, h3⟩, h4⟩, h5⟩ := h
    cases xs with
    | nil => simp at h5
    | cons x xs =>
      have h6 := ckA_star (tb := tb) X.env h3
      exact blt_pe ok h2 (PAK.pa' ih ok h3) h6 (star_tail h6)
  | mth m o l iho ihl =>
    refine .mkE (fun X c x ok h => ?_) (fun _ _ => rfl) (fun _ _ _ => rfl) (fun _ _ => rfl) (fun _ _ => rfl) (fun _ _ _ => rfl)
    cases m <;> first | exact nof h | skip
    cases x <;> first | exact nof h | skip
    rename_i xf xs kws p
    cases xf <;> first | exact nof h | skip
    cases kws <;> first | exact nof h | skip
    simp only [ck, Bool.and_eq_true, beq_iff_eq, Bool.not_eq_true', decide_eq_true_eq] at h
    obtain ⟨⟨⟨⟨⟨⟨⟨rfl, h2⟩, h3⟩, h4⟩, h5⟩, h6⟩, h7⟩, h8⟩ := h
    refine get_pe ok (iho.pe X c _ ok h2) (PAK.pa' ihl ok h3) (fun f a k p e => ?_) (by simpa using h5) (ckA_star X.env h3) h6
    subst e; exact nof h7
  | mutv m i l ih =>
    refine .mkE (fun X c x ok h => ?_) (fun _ _ => rfl) (fun _ _ _ => rfl) (fun _ _ => rfl) (fun _ _ => rfl) (fun _ _ _ => rfl)
    cases x <;> first | exact nof h | skip
    rename_i xf xs kws p
    cases xf <;> first | exact nof h | skip
    rename_i xo n apos
    cases kws <;> cases xo <;> first | exact nof h | skip
    simp only [ck, Bool.and_eq_true, beq_iff_eq, decide_eq_true_eq] at h
    obtain ⟨⟨⟨⟨⟨rfl, h2⟩, h3⟩, h4⟩, h5⟩, h6⟩ := h
    exact mutv_pe ok h2 (PAK.pa' ih ok h3) (by simpa using h5) (ckA_star X.env h3) h6
  | mutk m i k l ih =>
    refine .mkE (fun X c x ok h => ?_) (fun _ _ => rfl) (fun _ _ _ => rfl) (fun _ _ => rfl) (fun _ _ => rfl) (fun _ _ _ => rfl)
    cases x <;> first | exact nof h | skip
    rename_i xf xs kws p
    cases xf <;> first | exact nof h | skip
    rename_i xo n apos
    cases kws <;> cases xo <;> first | exact nof h | (simp [ck] at h; done) | skip
    rename_i xd xk ps
    cases xd <;> cases xk <;> first | exact nof h | skip
    rename_i kc u pk
    cases kc <;> first | exact nof h | skip
    simp only [ck, Bool.and_eq_true, beq_iff_eq, decide_eq_true_eq] at h
    obtain ⟨⟨⟨⟨⟨⟨⟨rfl, rfl⟩, h2⟩, h3⟩, hq⟩, h4⟩, h5⟩, h6⟩ := h
    exact mutk_pe ok h2 (PAK.pa' ih ok h3) hq (by simpa using h5) (ckA_star X.env h3) h6
  | lc k own elt tg it cnd ihe ihi ihc =>
    refine .mkE (fun X c x ok h => ?_) (fun _ _ => rfl) (fun _ _ _ => rfl) (fun _ _ => rfl) (fun _ _ => rfl) (fun _ _ _ => rfl)
    cases x <;> first | exact nof h | skip
    rename_i xe gs scope p
    rcases gs with _ | ⟨⟨xt, xi, ifs, isa⟩, _ | ⟨g2, gs⟩⟩ <;> first | exact nof h | skip
    · rcases isa with (_ | a) | a <;> first | exact nof h | skip
      have h : (ckI tb c it xt xi && blkC c.N c.sc scope (own.map fun i => ((c.N[i]?).getD Str.empty, i)) && (tgSlots tg).all own.contains && ckTg (blkK c scope) tg xt && ck tb (blkK c scope) elt xe &&
        cndOk tb (blkK c scope) cnd ifs) = true := h
      simp only [Bool.and_eq_true] at h
      obtain ⟨⟨⟨⟨⟨h1, h2⟩, h3⟩, h4⟩, h5⟩, h6⟩ := h
      refine (show PE X (.ListComp xe [⟨xt, xi, ifs, 0⟩] scope p) _ from ?_)
      refine lc_pe ok (ihi.pi X c xt xi ok h1) h2 h3 h4 (fun X' ok' => ihe.pe X' _ _ ok' h5) (fun X' ok' => ?_) (fun v => set_no (fun a k p e => ?_) v)
      · unfold cndOk at h6
        split at h6
        · split at h6
          · exact pts_yes
          · cases h6
        · exact pts_one (ihc.pt X' _ _ ok' h6)
        · cases h6
      · subst e
        cases it <;> first | exact nof h1 | (simp only [ckI, Bool.and_false, Bool.false_eq_true] at h1)
    · cases isa <;> (simp [ck] at h)
  | isin a t ih =>
    refine .mkE (fun X c x ok h => ?_) (fun _ _ => rfl) (fun _ _ _ => rfl) (fun _ _ => rfl) (fun _ _ => rfl) (fun _ _ _ => rfl)
    cases x <;> first | exact nof h | skip
    rename_i xf xs kws p
    cases xf <;> first | exact nof h | skip
    rcases xs with _ | ⟨xa, _ | ⟨xb, _ | ⟨xc, xs⟩⟩⟩ <;> cases kws <;> first | exact nof h | (cases xb <;> exact nof h) | skip
    cases xb <;> first | exact nof h | skip
    simp only [ck, Bool.and_eq_true, beq_iff_eq] at h
    obtain ⟨⟨⟨⟨rfl, h2⟩, h3⟩, rfl⟩, h5⟩ := h
    exact isin_pe ok h2 h5 (ih.pe X c _ ok h3) (fun es => star1 h3 es)
  | lrng1 a ih =>
    refine .mkE (fun X c x ok h => ?_) (fun _ _ => rfl) (fun _ _ _ => rfl) (fun _ _ => rfl) (fun _ _ => rfl) (fun _ _ _ => rfl)
    cases x <;> first | exact nof h | skip
    rename_i xf xs kws p
    cases xf <;> first | exact nof h | skip
    rcases xs with _ | ⟨xa, _ | ⟨xb, xs⟩⟩ <;> cases kws <;> first | exact nof h | (cases xa <;> exact nof h) | (simp [ck] at h; done) | skip
    cases xa <;> first | exact nof h | skip
    rename_i xf ys kws p2
    cases xf <;> first | exact nof h | skip
    rcases ys with _ | ⟨ya, _ | ⟨yb, ys⟩⟩ <;> cases kws <;> first | exact nof h | skip
    simp only [ck, Bool.and_eq_true, beq_iff_eq] at h
    obtain ⟨⟨⟨⟨rfl, rfl⟩, h2⟩, h3⟩, h4⟩ := h
    exact lrng1_pe ok h2 h3 (ih.pe X c _ ok h4) (star1 h4 [])
  | lrng2 a b iha ihb =>
    refine .mkE (fun X c x ok h => ?_) (fun _ _ => rfl) (fun _ _ _ => rfl) (fun _ _ => rfl) (fun _ _ => rfl) (fun _ _ _ => rfl)
    cases x <;> first | exact nof h | skip
    rename_i xf xs kws p
    cases xf <;> first | exact nof h | skip
    rcases xs with _ | ⟨xa, _ | ⟨xb, xs⟩⟩ <;> cases kws <;> first | exact nof h | (cases xa <;> exact nof h) | (simp [ck] at h; done) | skip
    cases xa <;> first | exact nof h | skip
    rename_i xf ys kws p2
    cases xf <;> first | exact nof h | skip
    rcases ys with _ | ⟨ya, _ | ⟨yb, _ | ⟨yc, ys⟩⟩⟩ <;> cases kws <;> first | exact nof h | skip
    simp only [ck, Bool.and_eq_true, beq_iff_eq] at h
    obtain ⟨⟨⟨⟨⟨rfl, rfl⟩, h2⟩, h3⟩, h4⟩, h5⟩ := h
    exact lrng2_pe ok h2 h3 (iha.pe X c _ ok h4) (ihb.pe X c _ ok h5) (star1 h4 _) (star1 h5 [])
  | tnot a ih =>
    refine .mkT (fun _ _ => rfl) (fun _ _ => rfl) (fun _ _ _ => rfl) (fun _ _ => rfl) (fun X c x ok h => ?_) (fun X c op xs p ok h => nof h) (fun _ _ _ => rfl)
    cases x <;> first | exact nof h | skip
    rename_i op x p
    cases op <;> first | exact nof h | exact tnot_pt (ih.pt X c x ok h)
  | tand a b iha ihb =>
    have key : ∀ (X : Cx) (c : CkC) (op : BoolOp) (xs : List Expr) (p : Pos), XOk X tb cf c → ckT tb c (.tand a b) (.BoolOp op xs p) = true → PW X (.BoolOp op xs p) (tIT X.K cf (.tand a b)) := by
      intro X c op vs p ok h
      rcases vs with _ | ⟨xa, _ | ⟨xb, r⟩⟩ <;> cases op <;> first | exact nof h | skip
      cases r with
      | nil =>
        simp only [ckT, Bool.and_eq_true] at h
        exact tand_pw (iha.pt X c _ ok h.1) (pw_and1 (ihb.pt X c _ ok h.2))
      | cons y r =>
        simp only [ckT, Bool.and_eq_true] at h
        exact tand_pw (iha.pt X c _ ok h.1) (ihb.pw X c _ _ _ ok h.2)
    refine .mkT (fun _ _ => rfl) (fun _ _ => rfl) (fun _ _ _ => rfl) (fun _ _ => rfl) (fun X c x ok h => ?_) key (fun _ _ _ => rfl)
    cases x <;> first | exact nof h | exact (key X c _ _ _ ok h).pt
  | tor a b iha ihb =>
    have key : ∀ (X : Cx) (c : CkC) (op : BoolOp) (xs : List Expr) (p : Pos), XOk X tb cf c → ckT tb c (.tor a b) (.BoolOp op xs p) = true → PW X (.BoolOp op xs p) (tIT X.K cf (.tor a b)) := by
      intro X c op vs p ok h
      rcases vs with _ | ⟨xa, _ | ⟨xb, r⟩⟩ <;> cases op <;> first | exact nof h | skip
      cases r with
      | nil =>
        simp only [ckT, Bool.and_eq_true] at h
        exact tor_pw (iha.pt X c _ ok h.1) (pw_or1 (ihb.pt X c _ ok h.2))
      | cons y r =>
        simp only [ckT, Bool.and_eq_true] at h
        exact tor_pw (iha.pt X c _ ok h.1) (ihb.pw X c _ _ _ ok h.2)
    refine .mkT (fun _ _ => rfl) (fun _ _ => rfl) (fun _ _ _ => rfl) (fun _ _ => rfl) (fun X c x ok h => ?_) key (fun _ _ _ => rfl)
    cases x <;> first | exact nof h | exact (key X c _ _ _ ok h).pt
  | tval a ih =>
    refine .mkT (fun _ _ => rfl) (fun _ _ => rfl) (fun _ _ _ => rfl) (fun _ _ => rfl) (fun X c x ok h => ?_) (fun X c op xs p ok h => ?_) (fun _ _ _ => rfl)
    · simp only [ckT, Bool.and_eq_true] at h
      refine tval_pt (ih.pe X c x ok h.1) fun w => ?_
      obtain ⟨-, h2⟩ := h
      cases x <;> first | rfl | exact nof h2 | skip
      rename_i op x p
      cases op <;> first | rfl | exact nof h2
    · simp only [ckT, Bool.and_false, Bool.false_eq_true] at h
  | tyes =>
    exact .mkT (fun _ _ => rfl) (fun _ _ => rfl) (fun _ _ _ => rfl) (fun _ _ => rfl) (fun X c x ok h => nof h) (fun X c op xs p ok h => nof h) (fun _ _ _ => rfl)
  | tcmp o a b iha ihb =>
    refine .mkT (fun _ _ => rfl) (fun _ _ => rfl) (fun _ _ _ => rfl) (fun _ _ => rfl) (fun X c x ok h => ?_) (fun X c op xs p ok h => nof h) (fun _ _ _ => rfl)
    cases x <;> first | exact nof h | skip
    rename_i xa ops cs p
    rcases ops with _ | ⟨o', _ | ⟨o2, ops⟩⟩ <;> rcases cs with _ | ⟨xb, _ | ⟨x2, cs⟩⟩ <;> first | exact nof h | (cases ops <;> exact nof h) | (rcases ops with _ | ⟨_, _⟩ <;> cases cs <;> exact nof h) | skip
    simp only [ckT, Bool.and_eq_true, beq_iff_eq, Bool.not_eq_true'] at h
    obtain ⟨⟨⟨rfl, h1⟩, h2⟩, h3⟩ := h
    exact tcmp_pt ok (iha.pe X c _ ok h1) (ihb.pe X c _ ok h2) h3
  | tchain o p a b d iha ihb ihd =>
    refine .mkT (fun _ _ => rfl) (fun _ _ => rfl) (fun _ _ _ => rfl) (fun _ _ => rfl) (fun X c x ok h => ?_) (fun X c op xs p ok h => nof h) (fun _ _ _ => rfl)
    cases x <;> first | exact nof h | skip
    rename_i xa ops cs pp
    rcases ops with _ | ⟨o', _ | ⟨o2, _ | ⟨o3, ops⟩⟩⟩ <;> rcases cs with _ | ⟨xb, _ | ⟨x2, _ | ⟨x3, cs⟩⟩⟩ <;> first | exact nof h | skip
    simp only [ckT, Bool.and_eq_true, beq_iff_eq, Bool.not_eq_true'] at h
    obtain ⟨⟨⟨⟨⟨rfl, rfl⟩, h1⟩, h2⟩, h3⟩, h4⟩ := h
    exact tchain_pt ok (iha.pe X c _ ok h1) (ihb.pe X c _ ok h2) (ihd.pe X c _ ok h3) h4
  | tq a ih =>
    refine .mkT (fun _ _ => rfl) (fun _ _ => rfl) (fun _ _ _ => rfl) (fun _ _ => rfl) (fun X c x ok h => ?_) (fun X c op xs p ok h => ?_) (fun _ _ _ => rfl)
    · have h : (ckT tb c a x && quiet a) = true := h
      rw [Bool.and_eq_true] at h
      exact tq_pt (ih.pt X c x ok h.1) h.2
    · have h : (ckT tb c a (.BoolOp op xs p) && quiet a) = true := h
      rw [Bool.and_eq_true] at h
      exact tq_pw (ih.pw X c op xs p ok h.1) h.2
  | ival a ih =>
    refine .mkI (fun _ _ => rfl) (fun _ _ => rfl) (fun _ _ _ => rfl) (fun _ _ => rfl) (fun X c x ok h => ?_) (fun X c xt x ok h => ?_)
    · cases x <;> first | exact nof h | exact po_ival (ih.pe X c _ ok h)
    · simp only [ckI, Bool.and_eq_true] at h
      exact ival_pi (ih.pe X c x ok h.1)
  | irng1 a ih =>
    refine .mkI (fun _ _ => rfl) (fun _ _ => rfl) (fun _ _ _ => rfl) (fun _ _ => rfl) (fun X c x ok h => nof h) (fun X c xt x ok h => ?_)
    cases x <;> first | exact nof h | skip
    rename_i xf ys kws p2
    cases xf <;> first | exact nof h | skip
    rcases ys with _ | ⟨ya, _ | ⟨yb, ys⟩⟩ <;> cases kws <;> first | exact nof h | skip
    simp only [ckI, Bool.and_eq_true, beq_iff_eq] at h
    obtain ⟨⟨rfl, h3⟩, h4⟩ := h
    exact irng1_pi ok h3 (ih.pe X c _ ok h4) (star1 h4 [])
  | irng2 a b iha ihb =>
    refine .mkI (fun _ _ => rfl) (fun _ _ => rfl) (fun _ _ _ => rfl) (fun _ _ => rfl) (fun X c x ok h => nof h) (fun X c xt x ok h => ?_)
    cases x <;> first | exact nof h | skip
    rename_i xf ys kws p2
    cases xf <;> first | exact nof h | skip
    rcases ys with _ | ⟨ya, _ | ⟨yb, _ | ⟨yc, ys⟩⟩⟩ <;> cases kws <;> first | exact nof h | skip
    simp only [ckI, Bool.and_eq_true, beq_iff_eq] at h
    obtain ⟨⟨⟨rfl, h3⟩, h4⟩, h5⟩ := h
    exact irng2_pi ok h3 (iha.pe X c _ ok h4) (ihb.pe X c _ ok h5) (by rw [star1 h4, star1 h5]; rfl) (star1 h5 [])
  | lend i => exact .mkE (fun X c x ok h => nof h) (fun _ _ => rfl) (fun _ _ _ => rfl) (fun _ _ => rfl) (fun _ _ => rfl) (fun _ _ _ => rfl)
  | irng3 a b d iha ihb ihd =>
    refine .mkI (fun _ _ => rfl) (fun _ _ => rfl) (fun _ _ _ => rfl) (fun _ _ => rfl) (fun X c x ok h => nof h) (fun X c xt x ok h => ?_)
    cases x <;> first | exact nof h | skip
    rename_i xf ys kws p2
    cases xf <;> first | exact nof h | skip
    rcases ys with _ | ⟨ya, _ | ⟨yb, _ | ⟨yc, _ | ⟨yd, ys⟩⟩⟩⟩ <;> cases kws <;> first | exact nof h | skip
    simp only [ckI, Bool.and_eq_true, beq_iff_eq] at h
    obtain ⟨⟨⟨⟨rfl, h3⟩, h4⟩, h5⟩, h6⟩ := h
    exact irng3_pi ok h3 (iha.pe X c _ ok h4) (ihb.pe X c _ ok h5) (ihd.pe X c _ ok h6) (by rw [star1 h4, star1 h5, star1 h6]; rfl) (by rw [star1 h5, star1 h6]; rfl) (star1 h6 [])
  | ienum a ih =>
    refine .mkI (fun _ _ => rfl) (fun _ _ => rfl) (fun _ _ _ => rfl) (fun _ _ => rfl) (fun X c x ok h => nof h) (fun X c xt x ok h => ?_)
    cases x <;> first | exact nof h | skip
    rename_i xf ys kws p2
    cases xf <;> first | exact nof h | skip
    rcases ys with _ | ⟨ya, _ | ⟨yb, ys⟩⟩ <;> cases kws <;> first | exact nof h | skip
    simp only [ckI, Bool.and_eq_true, beq_iff_eq] at h
    obtain ⟨⟨⟨rfl, h3⟩, h4⟩, h5⟩ := h
    cases xt <;> first | exact nof h5 | exact ienum_pi ok h3 (ih.pe X c _ ok h4) (star1 h4 [])
  | izip a b iha ihb => exact .mkE (fun X c x ok h => nof h) (fun _ _ => rfl) (fun _ _ _ => rfl) (fun _ _ => rfl) (fun _ _ => rfl) (fun _ _ _ => rfl)
end
end Pi
/-! Pi19: statements: readings, parts. -/
namespace Pi
open PySem L2
def Kp (kp : List Nat) (σ σ' : St) : Prop := ∀ i ∈ kp, σ'[i]? = σ[i]?
theorem Kp.refl (kp : List Nat) (σ : St) : Kp kp σ σ := fun _ _ => rfl
theorem Kp.trans {kp : List Nat} {a b c : St} (h : Kp kp a b) (k : Kp kp b c) : Kp kp a c := fun i m => (k i m).trans (h i m)
def PostF (K : PySem.W.Frag) (kp : List Nat) (σ : St) (H : Hp) (fp fz : List Addr) (fl : Fl) (ρ' : Env) (D : Ends) : Prop := match fl with
  | .nx => ∀ σ' H' f z, SL K H' σ' ρ' f z → Disj f z → Ext false H fp fz H' f z → Kp kp σ σ' → D.nx σ' H'
  | .bk => ∀ σ' H' f z, SL K H' σ' ρ' f z → Disj f z → Ext false H fp fz H' f z → Kp kp σ σ' → D.bk σ' H'
  | .ct => ∀ σ' H' f z, SL K H' σ' ρ' f z → Disj f z → Ext false H fp fz H' f z → Kp kp σ σ' → D.ct σ' H'
  | .rt d => ∀ v σ' H' f1 z1 f z, Rep K H' d.1 d.2 v f1 z1 → SL K H' σ' ρ' f z → Disj (f1 ++ f) (z1 ++ z) → Ext false H fp fz H' (f1 ++ f) (z1 ++ z) → Kp kp σ σ' → D.rt v H'
def tSI (K : PySem.W.Frag) (cf : Cf) (kp : List Nat) (sm : Sm) : TS := fun D σ H => ∃ ρ fp fz fl ρ', SL K H σ ρ fp fz ∧ Disj fp fz ∧ exec cf sm ρ = .ok fl ρ' ∧ PostF K kp σ H fp fz fl ρ' D
theorem postf_then {K : PySem.W.Frag} {kp : List Nat} {σ σ1 : St} {H H1 : Hp} {fp fz f1 z1 f0 z0 : List Addr} {fl : Fl} {ρ' : Env} {D : Ends} (x : Ext false H fp fz H1 (f0 ++ f1) (z0 ++ z1)) (k : Kp kp σ σ1) (p : PostF K kp σ H fp fz fl ρ' D) : PostF K kp σ1 H1 f1 z1 fl ρ' D := by
  have x' : Ext false H fp fz H1 f1 z1 := x.to (fun a m => List.mem_append_right _ m) fun a m => .inr (List.mem_append_right _ m)
  cases fl with
  | nx => exact fun σ' H' f z s d e k' => p σ' H' f z s d (x'.trans0 e) (k.trans k')
  | bk => exact fun σ' H' f z s d e k' => p σ' H' f z s d (x'.trans0 e) (k.trans k')
  | ct => exact fun σ' H' f z s d e k' => p σ' H' f z s d (x'.trans0 e) (k.trans k')
  | rt d => exact fun v σ' H' f1 z1 f z r s d e k' => p v σ' H' f1 z1 f z r s d (x'.trans0 e) (k.trans k')
section
variable {X : Cx} {tb : Tb} {cf : Cf} {c : CkC} {kp : List Nat}
theorem ps_imp {st : Stmt} {t t' : TS} (h : PS X st t) (i : ∀ D σ H, σ.length = X.N.length → t' D σ H → t D σ H) : PS X st t' := ⟨fun pins s σ H D I q => h.run pins s σ H D I (i D σ H I.len q)⟩
theorem pss_imp {st : List Stmt} {t t' : TS} (h : PSs X st t) (i : ∀ D σ H, σ.length = X.N.length → t' D σ H → t D σ H) : PSs X st t' := ⟨fun pins s σ H D I q => h.run pins s σ H D I (i D σ H I.len q)⟩
theorem seq_pss {st : Stmt} {r : List Stmt} {a b : Sm} (ia : PS X st (tSI X.K cf kp a)) (ib : PSs X r (tSI X.K cf kp b)) : PSs X (st :: r) (tSI X.K cf kp (.seq a b)) := by
  refine pss_imp (pss_cons ia ib) fun D σ H _ ⟨ρ, fp, fz, fl, ρ', s, dj, e, p⟩ => ?_
  simp only [exec] at e
  obtain ⟨f1, ρ1, e1, e2⟩ := bind_inv e
  refine ⟨ρ, fp, fz, f1, ρ1, s, dj, e1, ?_⟩
  cases f1 with
  | nx => exact fun σ' H' f z s' d' x k => ⟨ρ1, f, z, fl, ρ', s', d', e2, postf_then (f0 := []) (z0 := []) x k p⟩
  | bk => cases e2; exact p
  | ct => cases e2; exact p
  | rt d => cases e2; exact p
theorem skip_pss : PSs X [] (tSI X.K cf kp .skip) := pss_imp pss_nil fun D σ H _ ⟨ρ, fp, fz, fl, ρ', s, dj, e, p⟩ => by
  simp only [exec] at e
  cases e
  exact p σ H fp fz s dj (.refl _ _ _ _) (.refl _ _)
theorem skip_ps {pos : Pos} : PS X (.Pass pos) (tSI X.K cf kp .skip) := ps_imp ps_pass fun D σ H _ ⟨ρ, fp, fz, fl, ρ', s, dj, e, p⟩ => by
  simp only [exec] at e
  cases e
  exact p σ H fp fz s dj (.refl _ _ _ _) (.refl _ _)
theorem doc_pss {x : Str} {j : Nat} {p q : Pos} {r : List Stmt} {a : Sm} (ia : PSs X r (tSI X.K cf kp a)) : PSs X (.Expr (.Constant (.str x) j p) q :: r) (tSI X.K cf kp a) :=
  pss_imp (pss_cons ps_doc ia) fun D σ H _ h => h
theorem retn_ps {pos : Pos} : PS X (.Return none pos) (tSI X.K cf kp .retn) := ps_imp ps_retN fun D σ H _ ⟨ρ, fp, fz, fl, ρ', s, dj, e, p⟩ => by
  simp only [exec] at e
  cases e
  exact p .non σ H [] [] fp fz (by simp [Rep]) s dj (.refl _ _ _ _) (.refl _ _)
theorem brk_ps {pos : Pos} : PS X (.Break pos) (tSI X.K cf kp .brk) := ps_imp ps_break fun D σ H _ ⟨ρ, fp, fz, fl, ρ', s, dj, e, p⟩ => by
  simp only [exec] at e
  cases e
  exact p σ H fp fz s dj (.refl _ _ _ _) (.refl _ _)
theorem cnt_ps {pos : Pos} : PS X (.Continue pos) (tSI X.K cf kp .cnt) := ps_imp ps_continue fun D σ H _ ⟨ρ, fp, fz, fl, ρ', s, dj, e, p⟩ => by
  simp only [exec] at e
  cases e
  exact p σ H fp fz s dj (.refl _ _ _ _) (.refl _ _)
theorem never_ps {st : Stmt} : PS X st (tSI X.K cf kp .never) := ps_imp ps_never fun D σ H _ ⟨ρ, fp, fz, fl, ρ', s, dj, e, p⟩ => by
  simp only [exec] at e
  cases e
/-- an expression first: the value is a temporary -/
theorem ex_step {e : Ex} {σ : St} {H : Hp} {fp fz : List Addr} {ρ ρ1 : Env} {x : Sl} {R : VK} (s : SL X.K H σ ρ fp fz) (dj : Disj fp fz) (he : ev cf e ρ = .ok x ρ1)
    (k : ∀ v H' f1 z1 f z, Rep X.K H' x.1 x.2 v f1 z1 → SL X.K H' σ ρ1 f z → Disj (f1 ++ f) (z1 ++ z) → Ext false H fp fz H' (f1 ++ f) (z1 ++ z) → R v H') : tI X.K cf e σ H R :=
  ⟨ρ, fp, fz, x, ρ1, s, dj, he, fun v H' f1 z1 f z r s' d' x' _ => k v H' f1 z1 f z r s' d' (x'.weak fun h => by cases h)⟩
theorem expr_ps {e : Ex} {x : Expr} {pos : Pos} (ie : PE X x (tI X.K cf e)) (hs : swapsWith x none pos.line X.env = pure false) : PS X (.Expr x pos) (tSI X.K cf kp (.expr e)) := by
  refine ps_imp (ps_expr ie hs) fun D σ H _ ⟨ρ, fp, fz, fl, ρ', s, dj, e, p⟩ => ?_
  simp only [exec] at e
  obtain ⟨v, ρ1, e1, e2⟩ := bind_inv e
  cases e2
  refine ex_step s dj e1 fun v H' f1 z1 f z r s' d' x' => p σ H' f z s' d'.right (x'.to (fun a m => List.mem_append_right _ m) fun a m => .inr (List.mem_append_right _ m)) (.refl _ _)
theorem ret_ps {e : Ex} {x : Expr} {pos : Pos} (ie : PE X x (tI X.K cf e)) : PS X (.Return (some x) pos) (tSI X.K cf kp (.ret e)) := by
  refine ps_imp (ps_ret ie) fun D σ H _ ⟨ρ, fp, fz, fl, ρ', s, dj, e, p⟩ => ?_
  simp only [exec] at e
  obtain ⟨v, ρ1, e1, e2⟩ := bind_inv e
  cases e2
  exact ex_step s dj e1 fun v H' f1 z1 f z r s' d' x' => p v σ H' f1 z1 f z r s' d' x' (.refl _ _)
theorem tt_step {e : Ex} {σ : St} {H : Hp} {fp fz : List Addr} {ρ ρ1 : Env} {b : Bool} {R : Bool → Hp → Prop} (s : SL X.K H σ ρ fp fz) (dj : Disj fp fz) (he : evT cf e ρ = .ok b ρ1)
    (k : ∀ H' f z, SL X.K H' σ ρ1 f z → Disj f z → Ext false H fp fz H' f z → R b H') : tIT X.K cf e σ H R :=
  ⟨ρ, fp, fz, b, ρ1, s, dj, he, fun H' f z s' d' x' => k H' f z s' d' (x'.weak fun h => by cases h)⟩
theorem ifs_ps {t : Ex} {a b : Sm} {x : Expr} {sa sb : List Stmt} {pos : Pos} (it : PT X x (tIT X.K cf t)) (ia : PSs X sa (tSI X.K cf kp a)) (ib : PSs X sb (tSI X.K cf kp b)) : PS X (.If x sa sb pos) (tSI X.K cf kp (.ifs t a b)) := by
  refine ps_imp (ps_if it ia ib) fun D σ H _ ⟨ρ, fp, fz, fl, ρ', s, dj, e, p⟩ => ?_
  simp only [exec] at e
  obtain ⟨v, ρ1, e1, e2⟩ := bind_inv e
  refine tt_step s dj e1 fun H' f z s' d' x' => ?_
  have p' := postf_then (f0 := []) (z0 := []) x' (Kp.refl kp σ) p
  cases v with
  | true => exact ⟨ρ1, f, z, fl, ρ', s', d', e2, p'⟩
  | false => exact ⟨ρ1, f, z, fl, ρ', s', d', e2, p'⟩
theorem whl_ps {t : Ex} {b : Sm} {x : Expr} {body : List Stmt} {pos : Pos} (hp : PassesOwn (model X.prog X.w) X.A X.env X.xe) (it : PT X x (tIT X.K cf t)) (ib : PSs X body (tSI X.K cf kp b)) : PS X (.While x body [] pos) (tSI X.K cf kp (.whl t b)) := by
  refine ps_imp (ps_while hp it ib) fun D σ H _ ⟨ρ, fp, fz, fl, ρ', s, dj, e, p⟩ => ?_
  simp only [exec] at e
  refine ⟨fun m σ1 H1 => ∃ ρ1 f z, SL X.K H1 σ1 ρ1 f z ∧ Disj f z ∧ whileL (evT cf t) (exec cf b) m ρ1 = .ok fl ρ' ∧ PostF X.K kp σ1 H1 f z fl ρ' D, ⟨cf.fuel, ρ, fp, fz, s, dj, e, p⟩, fun m σ1 H1 ⟨ρ1, f, z, s1, d1, e1, p1⟩ => ?_⟩
  cases m with
  | zero => cases e1
  | succ m =>
    simp only [whileL] at e1
    obtain ⟨v, ρ2, e2, e3⟩ := bind_inv e1
    refine tt_step s1 d1 e2 fun H' f' z' s' d' x' => ?_
    have p' := postf_then (f0 := []) (z0 := []) x' (Kp.refl kp σ1) p1
    cases v with
    | false =>
      simp only [Bool.false_eq_true, if_false] at e3 ⊢
      cases e3
      exact p' σ1 H' f' z' s' d' (.refl _ _ _ _) (.refl _ _)
    | true =>
      simp only [if_true] at e3 ⊢
      obtain ⟨f2, ρ3, e4, e5⟩ := bind_inv e3
      refine ⟨fun σ2 H2 => ∃ ρ1 f z, SL X.K H2 σ2 ρ1 f z ∧ Disj f z ∧ whileL (evT cf t) (exec cf b) m ρ1 = .ok fl ρ' ∧ PostF X.K kp σ2 H2 f z fl ρ' D, fun σ2 H2 w => ⟨m, by omega, w⟩, ρ2, f', z', f2, ρ3, s', d', e4, ?_⟩
      cases f2 with
      | nx => exact fun σ2 H2 f z s2 d2 x2 k2 => ⟨ρ3, f, z, s2, d2, e5, postf_then (f0 := []) (z0 := []) x2 k2 p'⟩
      | ct => exact fun σ2 H2 f z s2 d2 x2 k2 => ⟨ρ3, f, z, s2, d2, e5, postf_then (f0 := []) (z0 := []) x2 k2 p'⟩
      | bk => cases e5; exact p'
      | rt d => cases e5; exact p'
/-- what a store leaves -/
theorem kp_wipe {tg : Tg} {σ σ2 : St} (hw : ∀ vs, (∀ i ∈ tgSlots tg, i ∈ vs) → wipe σ2 vs = wipe σ vs) (hk : ∀ i ∈ tgSlots tg, i ∉ kp) : Kp kp σ σ2 := fun i m => by
  have h := hw (tgSlots tg) fun _ h => h
  have n : i ∉ tgSlots tg := fun m' => hk i m' m
  rw [← wipe_out (σ := σ2) n, h, wipe_out n]
theorem fors_ps {t : Tg} {it : Ex} {b : Sm} {xt xi : Expr} {body : List Stmt} {pos : Pos} (ok : XOk X tb cf c) (hp : PassesOwn (model X.prog X.w) X.A X.env X.xe) (ii : PI X xt xi (tII X.K cf it)) (ht : ckTg c t xt = true) (hk : ∀ i ∈ tgSlots t, i ∉ kp) (ib : PSs X body (tSI X.K cf kp b)) (hs : ∀ x, foldedSetIterable xi X.env x = pure x) :
    PS X (.For xt xi body [] pos) (tSI X.K cf kp (.fors none t it b)) := by
  obtain ⟨hg, hT⟩ := tg_ok ok ht
  refine ps_imp (ps_for hp ok.calm ii hg ib hs) fun D σ H hl ⟨ρ, fp, fz, fl, ρ', s, dj, e, p⟩ => ?_
  simp only [exec] at e
  obtain ⟨xs, ρ1, e1, e2⟩ := bind_inv e
  refine ⟨ρ, fp, fz, xs, ρ1, s, dj, e1, fun J H1 hold zI f2 z2 itk hh s1 d1 x1 => ?_⟩
  have x1 := x1.weak (b' := false) (fun h => by cases h)
  let bodyF : Pi.D → Env → Rs Fl := fun x ρ => match setT t x ρ with | some ρ2 => exec cf b ρ2 | none => .stk
  let W : Nat → Nat → St → Hp → Prop := fun i m σ1 Hc => m = xs.length - i ∧ ∃ ρ1 f z, SL X.K Hc σ1 ρ1 f z ∧ Disj f (zI ++ z) ∧ hold Hc ∧ Ext false H fp fz Hc f (zI ++ z) ∧ Kp kp σ σ1 ∧ forL bodyF (xs.drop i) ρ1 = .ok fl ρ'
  refine ⟨W, ⟨xs.length, by simp, ρ1, f2, z2, s1, d1, hh, x1, .refl _ _, e2⟩, fun i m σ1 Hc ⟨hm, ρ2, f, z, s2, d2, hh2, x2, k2, e3⟩ => ?_⟩
  by_cases hi : i < xs.length
  · refine .inr ?_
    have hx : xs[i]? = some xs[i] := List.getElem?_eq_getElem hi
    obtain ⟨hgo, hyld⟩ := itk.go i Hc xs[i] hh2 hx
    refine ⟨hgo, W (i + 1) (xs.length - (i + 1)), fun σ' H' w => ⟨_, by omega, w⟩, fun x H' hy => ?_⟩
    obtain ⟨st0, zx, rx, hzx⟩ := hyld x H' hy
    rw [List.drop_eq_getElem_cons hi] at e3
    simp only [forL] at e3
    obtain ⟨f3, ρ3, e4, e5⟩ := bind_inv e3
    have tz := itk.trk _ hh2
    have s2' := SL.stay st0 s2 (by simp) (by simp)
    have tf := s2.trk
    have d2' : Disj f (zI ++ (zx ++ z)) := ⟨d2.1, fun a m m' => by
      rcases List.mem_append.mp m' with m' | m'
      · exact d2.2 a m (List.mem_append_left _ m')
      · rcases List.mem_append.mp m' with m' | m'
        · rcases hzx a m' with h | h
          · exact d2.2 a m (List.mem_append_left _ h)
          · exact tf.1 a m h
        · exact d2.2 a m (List.mem_append_right _ m')⟩
    have x2' : Ext false H fp fz H' f (zI ++ (zx ++ z)) := ⟨fun a o h n => st0 a o (x2.stay a o h n) (by simp), x2.fpx, fun a m => by
      rcases List.mem_append.mp m with m | m
      · exact x2.fzx a (List.mem_append_left _ m)
      · rcases List.mem_append.mp m with m | m
        · rcases hzx a m with h | h
          · exact x2.fzx a (List.mem_append_left _ h)
          · exact (x2.some h).elim (fun h => .inr (.inr h)) .inl
        · exact x2.fzx a (List.mem_append_right _ m)⟩
    have hh0 := itk.keep [] _ _ st0 (by simp) hh2
    have e4 : (match setT t xs[i] ρ2 with | some ρ2 => exec cf b ρ2 | none => .stk) = .ok f3 ρ3 := e4
    split at e4
    case h_2 => cases e4
    rename_i ρ4 hset
    refine hT x σ1 H' _ _ ρ2 ρ4 f z zx s2' rx hset (fun σ2 f' z' s3 l3 hw => ?_)
    have l4 : Less ([] ++ f) (zI ++ (zx ++ z)) ([] ++ f') (zI ++ z') := (Less.refl [] zI).app l3
    have d3 : Disj ([] ++ f') (zI ++ z') := l4.disj d2'
    have x3 : Ext false H fp fz H' ([] ++ f') (zI ++ z') := Ext.less x2' l4
    have k3 := k2.trans (kp_wipe hw hk)
    have tz' := itk.trk _ hh0
    refine ⟨ρ4, f', z', f3, ρ3, s3, d3.right, e4, ?_⟩
    have fin : ∀ σ' H'' f z, SL X.K H'' σ' ρ3 f z → Disj f z → Ext false H' f' z' H'' f z → Kp kp σ2 σ' → forL bodyF (xs.drop (i + 1)) ρ3 = .ok fl ρ' → W (i + 1) (xs.length - (i + 1)) σ' H'' := by
      intro σ' H'' f z s d x k hf
      have dd := Ext.disj d3 (Trk.nil _) tz' x d
      have xx := Ext.trans x3 x
      exact ⟨rfl, ρ3, f, z, s, dd, itk.keep _ _ _ x.stay d3.off2 hh0, xx, k3.trans k, hf⟩
    cases f3 with
    | nx => exact fun σ' H'' f z s d x k => fin σ' H'' f z s d x k e5
    | ct => exact fun σ' H'' f z s d x k => fin σ' H'' f z s d x k e5
    | bk =>
      cases e5
      exact fun σ' H'' f z s d x k => p σ' H'' f z s d ((Ext.trans x3 x).to (fun a m => m) fun a m => .inr (List.mem_append_right _ m)) (k3.trans k)
    | rt w =>
      cases e5
      exact fun v σ' H'' f1 z1 f z r s d x k => p v σ' H'' f1 z1 f z r s d ((Ext.trans x3 x).to (fun a m => m) fun a m => .inr (List.mem_append_right _ m)) (k3.trans k)
  · refine .inl ⟨itk.stop i Hc hh2 (by omega), ?_⟩
    rw [List.drop_eq_nil_of_le (by omega)] at e3
    cases e3
    exact p σ1 Hc f z s2 ⟨d2.1, fun a m m' => d2.2 a m (List.mem_append_right _ m')⟩ (x2.to (fun a m => m) fun a m => .inr (List.mem_append_right _ m)) k2
end
end Pi
/-! Pi20: assignments. -/
namespace Pi
open PySem L2
section
variable {X : Cx} {tb : Tb} {cf : Cf} {c : CkC} {kp : List Nat}
theorem q_read {K : PySem.W.Frag} {e : Ex} (hq : quiet e = true) (σ : St) (H : Hp) (Q : VK) (h : tI K cf (.q e) σ H Q) : tI K cf e σ H Q := by
  obtain ⟨ρ, fp, fz, d, ρ', s, dj, h, p⟩ := h
  simp only [ev] at h
  obtain ⟨x, ρ1, e1, e2⟩ := bind_inv h
  cases e2
  have hq2 : quiet (.q e) = true := hq
  refine ⟨ρ, fp, fz, d, ρ1, s, dj, e1, fun v H' f1 z1 f z r s' d' x' n' => ?_⟩
  by_cases hn : nofz d.2 d.1 = true
  · rw [if_pos hn] at p
    rw [hq] at x'
    have hz : z1 = [] := Rep.nofz _ _ _ _ _ hn r
    subst hz
    have ts := s.trk
    have nw := n' hq
    refine p v H' f1 [] fp fz r (SL.stay x'.stay s (by simp) (by simp)) ⟨List.nodup_append.mpr ⟨d'.left.1, dj.1, fun a m b m' e => ?_⟩, fun a m m' => ?_⟩ ?_ (fun _ => nw)
    · subst e; exact ts.1 a m' (nw a m)
    · rcases List.mem_append.mp m with m | m
      · exact ts.2 a m' (nw a m)
      · exact dj.2 a m m'
    · rw [hq2]
      exact ⟨x'.stay, fun a m => (List.mem_append.mp m).elim (fun m => .inr (nw a m)) .inl, fun a m => .inr (.inl m)⟩
  · rw [if_neg hn] at p
    exact p v H' f1 z1 f z r s' d' x' n'
theorem asg_gen {i : Nat} {e : Ex} {st : Stmt} {te : TE} (hs : PS X st (tAsg te (gName i))) (hr : ∀ σ H Q, tI X.K cf e σ H Q → te σ H Q) (hk : i ∉ kp) : PS X st (tSI X.K cf kp (.asg (.nm i) e)) := by
  refine ps_imp hs fun D σ H _ ⟨ρ, fp, fz, fl, ρ', s, dj, e, p⟩ => ?_
  simp only [exec] at e
  obtain ⟨x, ρ1, e1, e2⟩ := bind_inv e
  cases e2
  refine hr σ H _ (ex_step s dj e1 fun v H' f1 z1 f z r s' d' x' => ?_)
  obtain ⟨F, Z, s2, l⟩ := SL.set2 (i := i) s' r
  exact p _ H' F Z s2 (l.disj d') (x'.less l) fun j m => by rw [List.getElem?_set_ne (fun h => hk (by rw [h]; exact m))]
theorem asg_tp {l : List Nat} {e : Ex} {xt x : Expr} {pos : Pos} (ok : XOk X tb cf c) (ie : PE X x (tI X.K cf e)) (ht : ckTg c (.tp l) xt = true) (hk : ∀ i ∈ l, i ∉ kp) (hs : swapsWithSole [xt] x pos.line X.env = pure false) (hw : swappedStores [xt] x X.env = pure none) (h1 : (assignEach [xt] X.env).map (·.2) = [assign xt X.env]) :
    PS X (.Assign [xt] x pos) (tSI X.K cf kp (.asg (.tp l) e)) := by
  obtain ⟨hg, hT⟩ := tg_ok ok ht
  refine ps_imp (ps_asg ie hg hs hw h1) fun D σ H _ ⟨ρ, fp, fz, fl, ρ', s, dj, e, p⟩ => ?_
  simp only [exec] at e
  obtain ⟨x, ρ1, e1, e2⟩ := bind_inv e
  obtain ⟨ρ2, ρ3, e3, e4⟩ := bind_inv e2
  obtain ⟨e5, _⟩ := of_inv e3
  cases e4
  refine ex_step s dj e1 fun v H' f1 z1 f z r s' d' x' => ?_
  obtain ⟨z0, r0, l0⟩ := r.frz
  refine hT v σ H' _ _ ρ1 _ f z z0 s' r0 e5 fun σ2 f' z' s2 l2 hw => ?_
  have L : Less (f1 ++ f) (z1 ++ z) f' z' := (l0.app (Less.refl f z)).trans (by simpa using l2)
  exact p σ2 H' f' z' s2 (L.disj d') (x'.less L) (kp_wipe hw hk)
theorem lc_set (ok : XOk X tb cf c) {i : Nat} {y : Str} {py : Pos} {elt : Expr} {gs : List Comprehension} {scope : Scope} {pos spos : Pos} (hy : c.N[i]? = some y) (hyl : c.sc.names.lookup y = some .local)
    (hsw : swapsWith (.ListComp elt gs scope pos) (some (.Name y py)) spos.line X.env = pure true) : ∀ (e : Ex), ck tb c e (.ListComp elt gs scope pos) = true →
    ∃ te, PS X (.Assign [.Name y py] (.ListComp elt gs scope pos) spos) (tAsg te (gName i)) ∧ ∀ σ H Q, tI X.K cf e σ H Q → te σ H Q := by
  intro e
  induction e with
  | q e ih =>
    intro h
    have h : (ck tb c e (.ListComp elt gs scope pos) && quiet e) = true := h
    rw [Bool.and_eq_true] at h
    obtain ⟨te, a, b⟩ := ih h.1
    exact ⟨te, a, fun σ H Q q => b σ H Q (q_read h.2 σ H Q q)⟩
  | lc k own elt' tg it cnd ihe ihi ihc =>
    intro h
    rcases gs with _ | ⟨⟨xt, xi, ifs, isa⟩, _ | ⟨g2, gs⟩⟩
    · exact nof h
    · rcases isa with (_ | a) | a <;> first | exact nof h | skip
      have h : (ckI tb c it xt xi && blkC c.N c.sc scope (own.map fun i => ((c.N[i]?).getD Str.empty, i)) && (tgSlots tg).all own.contains && ckTg (blkK c scope) tg xt && ck tb (blkK c scope) elt' elt &&
        cndOk tb (blkK c scope) cnd ifs) = true := h
      simp only [Bool.and_eq_true] at h
      obtain ⟨⟨⟨⟨⟨h1, h2⟩, h3⟩, h4⟩, h5⟩, h6⟩ := h
      have hb : BlkOk X.N X.env.scope scope (own.map fun i => ((c.N[i]?).getD Str.empty, i)) := by
        rw [ok.hN, ok.hsc]; exact blkOk_by h2
      have hpt : ∀ X', XOk X' tb cf (blkK c scope) → PTs X' ifs (tIT X'.K cf cnd) := by
        intro X' ok'
        unfold cndOk at h6
        split at h6
        · split at h6
          · exact pts_yes
          · cases h6
        · exact pts_one ((ok_all cnd).pt X' _ _ ok' h6)
        · cases h6
      have h0 := ps_setLc (X := X) (i := i) (y := y) (py := py) (pos := pos) (spos := spos) (g := tgG X.K tg) (tt := tIT X.K cf cnd) (te := tI X.K cf elt') ok.calm ok.nd (by rw [ok.hN]; exact hy) (by rw [ok.hsc]; exact hyl) hsw ((ok_all it).pi X c xt xi ok h1) hb
        (fun s H C cl fp => (tg_ok (xok_blk ok) h4).1) (fun s H C cl fp => hpt _ (xok_blk ok)) (fun s H C cl fp => (ok_all elt').pe _ _ _ (xok_blk ok) h5) (fun v => set_no (fun a k p e => by
          subst e
          cases it <;> first | exact nof h1 | (simp only [ckI, Bool.and_false, Bool.false_eq_true] at h1)) v)
      rw [own_map] at h0
      exact ⟨_, h0, fun σ H Q q => lc_read σ H Q (fun i m => by simpa using List.all_eq_true.mp h3 i m) (tg_ok (xok_blk (s := X.s_0) (H := H) (scope := scope) (C := 0) (cl := []) (fp := []) ok) h4).2 q⟩
    · cases isa <;> (simp [ck] at h)
  | mth m o l _ _ => intro h; cases m <;> exact nof h
  | _ => intro h; exact nof h
/-! ### a, b = x, y -/
def starB : Expr → Bool
  | .Starred .. => true
  | _ => false
theorem starB_no {a : Expr} (h : ∀ e p, a ≠ .Starred e p) : starB a = false := by
  cases a <;> first | rfl | exact absurd rfl (h _ _)
theorem sw2 {env : PySem.Env} {x y : Str} {px py pt pt2 : Pos} {kt k2 : Nat} {a b : Expr} (hk : env.scope.kind = .function) (hx : env.scope.names.lookup x = some .local) (hy : env.scope.names.lookup y = some .local) (hl : py.line = px.line) (hxy : x ≠ y)
    (ha : ∀ e p, a ≠ .Starred e p) (hb : ∀ e p, b ≠ .Starred e p) (h1 : ([a, b].all (foldedForSure 8)) = false) (h2 : ([a, b].all (constantsAlone 8)) = false) :
    swappedStores [.Tuple [.Name x px, .Name y py] kt pt] (.Tuple [a, b] k2 pt2) env = pure (some [x, y]) := by
  have hb1 : env.blockKind = .function := by
    unfold Env.blockKind
    rw [hk]; rfl
  have hs : ([a, b].any starB) = false := by
    show (_ || (_ || false)) = false
    rw [starB_no ha, starB_no hb]; rfl
  have hd : ([x, y] : List Str).eraseDups.length = 2 := by
    have : (y == x) = false := by simpa using fun h => hxy h.symm
    simp [List.eraseDups_cons, this]
  have k1 : env.kindOf x = some .local := hx
  have k2' : env.kindOf y = some .local := hy
  unfold swappedStores
  simp only [List.length_cons, List.length_nil, hb1, h1, h2, List.head?_cons, Option.map_some, Option.getD_some, Expr.pos, List.filterMap_cons, List.filterMap_nil, k1, k2', hl, beq_self_eq_true, Bool.and_self, if_true, hd, bne_self_eq_false, Bool.false_eq_true, if_false]
  rw [if_neg (by decide), if_neg (by rw [Bool.not_eq_true]; exact hs), if_neg (by decide)]
/-- a tuple of constants: no stores are swapped -/
theorem ss_fold {ts vs : List Expr} {k k2 : Nat} {p p2 : Pos} {env : PySem.Env} (h : vs.all (foldedForSure 8) = true) : swappedStores [.Tuple ts k p] (.Tuple vs k2 p2) env = pure none := by
  unfold swappedStores
  simp only [h, if_true]
  split
  · rfl
  · split
    · rfl
    · split
      · rfl
      · rfl
theorem sw3 {env : PySem.Env} {x y z : Str} {px py pz pt pt2 : Pos} {kt k2 : Nat} {a b d : Expr} (hk : env.scope.kind = .function) (hx : env.scope.names.lookup x = some .local) (hy : env.scope.names.lookup y = some .local) (hz : env.scope.names.lookup z = some .local) (hl : py.line = px.line) (hl2 : pz.line = px.line) (hxy : x ≠ y) (hxz : x ≠ z) (hyz : y ≠ z)
    (ha : ∀ e p, a ≠ .Starred e p) (hb : ∀ e p, b ≠ .Starred e p) (hd' : ∀ e p, d ≠ .Starred e p) (h1 : ([a, b, d].all (foldedForSure 8)) = false) (h2 : ([a, b, d].all (constantsAlone 8)) = false) :
    swappedStores [.Tuple [.Name x px, .Name y py, .Name z pz] kt pt] (.Tuple [a, b, d] k2 pt2) env = pure (some [x, y, z]) := by
  have hb1 : env.blockKind = .function := by
    unfold Env.blockKind
    rw [hk]; rfl
  have hs : ([a, b, d].any starB) = false := by
    show (_ || (_ || (_ || false))) = false
    rw [starB_no ha, starB_no hb, starB_no hd']; rfl
  have hd : ([x, y, z] : List Str).eraseDups.length = 3 := by
    have q1 : (y == x) = false := by simpa using fun h => hxy h.symm
    have q2 : (z == x) = false := by simpa using fun h => hxz h.symm
    have q3 : (z == y) = false := by simpa using fun h => hyz h.symm
    simp [List.eraseDups_cons, q1, q2, q3]
  have k1 : env.kindOf x = some .local := hx
  have k2' : env.kindOf y = some .local := hy
  have k3 : env.kindOf z = some .local := hz
  unfold swappedStores
  simp only [List.length_cons, List.length_nil, hb1, h1, h2, List.head?_cons, Option.map_some, Option.getD_some, Expr.pos, List.filterMap_cons, List.filterMap_nil, k1, k2', k3, hl, hl2, beq_self_eq_true, Bool.and_self, if_true, hd, bne_self_eq_false, Bool.false_eq_true, if_false]
  rw [if_neg (by decide), if_neg (by rw [Bool.not_eq_true]; exact hs), if_neg (by decide)]
theorem par_step {e : Ex} {σ : St} {H : Hp} {fp fz : List Addr} {ρ ρ1 : Env} {as : List Ar} {xs : List Sl} {R : List V → Hp → Prop} (s : SL X.K H σ ρ fp fz) (dj : Disj fp fz) (he : evA cf e ρ = .ok as ρ1) (hv : valsA as = some xs)
    (k : ∀ vs H' f1 z1 f z, SL X.K H' (vs.map some) (xs.map some) f1 z1 → SL X.K H' σ ρ1 f z → Disj (f1 ++ f) (z1 ++ z) → Ext false H fp fz H' (f1 ++ f) (z1 ++ z) → R vs H') : tIA X.K cf e σ H R :=
  ⟨ρ, fp, fz, as, ρ1, s, dj, he, fun vs H' f1 z1 f z al s' d' x' _ => k vs H' f1 z1 f z (vals_al hv al) s' d' (x'.weak fun h => by cases h)⟩
theorem par2_ps {i j : Nat} {x y : Str} {e : Ex} {a b : Expr} {px py pt pt2 pos : Pos} {kt k2 : Nat} (ok : XOk X tb cf c) (hi : c.N[i]? = some x) (hj : c.N[j]? = some y) (hij : i ≠ j) (hx : c.sc.names.lookup x = some .local) (hy : c.sc.names.lookup y = some .local)
    (il : PA X [a, b] (tIA X.K cf e)) (hki : i ∉ kp) (hkj : j ∉ kp) (hw : swappedStores [.Tuple [.Name x px, .Name y py] kt pt] (.Tuple [a, b] k2 pt2) X.env = pure (some [x, y])) : PS X (.Assign [.Tuple [.Name x px, .Name y py] kt pt] (.Tuple [a, b] k2 pt2) pos) (tSI X.K cf kp (.par [i, j] e)) := by
  refine ps_imp (ps_par ok.calm ok.nd (by rw [ok.hN]; exact hi) (by rw [ok.hN]; exact hj) hij (by rw [ok.hsc]; exact hx) (by rw [ok.hsc]; exact hy) il hw) fun D σ H _ ⟨ρ, fp, fz, fl, ρ', s, dj, e, p⟩ => ?_
  simp only [exec] at e
  obtain ⟨xs, ρ1, e1, e2⟩ := bind_inv e
  obtain ⟨as, ρ0, e3, e4⟩ := bind_inv e1
  obtain ⟨hv, h0⟩ := of_inv e4
  subst h0
  obtain ⟨ρ2, ρ3, e5, e6⟩ := bind_inv e2
  obtain ⟨e7, _⟩ := of_inv e5
  cases e6
  clear e e1 e2 e4 e5
  refine par_step s dj e3 hv fun vs H' f1 z1 f z sv s' d' x' => ?_
  rcases xs with _ | ⟨u, _ | ⟨w, _ | ⟨t, xs⟩⟩⟩ <;> simp only [setAll, Option.some.injEq, reduceCtorEq] at e7
  obtain ⟨v1, v2, g1, g2, y1, y2, rfl, rfl, rfl, r1, r2⟩ := sl_two sv
  obtain ⟨F1, Z1, s1, l1⟩ := SL.set2 (i := i) s' r1
  obtain ⟨F2, Z2, s2, l2⟩ := SL.set2 (i := j) s1 r2
  subst e7
  have L : Less ((g1 ++ g2) ++ f) ((y1 ++ y2) ++ z) F2 Z2 := by
    refine Less.trans (Less.perm ?_ ?_) (((Less.refl g2 y2).app l1).trans l2)
    · exact perm_cnt fun a => by simp only [List.count_append]; omega
    · exact perm_cnt fun a => by simp only [List.count_append]; omega
  exact ⟨v1, v2, rfl, p _ H' F2 Z2 s2 (L.disj d') (x'.less L) fun n m => by rw [List.getElem?_set_ne (fun h => hkj (by rw [h]; exact m)), List.getElem?_set_ne (fun h => hki (by rw [h]; exact m))]⟩
theorem sl_three {K : PySem.W.Frag} {H : Hp} {vs : List V} {x y t : Sl} {f z : List Addr} (s : SL K H (vs.map some) ([x, y, t].map some) f z) : ∃ v w u f1 f2 f3 z1 z2 z3, vs = [v, w, u] ∧ f = f1 ++ (f2 ++ f3) ∧ z = z1 ++ (z2 ++ z3) ∧ Rep K H x.1 x.2 v f1 z1 ∧ Rep K H y.1 y.2 w f2 z2 ∧ Rep K H t.1 t.2 u f3 z3 := by
  obtain ⟨v, vs', f1, f2, z1, z2, rfl, rfl, rfl, r, s⟩ := sl_cons s
  obtain ⟨w, u, f3, f4, z3, z4, rfl, rfl, rfl, r2, r3⟩ := sl_two s
  exact ⟨v, w, u, f1, f3, f4, z1, z3, z4, rfl, rfl, rfl, r, r2, r3⟩
theorem par3_ps {i j l : Nat} {x y w : Str} {e : Ex} {a b d : Expr} {px py pw pt pt2 pos : Pos} {kt k2 : Nat} (ok : XOk X tb cf c) (hi : c.N[i]? = some x) (hj : c.N[j]? = some y) (hl : c.N[l]? = some w) (hij : i ≠ j) (hil : i ≠ l) (hjl : j ≠ l) (hx : c.sc.names.lookup x = some .local) (hy : c.sc.names.lookup y = some .local) (hw' : c.sc.names.lookup w = some .local)
    (il : PA X [a, b, d] (tIA X.K cf e)) (hki : i ∉ kp) (hkj : j ∉ kp) (hkl : l ∉ kp) (hw : swappedStores [.Tuple [.Name x px, .Name y py, .Name w pw] kt pt] (.Tuple [a, b, d] k2 pt2) X.env = pure (some [x, y, w])) : PS X (.Assign [.Tuple [.Name x px, .Name y py, .Name w pw] kt pt] (.Tuple [a, b, d] k2 pt2) pos) (tSI X.K cf kp (.par [i, j, l] e)) := by
  refine ps_imp (ps_par3 ok.calm ok.nd (by rw [ok.hN]; exact hi) (by rw [ok.hN]; exact hj) (by rw [ok.hN]; exact hl) hij hil hjl (by rw [ok.hsc]; exact hx) (by rw [ok.hsc]; exact hy) (by rw [ok.hsc]; exact hw') il hw) fun D σ H _ ⟨ρ, fp, fz, fl, ρ', s, dj, e, p⟩ => ?_
  simp only [exec] at e
  obtain ⟨xs, ρ1, e1, e2⟩ := bind_inv e
  obtain ⟨as, ρ0, e3, e4⟩ := bind_inv e1
  obtain ⟨hv, h0⟩ := of_inv e4
  subst h0
  obtain ⟨ρ2, ρ3, e5, e6⟩ := bind_inv e2
  obtain ⟨e7, _⟩ := of_inv e5
  cases e6
  clear e e1 e2 e4 e5
  refine par_step s dj e3 hv fun vs H' f1 z1 f z sv s' d' x' => ?_
  rcases xs with _ | ⟨u, _ | ⟨w, _ | ⟨t, _ | ⟨t2, xs⟩⟩⟩⟩ <;> simp only [setAll, Option.some.injEq, reduceCtorEq] at e7
  obtain ⟨v1, v2, v3, g1, g2, g3, y1, y2, y3, rfl, rfl, rfl, r1, r2, r3⟩ := sl_three sv
  obtain ⟨F1, Z1, s1, l1⟩ := SL.set2 (i := i) s' r1
  obtain ⟨F2, Z2, s2, l2⟩ := SL.set2 (i := j) s1 r2
  obtain ⟨F3, Z3, s3, l3⟩ := SL.set2 (i := l) s2 r3
  subst e7
  have L : Less ((g1 ++ (g2 ++ g3)) ++ f) ((y1 ++ (y2 ++ y3)) ++ z) F3 Z3 := by
    refine Less.trans (Less.perm ?_ ?_) (((Less.refl g3 y3).app (((Less.refl g2 y2).app l1).trans l2)).trans l3)
    · exact perm_cnt fun a => by simp only [List.count_append]; omega
    · exact perm_cnt fun a => by simp only [List.count_append]; omega
  exact ⟨v1, v2, v3, rfl, p _ H' F3 Z3 s3 (L.disj d') (x'.less L) fun n m => by rw [List.getElem?_set_ne (fun h => hkl (by rw [h]; exact m)), List.getElem?_set_ne (fun h => hkj (by rw [h]; exact m)), List.getElem?_set_ne (fun h => hki (by rw [h]; exact m))]⟩
end
end Pi
/-! Pi21: x op= y, o[i] = v; every statement. -/
namespace Pi
open PySem L2
section
variable {X : Cx} {tb : Tb} {cf : Cf} {c : CkC} {kp : List Nat}
theorem rep_flat {K : PySem.W.Frag} {H : Hp} {d : D} {n : Nat} {v : V} {f z : List Addr} (r : Rep K H d n v f z) (h : flatD d = true) (H' : Hp) : f = [] ∧ z = [] ∧ Rep K H' d 0 v [] [] := by
  cases d <;> first | exact nof h | (simp only [Rep] at r ⊢; simp [r])
def rAug (K : PySem.W.Frag) (o : Operator) : TIp := fun x y H Q => ∃ d1 d2 z d, Rep K H d1 0 x [] [] ∧ Rep K H d2 0 y [] z ∧ augD o d1 d2 = some d ∧ ∀ v, Rep K H d 0 v [] [] → Q v H
theorem aug_ok (o : Operator) : PIp X o (rAug X.K o) := by
  intro pins s σ H x y v u Q I rx ry ⟨d1, d2, z, d, r1, r2, e, q⟩
  unfold augD at e
  split at e
  · cases e; cases r1.toInt; cases r2.toInt
    exact iop_add pins s σ H _ _ v u Q I rx ry ⟨_, _, rfl, rfl, q _ (by simp [Rep])⟩
  · split at e
    · rename_i hl
      cases e; cases r1.toStr; cases r2.toStr
      exact iop_add_str pins s σ H _ _ v u Q I rx ry ⟨_, _, rfl, rfl, hl, q _ (by simp [Rep])⟩
    · cases e
  · cases e; cases r1.toInt; cases r2.toInt
    exact iop_sub pins s σ H _ _ v u Q I rx ry ⟨_, _, rfl, rfl, q _ (by simp [Rep])⟩
  · split at e
    · rename_i hl
      cases e; cases r1.toInt; cases r2.toInt
      exact iop_mul pins s σ H _ _ v u Q I rx ry ⟨_, _, rfl, rfl, by simpa [CMul] using hl, q _ (by simp [Rep])⟩
    · cases e
  · split at e
    · rename_i hl
      cases e; cases r1.toInt; cases r2.toInt
      exact iop_fdiv pins s σ H _ _ v u Q I rx ry ⟨_, _, rfl, rfl, hl, q _ (by simp [Rep])⟩
    · cases e
  · split at e
    · rename_i hl
      cases e; cases r1.toInt; cases r2.toInt
      exact iop_mod pins s σ H _ _ v u Q I rx ry ⟨_, _, rfl, rfl, hl, q _ (by simp [Rep])⟩
    · cases e
  · split at e
    · rename_i hl
      cases e; cases r1.toInt; cases r2.toInt
      exact iop_shr pins s σ H _ _ v u Q I rx ry ⟨_, _, rfl, rfl, hl, q _ (by simp [Rep])⟩
    · cases e
  · cases e; cases r1.toInt; cases r2.toInt
    exact iop_and pins s σ H _ _ v u Q I rx ry ⟨_, _, rfl, rfl, q _ (by simp [Rep])⟩
  · cases e; cases r1.toInt; cases r2.toInt
    exact iop_or pins s σ H _ _ v u Q I rx ry ⟨_, _, rfl, rfl, q _ (by simp [Rep])⟩
  · cases e
theorem tgt_loc (ok : XOk X tb cf c) {i : Nat} {x : Str} (h : ckTgt c i x = true) : X.N[i]? = some x ∧ Loc X.env.scope x ∧ (X.fn x = true ∨ X.env.scope.names.lookup x = some .local) := by
  simp only [ckTgt, plainNm, Bool.and_eq_true, beq_iff_eq, Bool.not_eq_true'] at h
  have hl := h.1.2
  unfold locB at hl
  split at hl
  · rename_i e
    exact ⟨by rw [ok.hN]; exact h.1.1, by rw [ok.hsc]; exact .inl e, .inr (by rw [ok.hsc]; exact e)⟩
  · rename_i e
    exact ⟨by rw [ok.hN]; exact h.1.1, by rw [ok.hsc]; exact .inr e, .inl (ok.hfn x hl)⟩
  · cases hl
theorem aug_ps (ok : XOk X tb cf c) {i : Nat} {o : Operator} {e : Ex} {x : Str} {xe : Expr} {p pos : Pos} (ht : ckTgt c i x = true) (hk : i ∉ kp) (ie : PE X xe (tI X.K cf e)) : PS X (.AugAssign (.Name x p) o xe pos) (tSI X.K cf kp (.aug i o e)) := by
  obtain ⟨h1, h2, h3⟩ := tgt_loc ok ht
  refine ps_imp (ps_aug ok.nd h1 h2 ie (aug_ok o) h3) fun D σ H _ ⟨ρ, fp, fz, fl, ρ', s, dj, e, p⟩ => ?_
  simp only [exec] at e
  split at e
  · rename_i dx nx hg
    split at e
    · rename_i hfl
      obtain ⟨y, ρ1, e1, e2⟩ := bind_inv e
      obtain ⟨d, ρ2, e3, e4⟩ := bind_inv e2
      obtain ⟨e5, h0⟩ := of_inv e3
      subst h0
      cases e4
      obtain ⟨v, _, _, _, _, hσ, r0, _⟩ := SL.take s hg
      refine ⟨v, hσ, ex_step s dj e1 fun w H' f1 z1 f z r s' d' x' => ?_⟩
      obtain ⟨_, _, r0'⟩ := rep_flat r0 hfl H'
      obtain ⟨z0, r1, l1⟩ := r.frz
      refine ⟨dx, y.1, z0, d, r0', r1, e5, fun u ru => ?_⟩
      obtain ⟨F, Z, s2, l2⟩ := SL.set2 (i := i) s' ru
      have la : Less ([] ++ f) (z0 ++ z) f z := .by [] (fun a => by simp) fun a m => .inl (List.mem_append_right _ m)
      have L : Less (f1 ++ f) (z1 ++ z) F Z := (l1.app (Less.refl f z)).trans (la.trans (by simpa using l2))
      exact p _ H' F Z s2 (L.disj d') (x'.less L) fun j m => by rw [List.getElem?_set_ne (fun h => hk (by rw [h]; exact m))]
    · cases e
  · cases e
/-! ### o[i] = v -/
def rSet : TSet := fun o i v H Q => rSetL o i v H Q ∨ ∃ a kvs k, o = .ref a ∧ i = kV k ∧ H a = some (.dK kvs) ∧ kvs.length < sizeLine ∧ Q (upd H a (.dK (putD kvs k v)))
theorem set_ok (hu : X.A.units + 1 < cLine) : PSet X rSet := by
  intro pins s σ H o i v ov iv u Q I ro ri rv h
  rcases h with h | ⟨a, kvs, k, rfl, rfl, h, hl, q⟩
  · exact set_list pins s σ H o i v ov iv u Q I ro ri rv h
  · obtain rfl : ov = .ref a := ro
    have hn : (kvs.map (·.1)).Nodup := by
      obtain ⟨_, _, vs, rel, dd⟩ := dk_of I.hok h
      obtain ⟨_, _, _, _, _, _, _, _, hn⟩ := dd
      rw [rel.keys]; exact hn
    refine d_setItem hu I (.inl ⟨kvs, k, h, rfl, hl, rfl⟩) ri rv fun s' I' => ⟨_, I', ?_⟩
    rw [putK_eq k v hn]; exact q
theorem set_core {d d' kk : D} {n : Nat} {v : Sl} {x w kv : V} {f1 z1 fa za f3 z3 : List Addr} {nk : Nat} {H : Hp} {Q : Hp → Prop} (r : Rep X.K H d (n + 1) x f1 z1) (rv : Rep X.K H v.1 v.2 w fa za) (rk : Rep X.K H kk nk kv f3 z3) (dj : Disj (fa ++ f1) (za ++ z1)) (e : setD d (n + 1) kk v = some d')
    (k : ∀ H' f1' z1', Stay f1 H H' → Rep X.K H' d' (n + 1) x f1' z1' → Less (fa ++ f1) (za ++ z1) f1' z1' → Q H') : rSet x kv w H Q := by
  unfold setD at e
  split at e
  · rename_i ys i
    split at e
    · rename_i j hj
      split at e
      · rename_i hc
        cases e
        simp only [Nat.add_sub_cancel] at hc
        obtain ⟨a, ws, g, rfl, hp, rl, rfl⟩ := r.ownL
        cases rk.toInt
        obtain ⟨fa', za', rw1, l1⟩ := Rep.hasd hc rv
        have hl := RepL.len rl
        have hjl : j < ys.length := (ixN_seq hj).2.1
        obtain ⟨f', z', rl2, l2⟩ := RepL.setAt j rl hjl rw1
        have st : Stay (a :: g) H (upd H a (.lst (ws.set j w))) := stay_upd g (by rw [hp]; simp) (by rw [hp]; exact trivial)
        have st' : Stay [a] H (upd H a (.lst (ws.set j w))) := stay_upd [] (by rw [hp]; simp) (by rw [hp]; exact trivial)
        have nd := List.nodup_append.mp dj.1
        have ng := List.nodup_cons.mp nd.2.1
        have L : Less (fa ++ (a :: g)) (za ++ z1) (a :: f') z' := by
          obtain ⟨m1, p1, q1⟩ := l1
          obtain ⟨m2, p2, q2⟩ := l2
          refine .by (m2 ++ m1) (fun b => ?_) fun b m => ?_
          · have := cnt_perm p1 b
            have := cnt_perm p2 b
            simp only [List.count_append, List.count_cons] at *
            omega
          · rcases q2 b m with m | m
            · rcases List.mem_append.mp m with m | m
              · exact (q1 b m).imp (fun m => by simp [m]) fun m => by simp [m]
              · exact .inl (by simp [m])
            · exact .inr (by simp [m])
        have dL := L.disj dj
        have nL := List.nodup_cons.mp dL.1
        have rl3 := RepL.stay st' _ _ _ _ _ rl2 (fun b m h => by rw [List.mem_singleton.mp h] at m; exact nL.1 m) (fun b m h => by rw [List.mem_singleton.mp h] at m; exact dL.2 a (by simp) m)
        exact .inl ⟨a, ws, i, j, rfl, rfl, hp, by rw [hl]; exact hj, k _ _ _ st (Rep.mkL upd_same rl3) L⟩
      · cases e
    · cases e
  · rename_i l k0
    split at e
    · rename_i kk' hk
      split at e
      · rename_i hc
        cases e
        simp only [Bool.and_eq_true, decide_eq_true_eq, Nat.add_sub_cancel] at hc
        obtain ⟨a, ws, g, rfl, hp, rl, rfl⟩ := r.ownK
        obtain ⟨rfl, _, _⟩ := rep_key rk hk
        obtain ⟨fa', za', rw1, l1⟩ := Rep.hasd hc.2 rv
        obtain ⟨f', z', rl2, l2⟩ := RepK.put kk' rl rw1
        have st : Stay (a :: g) H (upd H a (.dK (putD ws kk' w))) := stay_upd g (by rw [hp]; simp) (by rw [hp]; exact trivial)
        have st' : Stay [a] H (upd H a (.dK (putD ws kk' w))) := stay_upd [] (by rw [hp]; simp) (by rw [hp]; exact trivial)
        have L : Less (fa ++ (a :: g)) (za ++ z1) (a :: f') z' := by
          obtain ⟨m1, p1, q1⟩ := l1
          obtain ⟨m2, p2, q2⟩ := l2
          refine .by (m2 ++ m1) (fun b => ?_) fun b m => ?_
          · have := cnt_perm p1 b
            have := cnt_perm p2 b
            simp only [List.count_append, List.count_cons] at *
            omega
          · rcases q2 b m with m | m
            · rcases List.mem_append.mp m with m | m
              · exact (q1 b m).imp (fun m => by simp [m]) fun m => by simp [m]
              · exact .inl (by simp [m])
            · exact .inr (by simp [m])
        have dL := L.disj dj
        have nL := List.nodup_cons.mp dL.1
        have rl3 := RepK.stay st' _ _ _ _ _ rl2 (fun b m h => by rw [List.mem_singleton.mp h] at m; exact nL.1 m) (fun b m h => by rw [List.mem_singleton.mp h] at m; exact dL.2 a (by simp) m)
        exact .inr ⟨a, ws, kk', rfl, rfl, hp, by rw [RepK.len rl]; exact hc.1, k _ _ _ st (Rep.mkK upd_same rl3) L⟩
      · cases e
    · cases e
  · cases e
theorem setix_ps (ok : XOk X tb cf c) {i : Nat} {k e : Ex} {x : Str} {xk xv : Expr} {p ps pos : Pos} (hx : ckVar c i x = true) (ik : PE X xk (tI X.K cf k)) (hns : notSl xk = true) (ie : PE X xv (tI X.K cf e)) : PS X (.Assign [.Subscript (.Name x p) xk ps] xv pos) (tSI X.K cf kp (.setix i k e)) := by
  have hsw : swapsWithSole [.Subscript (.Name x p) xk ps] xv pos.line X.env = pure false := by cases xv <;> rfl
  have hss : swappedStores [.Subscript (.Name x p) xk ps] xv X.env = pure none := by cases xv <;> rfl
  refine ps_imp (ps_asg ie (pg_sub (ckVar_ok ok hx) ik (set_ok (X := X) (by have := ok.hu; omega)) (by intro v; cases xk <;> first | rfl | exact nof hns)) hsw hss rfl) fun D σ H _ ⟨ρ, fp, fz, fl, ρ', s, dj, e, q⟩ => ?_
  simp only [exec] at e
  obtain ⟨v, ρ1, e1, e2⟩ := bind_inv e
  split at e2
  · cases e2
  rename_i hsome
  obtain ⟨kk, ρ2, e3, e4⟩ := bind_inv e2
  split at e4
  · rename_i d n hg
    split at e4
    · rename_i d' hset
      cases e4
      refine ex_step s dj e1 fun w H1 f1 z1 f2 z2 rv s1 d1 x1 => ?_
      have hs1 : ∃ d0 n0, gt ρ1 i = some (d0, n0) := by
        cases h : gt ρ1 i with
        | none => rw [h] at hsome; exact absurd rfl hsome
        | some s => exact ⟨s.1, s.2, rfl⟩
      obtain ⟨d0, n0, hg0⟩ := hs1
      obtain ⟨o, _, _, _, _, hσ, _⟩ := SL.take s1 hg0
      refine ⟨o, hσ, ex_step s1 d1.right e3 fun kv H2 f3 z3 f4 z4 rk s2 d2 x2 => ?_⟩
      have t1 := rv.trk
      have d3 := Ext.disj d1 t1.1 t1.2 x2 d2
      have x3 := Ext.trans x1 x2
      have rv' := Rep.stay x2.stay _ _ _ _ _ rv d1.off1 d1.off2
      rw [← List.append_assoc, ← List.append_assoc] at d3 x3
      obtain ⟨o', g1, g2, y1, y2, hσ', r1, sr, p1, p2⟩ := SL.take s2 hg
      rw [hσ] at hσ'
      cases hσ'
      have d4 := mut_dj p1 p2 d3
      have d5 : Disj (f1 ++ g1) (z1 ++ y1) := Less.disj (.by f3 (fun a => by simp only [List.count_append]; omega) fun a m => .inl ((List.mem_append.mp m).elim (fun m => by simp [m]) fun m => by simp [m])) d4
      refine set_core r1 rv' rk d5 hset fun H3 f' z' hst rd l => ?_
      have l0 : Less ((f1 ++ f3) ++ g1) ((z1 ++ z3) ++ y1) (f1 ++ g1) (z1 ++ y1) := .by f3 (fun a => by simp only [List.count_append]; omega) fun a m => .inl ((List.mem_append.mp m).elim (fun m => by simp [m]) fun m => by simp [m])
      have l2 : Less ((f1 ++ f3) ++ g1) ((z1 ++ z3) ++ y1) ([] ++ f') ([] ++ z') := l0.trans (by simpa using l)
      obtain ⟨F, Z, sF, dF, xF⟩ := mut_sl sr hσ p1 p2 d3 x3 hst rd l2
      exact q σ H3 F Z sF dF xF (.refl _ _)
    · cases e4
  · cases e4
/-! ### o[i] op= v, a list of ints -/
theorem pget_list : PGet X (fun o i H Q => ∃ p xs j v, o = .ref p ∧ i = .int j ∧ 0 ≤ j ∧ SqL X.K H p xs ∧ atI xs j = some v ∧ Q v H) := by
  intro pins s σ H o i ov iv Q I ro ri ⟨p, xs, j, w, eo, ei, h0, hq, ha, q⟩
  subst eo ei
  cases ro
  obtain ⟨t, rfl⟩ := ri
  obtain ⟨its, r, pl, hz⟩ := I.list hq
  obtain ⟨k, h1, h2, h3, h4, h5⟩ := atI_get ha
  obtain ⟨u, eu, ru⟩ := r.get h2
  have hl := r.length
  have hn := line63
  have hj : j.toNat = k := by
    rw [PySem.seqIndex_of h0 h5] at h1
    exact Option.some.inj h1
  exact wpAny_getItem_list pl.isList h0 (by omega) (by rw [hj]; simpa using eu) ⟨w, H, I, ru, q⟩
theorem augix_ps (ok : XOk X tb cf c) {i : Nat} {k e : Ex} {o : Operator} {x : Str} {xk xe : Expr} {p ps pos : Pos} (hx : ckVar c i x = true) (ik : PE X xk (tI X.K cf k)) (hns : notSl xk = true) (ie : PE X xe (tI X.K cf e)) : PS X (.AugAssign (.Subscript (.Name x p) xk ps) o xe pos) (tSI X.K cf kp (.augix i k o e)) := by
  refine ps_imp (ps_augS (ckVar_ok ok hx) ik pget_list ie (aug_ok o) (set_ok (X := X) (by have := ok.hu; omega)) (by intro ov iv new; cases xk <;> first | rfl | exact nof hns)) fun D σ H _ ⟨ρ, fp, fz, fl, ρ', s, dj, e, q⟩ => ?_
  simp only [exec] at e
  split at e
  · cases e
  rename_i hsome
  have hs1 : ∃ d0 n0, gt ρ i = some (d0, n0) := by
    cases h : gt ρ i with
    | none => rw [h] at hsome; exact absurd rfl hsome
    | some s => exact ⟨s.1, s.2, rfl⟩
  obtain ⟨d0, n0, hg0⟩ := hs1
  obtain ⟨o0, _, _, _, _, hσ, _⟩ := SL.take s hg0
  obtain ⟨kk, ρ1, e1, e2⟩ := bind_inv e
  split at e2
  · rename_i l n1 j hg hk
    split at e2
    · rename_i x0 hat
      split at e2
      · rename_i h0
        obtain ⟨y, ρ2, e3, e4⟩ := bind_inv e2
        split at e4
        · rename_i d n z hg2 haug
          split at e4
          · rename_i d' hset
            cases e4
            refine ⟨o0, hσ, ex_step s dj e1 fun kv H1 f1 z1 f2 z2 rk s1 d1 x1 => ?_⟩
            rw [hk] at rk
            simp only [Rep] at rk
            obtain ⟨rfl, rfl, rfl⟩ := rk
            obtain ⟨o1, g1, g2, y1, y2, hσ1, r1, sr1, p1, p2⟩ := SL.take s1 hg
            rw [hσ] at hσ1
            cases hσ1
            obtain ⟨zz, r1f, _⟩ := r1.frz
            obtain ⟨a, vs, z', ho, ha, rl, _⟩ := r1f.toLst
            obtain ⟨w, zw, haw, hrw, _⟩ := atI_rep rl hat
            cases hrw.toInt
            refine ⟨a, vs, j, .int x0, ho, rfl, h0, SqL.of ha, haw, ?_⟩
            refine ex_step s1 d1.right e3 fun yv H2 f3 z3 f4 z4 ry s2 d2 x2 => ?_
            obtain ⟨zy, ryf, ly⟩ := ry.frz
            refine ⟨.int x0, y.1, zy, .int z, by simp [Rep], ryf, haug, fun u ru => ?_⟩
            obtain ⟨o', g1', g2', y1', y2', hσ', r2, sr, p1', p2'⟩ := SL.take s2 hg2
            rw [hσ] at hσ'
            cases hσ'
            have x3 : Ext false H fp fz H2 (f3 ++ f4) (z3 ++ z4) := Ext.trans0 (show Ext false H fp fz H1 f2 z2 from x1) x2
            have d4 := mut_dj p1' p2' d2
            refine set_core (v := (.int z, 0)) (kv := .int j) (f3 := []) (z3 := []) (nk := 0) r2 ru (by simp [Rep]) (show Disj ([] ++ g1') ([] ++ y1') from d4.right) hset fun H3 f' zz' hst rd l => ?_
            have l0 : Less (f3 ++ g1') (z3 ++ y1') g1' y1' := .by f3 (fun a => by simp only [List.count_append]; omega) fun a m => .inl (List.mem_append_right _ m)
            have l2 : Less (f3 ++ g1') (z3 ++ y1') ([] ++ f') ([] ++ zz') := l0.trans (by simpa using l)
            obtain ⟨F, Z, sF, dF, xF⟩ := mut_sl sr hσ p1' p2' d2 x3 hst rd l2
            exact q σ H3 F Z sF dF xF (.refl _ _)
          · cases e4
        · cases e4
      · cases e2
    · cases e2
  · cases e2
end
end Pi
/-! Pi22: the checker of statements. -/
namespace Pi
open PySem L2
def notComp : Expr → Bool
  | .ListComp _ _ _ _ => false
  | .SetComp _ _ _ _ => false
  | .DictComp _ _ _ _ _ => false
  | _ => true
def isTupE : Expr → Bool
  | .Tuple _ _ _ => true
  | _ => false
def foldE : Expr → Bool
  | .Tuple vs _ _ => vs.all (foldedForSure 8)
  | _ => false
def asgB (c : CkC) (y : Str) (py : Pos) : Expr → Bool
  | .ListComp _ _ scope lp => (c.sc.names.lookup y == some .local) && (py.line == lp.line) && !(scope.names.any fun (n, k) => n == y && (k == .local || k == .cell))
  | _ => false
def dropDoc : List Stmt → List Stmt
  | .Expr (.Constant (.str _) _ _) _ :: r => r
  | l => l
def parN (c : CkC) (kp : List Nat) (ln : Nat) (i : Nat) (x : Str) (p : Pos) : Bool := (c.N[i]? == some x) && (c.sc.names.lookup x == some .local) && (p.line == ln) && !kp.contains i
def notSeq : Sm → Bool
  | .seq _ _ => false
  | _ => true
def ckS (tb : Tb) (c : CkC) (kp : List Nat) : Sm → List Stmt → Bool
  | .skip, [] => true
  | .skip, [.Pass _] => true
  | .seq a b, s :: r => notSeq a && ckS tb c kp a [s] && ckS tb c kp b r
  | .expr e, [.Expr x _] => ck tb c e x && notComp x
  | .asg (.nm i) e, [.Assign [.Name y py] x _] => ckTgt c i y && !kp.contains i && ck tb c e x && (notComp x || asgB c y py x)
  | .asg (.tp l) e, [.Assign [.Tuple ts k q] x _] => ckTg c (.tp l) (.Tuple ts k q) && (l.all fun i => !kp.contains i) && ck tb c e x && notComp x && (!isTupE x || foldE x)
  | .augix i k o e, [.AugAssign (.Subscript (.Name x _) xk _) o' xe _] => (o == o') && ckVar c i x && ck tb c k xk && notSl xk && ck tb c e xe
  | .par [i, j] e, [.Assign [.Tuple [.Name x px, .Name y py] _ _] (.Tuple [a, b] _ _) _] => parN c kp px.line i x px && parN c kp px.line j y py && !(x == y) && !(i == j) && ckA tb c e [a, b] && !([a, b].all (foldedForSure 8)) && !([a, b].all (constantsAlone 8)) && !starB a && !starB b
  | .par [i, j, l] e, [.Assign [.Tuple [.Name x px, .Name y py, .Name z pz] _ _] (.Tuple [a, b, d] _ _) _] => parN c kp px.line i x px && parN c kp px.line j y py && parN c kp px.line l z pz && !(x == y) && !(x == z) && !(y == z) && !(i == j) && !(i == l) && !(j == l) &&
      ckA tb c e [a, b, d] && !([a, b, d].all (foldedForSure 8)) && !([a, b, d].all (constantsAlone 8)) && !starB a && !starB b && !starB d
  | .aug i o e, [.AugAssign (.Name x _) o' xe _] => (o == o') && ckTgt c i x && !kp.contains i && ck tb c e xe
  | .setix i k e, [.Assign [.Subscript (.Name x _) xk _] xv _] => ckVar c i x && ck tb c k xk && notSl xk && ck tb c e xv
  | .ret e, [.Return (some x) _] => ck tb c e x
  | .retn, [.Return none _] => true
  | .ifs t a b, [.If x sa sb _] => ckT tb c t x && ckS tb c kp a (dropDoc sa) && ckS tb c kp b (dropDoc sb)
  | .whl t b, [.While x body [] _] => ckT tb c t x && ckS tb c kp b (dropDoc body)
  | .fors none t it b, [.For xt xi body [] _] => ckI tb c it xt xi && ckTg c t xt && ((tgSlots t).all fun i => !kp.contains i) && ckS tb c kp b (dropDoc body)
  | .brk, [.Break _] => true
  | .cnt, [.Continue _] => true
  | .never, [_] => true
  | _, _ => false
section
variable {X : Cx} {tb : Tb} {cf : Cf} {c : CkC} {kp : List Nat}
theorem doc_drop {l : List Stmt} {a : Sm} (h : PSs X (dropDoc l) (tSI X.K cf kp a)) : PSs X l (tSI X.K cf kp a) := by
  unfold dropDoc at h
  split at h
  · exact doc_pss h
  · exact h
theorem sw_none {x : Expr} {l : Nat} {env : PySem.Env} (h : notComp x = true) : swapsWith x none l env = pure false := by cases x <;> first | rfl | exact nof h
theorem sw_nm {x : Expr} {y : Str} {p : Pos} {l : Nat} {env : PySem.Env} (h : notComp x = true) : swapsWith x (some (.Name y p)) l env = pure false := by cases x <;> first | rfl | exact nof h
theorem sw_tp {x : Expr} {ts : List Expr} {k : Nat} {p : Pos} {l : Nat} {env : PySem.Env} : swapsWithSole [.Tuple ts k p] x l env = pure false := by cases x <;> rfl
theorem ss_tp {x : Expr} {ts : List Expr} {k : Nat} {p : Pos} {env : PySem.Env} (h : isTupE x = false) : swappedStores [.Tuple ts k p] x env = pure none := by cases x <;> first | rfl | exact nof h.symm
theorem not_t {b : Bool} (h : (!b) = true) : b = false := by simpa using h
theorem no_kp {i : Nat} (h : (!kp.contains i) = true) : i ∉ kp := by simpa using h
theorem parN_ok {ln i : Nat} {x : Str} {p : Pos} (h : parN c kp ln i x p = true) : c.N[i]? = some x ∧ c.sc.names.lookup x = some .local ∧ p.line = ln ∧ i ∉ kp := by
  simp only [parN, Bool.and_eq_true, beq_iff_eq] at h
  exact ⟨h.1.1.1, h.1.1.2, h.1.2, no_kp h.2⟩
theorem noStar {a : Expr} (h : (!starB a) = true) : ∀ e p, a ≠ .Starred e p := by
  rintro e p rfl; exact nof h
theorem st_ok (ok : XOk X tb cf c) (hp : PassesOwn (model X.prog X.w) X.A X.env X.xe) (hk : X.env.scope.kind = .function) : ∀ (sm : Sm), (∀ (s : Stmt), notSeq sm = true → ckS tb c kp sm [s] = true → PS X s (tSI X.K cf kp sm)) ∧ ∀ (l : List Stmt), ckS tb c kp sm l = true → PSs X l (tSI X.K cf kp sm) := by
  have up : ∀ (sm : Sm), notSeq sm = true → sm ≠ .skip → (∀ s l t, ckS tb c kp sm (s :: t :: l) = false) → ckS tb c kp sm [] = false → (∀ (s : Stmt), ckS tb c kp sm [s] = true → PS X s (tSI X.K cf kp sm)) → (∀ (s : Stmt), notSeq sm = true → ckS tb c kp sm [s] = true → PS X s (tSI X.K cf kp sm)) ∧ ∀ (l : List Stmt), ckS tb c kp sm l = true → PSs X l (tSI X.K cf kp sm) := by
    intro sm hn hs h2 h0 h1
    refine ⟨fun s _ h => h1 s h, fun l h => ?_⟩
    rcases l with _ | ⟨s, _ | ⟨t, l⟩⟩
    · rw [h0] at h; cases h
    · exact pss_one (h1 s h)
    · rw [h2] at h; cases h
  intro sm
  induction sm with
  | skip =>
    refine ⟨fun s _ h => ?_, fun l h => ?_⟩
    · cases s <;> first | exact nof h | exact skip_ps
    · rcases l with _ | ⟨s, _ | ⟨t, l⟩⟩
      · exact skip_pss
      · cases s <;> first | exact nof h | exact pss_one skip_ps
      · cases s <;> exact nof h
  | seq a b iha ihb =>
    refine ⟨fun s h => nof h, fun l h => ?_⟩
    cases l with
    | nil => exact nof h
    | cons s r =>
      simp only [ckS, Bool.and_eq_true] at h
      exact seq_pss (iha.1 s h.1.1 h.1.2) (ihb.2 r h.2)
  | expr e =>
    refine up _ rfl (by simp) (fun s l t => ?_) rfl fun s h => ?_
    · cases s <;> rfl
    · cases s <;> first | exact nof h | skip
      simp only [ckS, Bool.and_eq_true] at h
      exact expr_ps ((ok_all e).pe X c _ ok h.1) (sw_none h.2)
  | asg t e =>
    cases t with
    | nm i =>
      refine up _ rfl (by simp) (fun s l t => ?_) rfl fun s h => ?_
      · cases s <;> first | rfl | simp [ckS]
      · cases s <;> first | exact nof h | skip
        rename_i ts x p
        rcases ts with _ | ⟨t1, _ | ⟨t2, ts⟩⟩ <;> first | exact nof h | (cases t1 <;> exact nof h) | skip
        cases t1 <;> first | exact nof h | skip
        simp only [ckS, Bool.and_eq_true, Bool.or_eq_true] at h
        obtain ⟨⟨⟨h1, h2⟩, h3⟩, h4⟩ := h
        obtain ⟨a1, a2, a3⟩ := tgt_loc ok h1
        rcases h4 with h4 | h4
        · exact asg_gen (ps_set ok.nd a1 a2 ((ok_all e).pe X c _ ok h3) (sw_nm h4) a3) (fun σ H Q q => q) (no_kp h2)
        · cases x <;> first | exact nof h4 | skip
          simp only [asgB, Bool.and_eq_true, beq_iff_eq, Bool.not_eq_true'] at h4
          obtain ⟨te, b1, b2⟩ := lc_set ok (by rw [← ok.hN]; exact a1) h4.1.1 (sw_true hk (by rw [ok.hsc]; exact h4.1.1) (by simpa using h4.1.2) h4.2) e h3
          exact asg_gen b1 b2 (no_kp h2)
    | tp is =>
      refine up _ rfl (by simp) (fun s l t => ?_) rfl fun s h => ?_
      · cases s <;> first | rfl | simp [ckS]
      · cases s <;> first | exact nof h | skip
        rename_i ts x p
        rcases ts with _ | ⟨t1, _ | ⟨t2, ts⟩⟩ <;> first | exact nof h | (cases t1 <;> exact nof h) | skip
        cases t1 <;> first | exact nof h | skip
        simp only [ckS, Bool.and_eq_true, Bool.or_eq_true, Bool.not_eq_true'] at h
        obtain ⟨⟨⟨⟨h1, h2⟩, h3⟩, h4⟩, h5⟩ := h
        refine asg_tp ok ((ok_all e).pe X c _ ok h3) h1 (fun i m => no_kp (by simpa using List.all_eq_true.mp h2 i m)) sw_tp ?_ rfl
        rcases h5 with h5 | h5
        · exact ss_tp h5
        · cases x <;> first | exact nof h5 | exact ss_fold h5
  | par is e =>
    rcases is with _ | ⟨i, _ | ⟨j, _ | ⟨l, _ | ⟨m, is⟩⟩⟩⟩
    · exact ⟨fun s _ h => nof h, fun l h => nof h⟩
    · exact ⟨fun s _ h => nof h, fun l h => nof h⟩
    · refine up _ rfl (by simp) (fun s l t => ?_) rfl fun s h => ?_
      · cases s <;> first | rfl | simp [ckS]
      · cases s <;> first | exact nof h | skip
        rename_i ts x p
        rcases ts with _ | ⟨t1, _ | ⟨t2, ts⟩⟩ <;> first | exact nof h | (simp [ckS] at h; done) | skip
        cases t1 <;> first | exact nof h | (simp [ckS] at h; done) | skip
        rename_i es k q
        cases x <;> first | exact nof h | (simp [ckS] at h; done) | skip
        rename_i vs k2 q2
        rcases es with _ | ⟨e1, _ | ⟨e2, _ | ⟨e3, es⟩⟩⟩ <;> first | exact nof h | (simp [ckS] at h; done) | skip
        rcases vs with _ | ⟨v1, _ | ⟨v2, _ | ⟨v3, vs⟩⟩⟩ <;> first | exact nof h | (simp [ckS] at h; done) | skip
        cases e1 <;> first | exact nof h | (simp [ckS] at h; done) | skip
        cases e2 <;> first | exact nof h | (simp [ckS] at h; done) | skip
        simp only [ckS, Bool.and_eq_true] at h
        obtain ⟨⟨⟨⟨⟨⟨⟨⟨h1, h2⟩, h3⟩, h4⟩, h5⟩, h6⟩, h7⟩, h8⟩, h9⟩ := h
        obtain ⟨a1, a2, a3, a4⟩ := parN_ok h1
        obtain ⟨b1, b2, b3, b4⟩ := parN_ok h2
        exact par2_ps ok a1 b1 (by simpa using h4) a2 b2 (PAK.pa' (ok_all e) ok h5) a4 b4 (sw2 hk (by rw [ok.hsc]; exact a2) (by rw [ok.hsc]; exact b2) b3 (by simpa using h3) (noStar h8) (noStar h9) (not_t h6) (not_t h7))
    · refine up _ rfl (by simp) (fun s l t => ?_) rfl fun s h => ?_
      · cases s <;> first | rfl | simp [ckS]
      · cases s <;> first | exact nof h | skip
        rename_i ts x p
        rcases ts with _ | ⟨t1, _ | ⟨t2, ts⟩⟩ <;> first | exact nof h | (simp [ckS] at h; done) | skip
        cases t1 <;> first | exact nof h | (simp [ckS] at h; done) | skip
        rename_i es k q
        cases x <;> first | exact nof h | (simp [ckS] at h; done) | skip
        rename_i vs k2 q2
        rcases es with _ | ⟨e1, _ | ⟨e2, _ | ⟨e3, _ | ⟨e4, es⟩⟩⟩⟩ <;> first | exact nof h | (simp [ckS] at h; done) | skip
        rcases vs with _ | ⟨v1, _ | ⟨v2, _ | ⟨v3, _ | ⟨v4, vs⟩⟩⟩⟩ <;> first | exact nof h | (simp [ckS] at h; done) | skip
        cases e1 <;> first | exact nof h | (simp [ckS] at h; done) | skip
        cases e2 <;> first | exact nof h | (simp [ckS] at h; done) | skip
        cases e3 <;> first | exact nof h | (simp [ckS] at h; done) | skip
        simp only [ckS, Bool.and_eq_true] at h
        obtain ⟨⟨⟨⟨⟨⟨⟨⟨⟨⟨⟨⟨⟨⟨h1, h2⟩, h3⟩, h4⟩, h5⟩, h6⟩, h7⟩, h8⟩, h9⟩, h10⟩, h11⟩, h12⟩, h13⟩, h14⟩, h15⟩ := h
        obtain ⟨a1, a2, a3, a4⟩ := parN_ok h1
        obtain ⟨b1, b2, b3, b4⟩ := parN_ok h2
        obtain ⟨c1, c2, c3, c4⟩ := parN_ok h3
        exact par3_ps ok a1 b1 c1 (by simpa using h7) (by simpa using h8) (by simpa using h9) a2 b2 c2 (PAK.pa' (ok_all e) ok h10) a4 b4 c4 (sw3 hk (by rw [ok.hsc]; exact a2) (by rw [ok.hsc]; exact b2) (by rw [ok.hsc]; exact c2) b3 c3 (by simpa using h4) (by simpa using h5) (by simpa using h6) (noStar h13) (noStar h14) (noStar h15) (not_t h11) (not_t h12))
    · exact ⟨fun s _ h => nof h, fun l h => nof h⟩
  | aug i o e =>
    refine up _ rfl (by simp) (fun s l t => ?_) rfl fun s h => ?_
    · cases s <;> first | rfl | simp [ckS]
    · cases s <;> first | exact nof h | skip
      rename_i tg o' xe p
      cases tg <;> first | exact nof h | skip
      simp only [ckS, Bool.and_eq_true, beq_iff_eq] at h
      obtain ⟨⟨⟨rfl, h1⟩, h2⟩, h3⟩ := h
      exact aug_ps ok h1 (no_kp h2) ((ok_all e).pe X c _ ok h3)
  | setix i k e =>
    refine up _ rfl (by simp) (fun s l t => ?_) rfl fun s h => ?_
    · cases s <;> first | rfl | simp [ckS]
    · cases s <;> first | exact nof h | skip
      rename_i ts x p
      rcases ts with _ | ⟨t1, _ | ⟨t2, ts⟩⟩ <;> first | exact nof h | (cases t1 <;> exact nof h) | (simp [ckS] at h; done) | skip
      cases t1 <;> first | exact nof h | skip
      rename_i o k' ps
      cases o <;> first | exact nof h | skip
      simp only [ckS, Bool.and_eq_true] at h
      obtain ⟨⟨⟨h1, h2⟩, h3⟩, h4⟩ := h
      exact setix_ps ok h1 ((ok_all k).pe X c _ ok h2) h3 ((ok_all e).pe X c _ ok h4)
  | mkins cn fs => exact ⟨fun s _ h => nof h, fun l h => nof h⟩
  | augix i k o e =>
    refine up _ rfl (by simp) (fun s l t => ?_) rfl fun s h => ?_
    · cases s <;> first | rfl | simp [ckS]
    · cases s <;> first | exact nof h | skip
      rename_i t o' xe p
      cases t <;> first | exact nof h | skip
      rename_i o2 k' ps
      cases o2 <;> first | exact nof h | skip
      simp only [ckS, Bool.and_eq_true, beq_iff_eq] at h
      obtain ⟨⟨⟨⟨rfl, h1⟩, h2⟩, h3⟩, h4⟩ := h
      exact augix_ps ok h1 ((ok_all k).pe X c _ ok h2) h3 ((ok_all e).pe X c _ ok h4)
  | ret e =>
    refine up _ rfl (by simp) (fun s l t => ?_) rfl fun s h => ?_
    · cases s <;> first | rfl | simp [ckS]
    · cases s <;> first | exact nof h | skip
      rename_i v p
      cases v <;> first | exact nof h | exact ret_ps ((ok_all e).pe X c _ ok h)
  | retn =>
    refine up _ rfl (by simp) (fun s l t => ?_) rfl fun s h => ?_
    · cases s <;> first | rfl | simp [ckS]
    · cases s <;> first | exact nof h | skip
      rename_i v p
      cases v <;> first | exact nof h | exact retn_ps
  | ifs t a b iha ihb =>
    refine up _ rfl (by simp) (fun s l t => ?_) rfl fun s h => ?_
    · cases s <;> first | rfl | simp [ckS]
    · cases s <;> first | exact nof h | skip
      simp only [ckS, Bool.and_eq_true] at h
      exact ifs_ps ((ok_all t).pt X c _ ok h.1.1) (doc_drop (iha.2 _ h.1.2)) (doc_drop (ihb.2 _ h.2))
  | whl t b ihb =>
    refine up _ rfl (by simp) (fun s l t => ?_) rfl fun s h => ?_
    · cases s <;> first | rfl | simp [ckS]
    · cases s <;> first | exact nof h | skip
      rename_i x body els p
      cases els <;> first | exact nof h | skip
      simp only [ckS, Bool.and_eq_true] at h
      exact whl_ps hp ((ok_all t).pt X c _ ok h.1) (doc_drop (ihb.2 _ h.2))
  | fors hide t it b ihb =>
    cases hide with
    | some i => exact ⟨fun s _ h => nof h, fun l h => nof h⟩
    | none =>
      refine up _ rfl (by simp) (fun s l t => ?_) rfl fun s h => ?_
      · cases s <;> first | rfl | simp [ckS]
      · cases s <;> first | exact nof h | skip
        rename_i xt xi body els p
        cases els <;> first | exact nof h | skip
        simp only [ckS, Bool.and_eq_true] at h
        obtain ⟨⟨⟨h1, h2⟩, h3⟩, h4⟩ := h
        exact fors_ps ok hp ((ok_all it).pi X c _ _ ok h1) h2 (fun i m => no_kp (by simpa using List.all_eq_true.mp h3 i m)) (doc_drop (ihb.2 _ h4)) (fun v => set_no (fun a k p e => by
          subst e
          cases it <;> first | exact nof h1 | (simp only [ckI, Bool.and_false, Bool.false_eq_true] at h1)) v)
  | brk =>
    refine up _ rfl (by simp) (fun s l t => ?_) rfl fun s h => ?_
    · cases s <;> rfl
    · cases s <;> first | exact nof h | exact brk_ps
  | cnt =>
    refine up _ rfl (by simp) (fun s l t => ?_) rfl fun s h => ?_
    · cases s <;> rfl
    · cases s <;> first | exact nof h | exact cnt_ps
  | never => exact up _ rfl (by simp) (fun s l t => rfl) rfl fun s h => never_ps
end
end Pi
/-! Pi22c: the body of an __init__ that checks its parameters and then stores them -/
namespace Pi
open PySem L2
def ckF (c : CkC) : List (Str × Nat) → List Stmt → Bool
  | [], [] => true
  | (f, j) :: r, .Assign [.Attribute (.Name s _) f' _] (.Name p _) _ :: l => (f == f') && ckVar c 0 s && ckVar c j p && ckF c r l
  | _, _ => false
/-- no return within -/
def noRet : Sm → Bool
  | .skip => true
  | .never => true
  | .asg _ _ => true
  | .expr _ => true
  | .seq a b => noRet a && noRet b
  | .ifs _ a b => noRet a && noRet b
  | _ => false
def ckC (tb : Tb) (c : CkC) : Sm → List Stmt → Bool
  | .seq a b, s :: r => notSeq a && ckS tb c [0] a [s] && noRet a && ckC tb c b r
  | .mkins _ fs, l => ckF c fs l && decide ((fs.map (·.1)).Nodup) && decide (fs.length ≤ 100)
  | _, _ => false
/-- the class and the fields that a body makes -/
def mkOf : Sm → Str × List (Str × Nat)
  | .seq _ b => mkOf b
  | .mkins c fs => (c, fs)
  | _ => (Str.empty, [])
def valAt (σ : St) (j : Nat) : V := ((σ[j]?).getD none).getD .non
def asgV (σ : St) : List (Str × Nat) → List (Str × V) → List (Str × V)
  | [], vs => vs
  | (f, j) :: r, vs => asgV σ r (putF f (valAt σ j) vs)
theorem asgV_out {σ : St} {f : Str} : ∀ (fs : List (Str × Nat)) (vs : List (Str × V)), f ∉ fs.map (·.1) → (asgV σ fs vs).lookup f = vs.lookup f
  | [], vs, _ => rfl
  | (g, j) :: r, vs, h => by
    rw [asgV, asgV_out r _ fun m => h (by simp only [List.map_cons]; exact List.mem_cons_of_mem _ m), lookup_putF, if_neg fun e => h (by simp [e])]
theorem asgV_in {σ : St} {f : Str} {j : Nat} : ∀ (fs : List (Str × Nat)) (vs : List (Str × V)), (fs.map (·.1)).Nodup → (f, j) ∈ fs → (asgV σ fs vs).lookup f = some (valAt σ j)
  | [], vs, _, m => absurd m List.not_mem_nil
  | (g, i) :: r, vs, nd, m => by
    rw [List.map_cons, List.nodup_cons] at nd
    rw [asgV]
    rcases List.mem_cons.mp m with e | m
    · injection e with e1 e2
      subst e1 e2
      rw [asgV_out r _ nd.1, lookup_putF, if_pos rfl]
    · exact asgV_in r _ nd.2 m
theorem putF_len (f : Str) (v : V) : ∀ vs : List (Str × V), (putF f v vs).length ≤ vs.length + 1
  | [] => by simp [putF]
  | (g, x) :: r => by
    rw [putF]
    split
    · simp
    · have := putF_len f v r
      simp; omega
def tFl (K : PySem.W.Frag) (fs : List (Str × Nat)) : TS := fun D σ H => ∃ C x dx vs, σ[0]? = some (some (.ref x)) ∧ H x = some (.ins C dx vs) ∧ Cls K C ∧ vs.length + fs.length ≤ 500 ∧ (∀ f ∈ fs, NoAttr K C f.1 ∧ ∃ v, σ[f.2]? = some (some v)) ∧
  ∀ H', (∀ a, a ≠ x → H' a = H a) → H' x = some (.ins C dx (asgV σ fs vs)) → D.nx σ H'
section
variable {X : Cx} {tb : Tb} {cf : Cf} {c : CkC}
theorem flds_pss (ok : XOk X tb cf c) : ∀ (fs : List (Str × Nat)) (l : List Stmt), ckF c fs l = true → PSs X l (tFl X.K fs)
  | [], [], _ => pss_imp pss_nil fun D σ H _ ⟨C, x, dx, vs, h1, h2, _, _, _, k⟩ => k H (fun _ _ => rfl) h2
  | (f, j) :: r, s :: l, h => by
    have hs : ∃ sn ps pa f' p pp pos, s = .Assign [.Attribute (.Name sn ps) f' pa] (.Name p pp) pos ∧ (f == f' && ckVar c 0 sn && ckVar c j p && ckF c r l) = true := by
      unfold ckF at h
      split at h
      · rename_i h0; cases h0
      · rename_i e1 e2
        cases e1
        cases e2
        exact ⟨_, _, _, _, _, _, _, rfl, h⟩
      · cases h
    obtain ⟨sn, ps, pa, f', p, pp, pos, hs, h9⟩ := hs
    subst hs
    rw [Bool.and_eq_true, Bool.and_eq_true, Bool.and_eq_true] at h9
    obtain ⟨⟨⟨h0, h1⟩, h2⟩, h3⟩ := h9
    have h0 := beq_iff_eq.mp h0
    subst h0
    refine pss_imp (pss_cons (ps_fld (ckVar_ok ok h1) (ckVar_ok ok h2) rfl) (flds_pss ok r l h3)) fun D σ H _ ⟨C, x, dx, vs, g1, g2, g3, g4, g5, k⟩ => ?_
    obtain ⟨na, v, hv⟩ := g5 (f, j) (List.mem_cons_self ..)
    have hval : valAt σ j = v := by unfold valAt; rw [hv]; rfl
    have hl := putF_len f v vs
    rw [List.length_cons] at g4
    refine ⟨v, hv, .ref x, g1, x, C, dx, vs, rfl, g2, g3, na, by omega, ?_⟩
    refine ⟨C, x, dx, putF f v vs, g1, upd_same, g3, by omega, fun f m => g5 f (List.mem_cons_of_mem _ m), fun H' e1 e2 => k H' (fun a ha => ?_) ?_⟩
    · rw [e1 a ha, upd_ne ha]
    · rw [e2, asgV, hval]
  | [], _ :: _, h => by simp [ckF] at h
  | _ :: _, [], h => by simp [ckF] at h
/-- the body's promise: the instance x stands, its fields stored -/
def tSC (K : PySem.W.Frag) (cf : Cf) (sm : Sm) : TS := fun D σ H => ∃ ρ fp fz v ρ' x C dx, SL K H σ ρ fp fz ∧ Disj fp fz ∧ σ[0]? = some (some (.ref x)) ∧ H x = some (.ins C dx []) ∧ x ∉ fp ∧ x ∉ fz ∧ Cls K C ∧ PySem.W.nsIn K mainGlobals (mkOf sm).1 = some (some (.ref C)) ∧ (∀ f ∈ (mkOf sm).2, NoAttr K C f.1) ∧
  exec cf sm ρ = .ok (.rt v) ρ' ∧ ∀ σ' H', Rep K H' v.1 v.2 (.ref x) [] [x] → Stay (x :: fp) H H' → D.nx σ' H'
theorem flat_at {K : PySem.W.Frag} {H : Hp} {σ : St} {ρ : Env} {fp fz : List Addr} {j : Nat} {d : D} {n : Nat} (s : SL K H σ ρ fp fz) (h : gt ρ j = some (d, n)) (hf : flatD d = true) : ∃ v, σ[j]? = some (some v) ∧ FlatV d v := by
  obtain ⟨v, _, _, _, _, hσ, r, _⟩ := SL.take s h
  refine ⟨v, hσ, ?_⟩
  cases d <;> first | exact nof hf | (simp only [Rep] at r; exact r.1)
theorem flds_ok {K : PySem.W.Frag} {H : Hp} {σ : St} {ρ : Env} {fp fz : List Addr} (s : SL K H σ ρ fp fz) : ∀ (fs : List (Str × Nat)) (l : List (Str × D)), fldsOf fs ρ = some l → (∀ f ∈ fs, ∃ v, σ[f.2]? = some (some v)) ∧ ∀ f d, l.lookup f = some d → ∃ j, (f, j) ∈ fs ∧ FlatV d (valAt σ j)
  | [], l, h => by
    cases h
    exact ⟨fun f m => absurd m List.not_mem_nil, fun f d h => nomatch h⟩
  | (g, j) :: r, l, h => by
    simp only [fldsOf] at h
    split at h
    · rename_i d n l' hg hr
      split at h
      · rename_i hfl
        cases h
        obtain ⟨a, b⟩ := flds_ok s r l' hr
        obtain ⟨v, hv, hd⟩ := flat_at s hg hfl
        refine ⟨fun f m => (List.mem_cons.mp m).elim (fun e => e ▸ ⟨v, hv⟩) (a f), fun f d' h' => ?_⟩
        rw [List.lookup_cons] at h'
        split at h'
        · rename_i he
          cases h'
          have : f = g := by simpa using he
          subst this
          exact ⟨j, List.mem_cons_self .., by unfold valAt; rw [hv]; exact hd⟩
        · obtain ⟨i, hi, hf⟩ := b f d' h'
          exact ⟨i, List.mem_cons_of_mem _ hi, hf⟩
      · cases h
    · cases h
theorem noRet_ok {v : Sl} {ρ' : Env} : ∀ (a : Sm) (ρ : Env), noRet a = true → exec cf a ρ ≠ .ok (.rt v) ρ'
  | .skip, ρ, _ => by simp [exec]
  | .never, ρ, _ => by simp [exec]
  | .asg t e, ρ, _ => by
    intro h
    cases t with
    | nm i =>
      simp only [exec] at h
      obtain ⟨_, _, _, h2⟩ := bind_inv h
      cases h2
    | tp l =>
      simp only [exec] at h
      obtain ⟨_, _, _, h2⟩ := bind_inv h
      obtain ⟨_, _, _, h3⟩ := bind_inv h2
      cases h3
  | .expr e, ρ, _ => by
    intro h
    simp only [exec] at h
    obtain ⟨_, _, _, h2⟩ := bind_inv h
    cases h2
  | .seq a b, ρ, hn => by
    intro h
    simp only [noRet, Bool.and_eq_true] at hn
    simp only [exec] at h
    obtain ⟨fl, ρ1, h1, h2⟩ := bind_inv h
    cases fl with
    | nx => exact noRet_ok b ρ1 hn.2 h2
    | bk => cases h2
    | ct => cases h2
    | rt d => cases h2; exact noRet_ok a ρ hn.1 h1
  | .ifs c a b, ρ, hn => by
    intro h
    simp only [noRet, Bool.and_eq_true] at hn
    simp only [exec] at h
    obtain ⟨t, ρ1, h1, h2⟩ := bind_inv h
    split at h2
    · exact noRet_ok a ρ1 hn.1 h2
    · exact noRet_ok b ρ1 hn.2 h2
theorem cls_pss (ok : XOk X tb cf c) (hp : PassesOwn (model X.prog X.w) X.A X.env X.xe) (hk : X.env.scope.kind = .function) : ∀ (sm : Sm) (l : List Stmt), ckC tb c sm l = true → PSs X l (tSC X.K cf sm) := by
  intro sm
  induction sm with
  | seq a b iha ihb =>
    intro l h
    cases l with
    | nil => exact nof h
    | cons s r =>
      simp only [ckC, Bool.and_eq_true] at h
      obtain ⟨⟨⟨h1, h2⟩, h3⟩, h4⟩ := h
      refine pss_imp (pss_cons ((st_ok ok hp hk a).1 s h1 h2) (ihb r h4)) fun D σ H _ ⟨ρ, fp, fz, v, ρ', x, C, dx, s, dj, hσ, hx, n1, n2, hc, hn, hna, e, k⟩ => ?_
      simp only [exec] at e
      obtain ⟨f1, ρ1, e1, e2⟩ := bind_inv e
      refine ⟨ρ, fp, fz, f1, ρ1, s, dj, e1, ?_⟩
      cases f1 with
      | nx =>
        intro σ' H' f z s' d' x' kp
        have hxw : x ∉ wset false fp := fun m => n1 (wset_sub x m)
        have hx' : H' x = some (.ins C dx []) := x'.stay x _ hx fun m => absurd m hxw
        have m1 : x ∉ f := fun m => (x'.fpx x m).elim n1 fun h => by rw [hx] at h; cases h
        have m2 : x ∉ z := fun m => (x'.fzx x m).elim n1 fun h => h.elim n2 fun h => by rw [hx] at h; cases h
        refine ⟨ρ1, f, z, v, ρ', x, C, dx, s', d', (kp 0 (by simp)).trans hσ, hx', m1, m2, hc, hn, hna, e2, fun σ2 H2 r2 st => k σ2 H2 r2 fun a o ha hm => ?_⟩
        have h0 : H' a = some o := x'.stay a o ha fun m => hm (List.mem_cons_of_mem _ (wset_sub a m))
        refine st a o h0 fun m => ?_
        rcases List.mem_cons.mp m with e | m
        · exact hm (by rw [e]; exact List.mem_cons_self ..)
        · rcases x'.fpx a m with m | h
          · exact hm (List.mem_cons_of_mem _ m)
          · rw [ha] at h; cases h
      | bk => cases e2
      | ct => cases e2
      | rt d => exact absurd e1 (noRet_ok a ρ h3)
  | mkins cn fs =>
    intro l h
    simp only [ckC, Bool.and_eq_true, decide_eq_true_eq] at h
    obtain ⟨⟨h1, h2⟩, h3⟩ := h
    refine pss_imp (flds_pss ok fs l h1) fun D σ H _ ⟨ρ, fp, fz, v, ρ', x, C, dx, s, dj, hσ, hx, n1, n2, hc, hn, hna, e, k⟩ => ?_
    simp only [exec] at e
    split at e
    · rename_i ld hl
      cases e
      obtain ⟨g1, g2⟩ := flds_ok s fs ld hl
      refine ⟨C, x, dx, [], hσ, hx, hc, by simp; omega, fun f m => ⟨hna f m, g1 f m⟩, fun H' e1 e2 => k σ H' ?_ fun a o ha hm => ?_⟩
      · simp only [Rep]
        refine ⟨x, C, dx, _, rfl, trivial, rfl, e2, ⟨hn, hc, fun f d hf => ?_⟩⟩
        obtain ⟨j, hj, hd⟩ := g2 f d hf
        exact ⟨hna (f, j) hj, _, asgV_in fs [] h2 hj, hd⟩
      · by_cases hax : a = x
        · subst hax
          rw [hx] at ha
          cases ha
          exact absurd trivial (hm (List.mem_cons_self ..))
        · rw [e1 a hax]; exact ha
    · cases e
  | _ => intro l h; exact nof h
theorem doc_dropC {l : List Stmt} {a : Sm} (h : PSs X (dropDoc l) (tSC X.K cf a)) : PSs X l (tSC X.K cf a) := by
  unfold dropDoc at h
  split at h
  · exact pss_imp (pss_cons ps_doc h) fun D σ H _ h => h
  · exact h
end
end Pi
/-! Pi23: a def's promise; all defs by levels. -/
namespace Pi
open PySem L2
section
variable {K : PySem.W.Frag} {H : Hp}
theorem SL.pad : ∀ {σ : St} {ρ : Env} {f z : List Addr} (n : Nat), SL K H σ ρ f z → SL K H (σ ++ List.replicate n none) (ρ ++ List.replicate n none) f z
  | [], [], f, z, 0, s => s
  | [], [], f, z, n + 1, s => SL.pad (σ := []) (ρ := []) n s
  | _ :: σ, none :: ρ, f, z, n, s => SL.pad (σ := σ) (ρ := ρ) n s
  | x :: σ, some (d, k) :: ρ, f, z, n, s => by
    obtain ⟨v, f1, f2, z1, z2, e, e1, e2, r, s⟩ := s
    exact ⟨v, f1, f2, z1, z2, e, e1, e2, r, SL.pad (σ := σ) (ρ := ρ) n s⟩
  | [], _ :: _, _, _, _, s => s.elim
  | _ :: _, [], _, _, _, s => s.elim
theorem SL.cut : ∀ {σ : St} {ρ : Env} {f z : List Addr} (n : Nat), SL K H σ ρ f z → (∀ i, n ≤ i → gt ρ i = none) → SL K H (σ.take n) (ρ.take n) f z
  | [], [], f, z, n, s, _ => by simpa using s
  | _ :: σ, none :: ρ, f, z, 0, s, h => by
    have : SL K H (σ.take 0) (ρ.take 0) f z := SL.cut (σ := σ) (ρ := ρ) 0 s fun i _ => by simpa [gt] using h (i + 1) (by omega)
    simpa using this
  | _ :: σ, none :: ρ, f, z, n + 1, s, h => SL.cut (σ := σ) (ρ := ρ) n s fun i hi => by simpa [gt] using h (i + 1) (by omega)
  | x :: σ, some (d, k) :: ρ, f, z, 0, s, h => by
    have := h 0 (by omega)
    simp [gt] at this
  | x :: σ, some (d, k) :: ρ, f, z, n + 1, s, h => by
    obtain ⟨v, f1, f2, z1, z2, e, e1, e2, r, s⟩ := s
    exact ⟨v, f1, f2, z1, z2, e, e1, e2, r, SL.cut (σ := σ) (ρ := ρ) n s fun i hi => by simpa [gt] using h (i + 1) (by omega)⟩
  | [], _ :: _, _, _, _, s, _ => s.elim
  | _ :: _, [], _, _, _, s, _ => s.elim
theorem SL.dropAll {σ : St} {ρ : Env} {f z : List Addr} (s : SL K H σ ρ f z) : ∀ (vs : List Nat), ∃ f' z', SL K H σ (wp ρ vs) f' z' ∧ Less f z f' z'
  | [] => ⟨f, z, s, .refl _ _⟩
  | v :: vs => by
    obtain ⟨f1, z1, s1, l1⟩ := SL.dropAll s vs
    obtain ⟨f2, z2, s2, l2⟩ := SL.drop v s1
    exact ⟨f2, z2, s2, l1.trans l2⟩
theorem gt_wp_out (ρ : Env) : ∀ (vs : List Nat) (v : Nat), v ∉ vs → gt (wp ρ vs) v = gt ρ v
  | [], v, _ => rfl
  | w :: vs, v, h => by
    simp only [wp]
    rw [gt_st_ne _ _ _ _ (fun e => h (by rw [e]; exact List.mem_cons_self))]
    exact gt_wp_out ρ vs v fun m => h (List.mem_cons_of_mem _ m)
theorem wp_len (ρ : Env) : ∀ vs : List Nat, (wp ρ vs).length = ρ.length
  | [] => rfl
  | v :: vs => by simp only [wp]; rw [st_len, wp_len ρ vs]
theorem outs_ok {df : Df} {vs : List V} {σ : St} {ρ : Env} {f z : List Addr} (s : SL K H σ ρ f z) (hv : vs.length = df.np) (hn : df.np ≤ ρ.length) (hk : ∀ i ∈ df.io, i < df.np → σ[i]? = (vs.map some)[i]?) :
    ∃ f' z', SL K H (vs.map some) (outsOf df ρ) f' z' ∧ Less f z f' z' := by
  obtain ⟨f1, z1, s1, l1⟩ := SL.dropAll s ((List.range ρ.length).filter fun i => !(df.io.contains i && decide (i < df.np)))
  have g1 : ∀ i, gt (wp ρ ((List.range ρ.length).filter fun i => !(df.io.contains i && decide (i < df.np)))) i = if i ∈ df.io ∧ i < df.np then gt ρ i else none := by
    intro i
    by_cases hi : i ∈ df.io ∧ i < df.np
    · rw [if_pos hi]
      exact gt_wp_out _ _ _ (by simp [hi.1, hi.2])
    · rw [if_neg hi]
      by_cases hl : i < ρ.length
      · refine gt_wp _ _ _ ?_
        simp only [List.mem_filter, List.mem_range, hl, true_and, Bool.not_eq_true', Bool.and_eq_false_iff]
        by_cases h1 : i ∈ df.io
        · exact .inr (by simpa using fun h => hi ⟨h1, h⟩)
        · exact .inl (by simpa using h1)
      · rw [gt_get, List.getElem?_eq_none (by rw [wp_len]; omega)]; rfl
  have s2 := SL.cut df.np s1 fun i hi => by rw [g1, if_neg (by omega)]
  have e1 : (wp ρ ((List.range ρ.length).filter fun i => !(df.io.contains i && decide (i < df.np)))).take df.np = outsOf df ρ := by
    apply List.ext_getElem?
    intro i
    rw [List.getElem?_take]
    unfold outsOf
    rw [List.getElem?_map]
    by_cases hi : i < df.np
    · rw [if_pos hi, List.getElem?_range hi]
      have hl : i < (wp ρ ((List.range ρ.length).filter fun i => !(df.io.contains i && decide (i < df.np)))).length := by rw [wp_len]; omega
      have h := g1 i
      rw [gt_get, List.getElem?_eq_getElem hl] at h
      rw [List.getElem?_eq_getElem hl]
      simp only [Option.getD_some] at h
      rw [h]
      by_cases h1 : i ∈ df.io
      · simp [h1, hi]
      · simp [h1]
    · rw [if_neg hi, List.getElem?_eq_none (by simpa using hi)]; rfl
  rw [e1] at s2
  have hσl : σ.length = ρ.length := SL.len s
  refine ⟨f1, z1, SL.cong s2 (by simp [hv]; omega) fun i hi => ?_, l1⟩
  have hio : i ∈ df.io ∧ i < df.np := by
    rw [← e1, gt_get, List.getElem?_take] at hi
    split at hi
    · rename_i hlt
      have := g1 i
      rw [gt_get] at this
      rw [this] at hi
      split at hi
      · assumption
      · exact absurd rfl hi
    · exact absurd rfl hi
  rw [List.getElem?_take, if_pos hio.2]
  exact (hk i hio.1 hio.2).symm
end
theorem gt_pad : ∀ (ρ : Env) (n i : Nat), gt (ρ ++ List.replicate n none) i = gt ρ i
  | [], n, i => by
    rw [gt_get]
    simp only [List.nil_append, gt, List.getElem?_replicate]
    split <;> rfl
  | _ :: _, _, 0 => rfl
  | _ :: ρ, n, i + 1 => gt_pad ρ n i
theorem outs_ok2 {K : PySem.W.Frag} {H : Hp} {df : Df} {vs : List V} {σ : St} {ρ : Env} {f z : List Addr} (s : SL K H σ ρ f z) (hv : vs.length = df.np) (hk : ∀ i ∈ df.io, i < df.np → σ[i]? = (vs.map some)[i]?) :
    ∃ f' z', SL K H (vs.map some) (outsOf df ρ) f' z' ∧ Less f z f' z' := by
  have e : outsOf df ρ = outsOf df (ρ ++ List.replicate df.np none) := by
    unfold outsOf
    simp only [gt_pad]
  rw [e]
  refine outs_ok (SL.pad df.np s) hv (by simp) fun i m hi => ?_
  have h := hk i m hi
  have hl : i < σ.length := by
    have h2 : (vs.map some)[i]? = some (some (vs[i]'(by omega))) := by simp [hv, hi]
    rw [h2] at h
    exact (List.getElem?_eq_some_iff.mp h).1
  rw [List.getElem?_append_left hl]
  exact h
/-! ### a def -/
/-- what is told of a def of the text -/
structure Ent where
  nm : Str
  df : Df
  N : List Str
  ps : List Str
  st : Stmt
def noFree (sc : Scope) : Bool := sc.names.all fun y => match y.2 with
  | .free => false
  | _ => true
def entOk (tb : Tb) (e : Ent) : Bool :=
  ckS tb ⟨e.N, defScope e.st, fun _ => true⟩ e.df.io e.df.body (dropDoc (defBody e.st)) && !isMk e.df.body && decide (e.N.length = e.df.nl) && decide (e.ps.length = e.df.np) && decide (e.N.Nodup) && decide (e.N.take e.ps.length = e.ps) &&
  (e.ps.all fun x => (defScope e.st).names.lookup x == some .local || (defScope e.st).names.lookup x == some .cell) && noFree (defScope e.st) &&
  (match (defScope e.st).kind with | .function => true | _ => false) && !(defScope e.st).isCoroutine && !(defScope e.st).isGenerator
theorem ent_mk {tb : Tb} {e : Ent} (h : entOk tb e = true) : isMk e.df.body = false := by
  unfold entOk at h
  simp only [Bool.and_eq_true, Bool.not_eq_true'] at h
  exact h.1.1.1.1.1.1.1.1.1.2
theorem ent_scope {tb : Tb} {e : Ent} (h : entOk tb e = true) : FnScope e.N e.ps (defScope e.st) ∧ ckS tb ⟨e.N, defScope e.st, fun _ => true⟩ e.df.io e.df.body (dropDoc (defBody e.st)) = true ∧ e.N.length = e.df.nl ∧ e.ps.length = e.df.np := by
  unfold entOk at h
  simp only [Bool.and_eq_true, decide_eq_true_eq, Bool.not_eq_true', List.all_eq_true, Bool.or_eq_true, beq_iff_eq] at h
  obtain ⟨⟨⟨⟨⟨⟨⟨⟨⟨⟨h1, _⟩, h2⟩, h3⟩, h4⟩, h5⟩, h6⟩, h7⟩, h8⟩, h9⟩, h10⟩ := h
  refine ⟨⟨?_, h9, h10, h4, h5, h6, fun y m hy => ?_⟩, h1, h2, h3⟩
  · split at h8
    · assumption
    · cases h8
  · have := List.all_eq_true.mp (show (defScope e.st).names.all _ = true from h7) y m
    rw [hy] at this
    cases this
/-- an __init__ (nm: the class; ps with self) -/
def centOk (tb : Tb) (e : Ent) : Bool :=
  ckC tb ⟨e.N, defScope e.st, fun _ => true⟩ e.df.body (dropDoc (defBody e.st)) && isMk e.df.body && ((mkOf e.df.body).1 == e.nm) && decide (e.N.length = e.df.nl) && decide (e.ps.length = e.df.np + 1) && decide (e.N.Nodup) && decide (e.N.take e.ps.length = e.ps) &&
  (e.ps.all fun x => (defScope e.st).names.lookup x == some .local || (defScope e.st).names.lookup x == some .cell) && noFree (defScope e.st) &&
  (match (defScope e.st).kind with | .function => true | _ => false) && !(defScope e.st).isCoroutine && !(defScope e.st).isGenerator
theorem cent_scope {tb : Tb} {e : Ent} (h : centOk tb e = true) : FnScope e.N e.ps (defScope e.st) ∧ ckC tb ⟨e.N, defScope e.st, fun _ => true⟩ e.df.body (dropDoc (defBody e.st)) = true ∧ e.N.length = e.df.nl ∧ e.ps.length = e.df.np + 1 ∧ isMk e.df.body = true ∧ (mkOf e.df.body).1 = e.nm := by
  unfold centOk at h
  simp only [Bool.and_eq_true, decide_eq_true_eq, Bool.not_eq_true', List.all_eq_true, Bool.or_eq_true, beq_iff_eq] at h
  obtain ⟨⟨⟨⟨⟨⟨⟨⟨⟨⟨⟨h1, hm⟩, hn⟩, h2⟩, h3⟩, h4⟩, h5⟩, h6⟩, h7⟩, h8⟩, h9⟩, h10⟩ := h
  refine ⟨⟨?_, h9, h10, h4, h5, h6, fun y m hy => ?_⟩, h1, h2, h3, hm, hn⟩
  · split at h8
    · assumption
    · cases h8
  · have := List.all_eq_true.mp (show (defScope e.st).names.all _ = true from h7) y m
    rw [hy] at this
    cases this
section
variable {P : Program} {w : World} {K : PySem.W.Frag} {mg : Str → Option Value} {base : Heap}
/-- what the module's names are -/
structure Mg (P : Program) (w : World) (K : PySem.W.Frag) (mg : Str → Option Value) (tb : Tb) (con : List D) (es cs : List Ent) : Prop where
  blt : ∀ x ∈ tb.blts, mg x = none
  con : ∀ (j : Nat) (x : Str), tb.cons[j]? = some x → ∃ v u d, mg x = some u ∧ RelV v u ∧ con[j]? = some d ∧ ∀ H, Rep K H d 0 v [] []
  fns : ∀ e ∈ es, ∃ (f : Addr) (fd : FuncData), Fun K e.nm e.nm e.st f fd ∧ mg e.nm = some (.ref f) ∧
    ∀ sh ∈ tb.shapes, sh.f = e.nm → ∀ (s : Shared) (us ws : List Value), K.In s.heap → us.length = sh.npos → ws.length = sh.ks.length → BindsTo s fd ⟨us, sh.ks.zip ws⟩ (e.ps.zip (selL (us ++ ws) sh.sel))
  cls : ∀ e ∈ cs, ∃ (q : Str) (C f : Addr) (fd : FuncData), Fun K "__init__" q e.st f fd ∧ Mk K C f ∧ mg e.nm = some (.ref C) ∧ PySem.W.nsIn K mainGlobals e.nm = some (some (.ref C)) ∧ Cls K C ∧ (∀ fl ∈ (mkOf e.df.body).2, NoAttr K C fl.1) ∧
    ∀ sh ∈ tb.shapes, sh.f = e.nm → sh.ks = [] ∧ ∀ (s : Shared) (self : Value) (us : List Value), K.In s.heap → us.length = sh.npos → BindsTo s fd ⟨self :: us, []⟩ (e.ps.zip (self :: selL us sh.sel))
  all : ∀ sh ∈ tb.shapes, (∃ e ∈ es, e.nm = sh.f) ∨ ∃ e ∈ cs, e.nm = sh.f
/-- what holds of a def up to a level -/
def UpTo (P : Program) (w : World) (K : PySem.W.Frag) (mg : Str → Option Value) (base : Heap) (tb : Tb) (con : List D) (defs : List (Str × Df)) (fuel : Nat) (es : List Ent) (k : Nat) : Prop :=
  ∀ e ∈ es, ∀ (f : Addr) (fd : FuncData), Fun K e.nm e.nm e.st f fd → FnG P w K mg base k f fd e.ps (spD K (callN defs con fuel k e.nm))
/-- what holds of an __init__ up to a level -/
def UpC (P : Program) (w : World) (K : PySem.W.Frag) (mg : Str → Option Value) (base : Heap) (defs : List (Str × Df)) (con : List D) (fuel : Nat) (cs : List Ent) (k : Nat) : Prop :=
  ∀ k', k = k' + 2 → ∀ e ∈ cs, ∀ (q : Str) (C f : Addr) (fd : FuncData), Fun K "__init__" q e.st f fd → Cls K C → PySem.W.nsIn K mainGlobals e.nm = some (some (.ref C)) → (∀ fl ∈ (mkOf e.df.body).2, NoAttr K C fl.1) → FnG P w K mg base (k' + 1) f fd e.ps (spI K C (callN defs con fuel (k' + 2) e.nm))
theorem cl_call {defs : List (Str × Df)} {con : List D} {fuel k : Nat} {f : Str} {df : Df} (h : defs.lookup f = some df) (hm : isMk df.body = true) : callN defs con fuel (k + 2) f = runCl ⟨callN defs con fuel k, con, fuel⟩ df := by
  funext args
  simp only [callN, h, hm, if_true]
theorem cl_two {defs : List (Str × Df)} {con : List D} {fuel k : Nat} {f : Str} {df : Df} {args : List Sl} {r : Sl} {outs : List (Option Sl)} (h : defs.lookup f = some df) (hm : isMk df.body = true) (hc : callN defs con fuel k f args = .ok r outs) : (∃ k', k = k' + 2) ∧ outs = List.replicate args.length none := by
  match k with
  | 0 => cases hc
  | 1 => simp [callN, h, hm] at hc
  | k' + 2 =>
    refine ⟨⟨k', rfl⟩, ?_⟩
    rw [cl_call h hm] at hc
    unfold runCl at hc
    split at hc
    · rename_i hl
      split at hc
      · cases hc; rw [hl]
      · cases hc
    · cases hc
theorem xok_def {tb : Tb} {con : List D} {defs : List (Str × Df)} {fuel k : Nat} {es cs : List Ent} {N ps : List Str} {nm : Str} {sc : Scope} {f : Addr} {cdv : Value} {A : Around} {outer : List PySem.Env} {s : Shared} {H : Hp} {E : XK} (hM : Mg P w K mg tb con es cs) (hC : ∀ e ∈ cs, centOk tb e = true ∧ defs.lookup e.nm = some e.df) (U : UpTo P w K mg base tb con defs fuel es k) (UC : UpC P w K mg base defs con fuel cs k) (S : FnScope N ps sc)
    (hr : Room k (A.deeper (PyProof.Rows.envOfC nm sc s.heap.objs.size f cdv))) (hg : A.guards = some []) : XOk (cxOf CX0 P w K mg base N nm sc f cdv A outer s H E) tb ⟨callN defs con fuel k, con, fuel⟩ ⟨N, sc, fun _ => true⟩ where
  calm := rfl
  nd := S.nd
  hN := rfl
  hsc := rfl
  hfn := fun _ _ => rfl
  gd := hg
  hu := by have := hr.un; show (A.deeper _).units + 200 < cLine; omega
  hd := hr.hd
  blt := hM.blt
  con := hM.con
  calls := fun sh m => by
    rcases hM.all sh m with ⟨e', he', hn⟩ | ⟨e', he', hn⟩
    · obtain ⟨f', fd', F, hm, hb⟩ := hM.fns e' he'
      refine ⟨.inl ⟨f', fd', e'.ps, k, by rw [← hn]; exact hm, F.kp, hr, ?_, fun s us ws hK h1 h2 => hb sh m hn.symm s us ws hK h1 h2⟩⟩
      rw [← hn]
      exact U e' he' f' fd' F
    · obtain ⟨q, C, f', fd', F, M, hm, hin, hc, hna, hb⟩ := hM.cls e' he'
      obtain ⟨hok, hlk⟩ := hC e' he'
      obtain ⟨_, _, _, _, hmk, _⟩ := cent_scope hok
      obtain ⟨hks, hbb⟩ := hb sh m hn.symm
      refine ⟨.inr ⟨C, f', fd', e'.ps, by rw [← hn]; exact hm, M, hks, ?_, ?_, fun s self us hK h1 => hbb s self us hK h1⟩⟩
      · intro args r outs h
        rw [← hn] at h
        exact (cl_two hlk hmk h).2
      · intro args r outs h
        rw [← hn] at h ⊢
        obtain ⟨⟨k', rfl⟩, _⟩ := cl_two hlk hmk h
        exact ⟨k' + 1, hr, UC k' rfl e' he' q C f' fd' F hc hin hna⟩
theorem up_zero {tb : Tb} {con : List D} {defs : List (Str × Df)} {fuel : Nat} {es : List Ent} : UpTo P w K mg base tb con defs fuel es 0 := fun e he f fd F =>
  ⟨fun vs H Q E ⟨args, fp, fz, r, outs, _, _, h, _⟩ => (by cases h), fun A outer s H args us vs Q E _ _ _ _ _ ⟨args', fp, fz, r, outs, _, _, h, _⟩ => (by cases h)⟩
theorem spD_len {call : List Sl → Cr} {n : Nat} (hc : ∀ args r outs, call args = .ok r outs → args.length = n) : ∀ (vs : List V) (H : Hp) (Q : VK) (E : XK), spD K call vs H Q E → vs.length = n := fun vs H Q E ⟨args, fp, fz, r, outs, s, _, h, _⟩ => by
  have h1 := SL.len s
  have h2 := hc args r outs h
  simpa [h2] using h1
theorem run_len {cf : Cf} {df : Df} {args : List Sl} {r : Sl} {outs : List (Option Sl)} (h : runDf cf df args = .ok r outs) : args.length = df.np := by
  unfold runDf at h
  split at h
  · assumption
  · cases h
theorem up_succ {tb : Tb} {con : List D} {defs : List (Str × Df)} {fuel k : Nat} {es cs : List Ent} (hM : Mg P w K mg tb con es cs) (hE : ∀ e ∈ es, entOk tb e = true ∧ defs.lookup e.nm = some e.df) (hC : ∀ e ∈ cs, centOk tb e = true ∧ defs.lookup e.nm = some e.df) (UC : UpC P w K mg base defs con fuel cs k) (U : UpTo P w K mg base tb con defs fuel es k) : UpTo P w K mg base tb con defs fuel es (k + 1) := by
  intro e he f fd F
  obtain ⟨hok, hlk⟩ := hE e he
  obtain ⟨S, hck, hnl, hnp⟩ := ent_scope hok
  have hcall : callN defs con fuel (k + 1) e.nm = runDf ⟨callN defs con fuel k, con, fuel⟩ e.df := by
    funext args
    simp only [callN, hlk, ent_mk hok, Bool.false_eq_true, if_false]
  rw [hcall]
  have hlen : ∀ vs H Q E, spD K (runDf ⟨callN defs con fuel k, con, fuel⟩ e.df) vs H Q E → vs.length = e.ps.length := by rw [hnp]; exact spD_len fun args r outs h => run_len h
  obtain ⟨oc, od, kV, doc, pm, an, cdv, ct, osl, hfd, lk, hcd⟩ := F.ex
  refine ⟨hlen, fun A outer s H args us vs Q E room hg env0 hb rv hsp => ?_⟩
  rw [hfd] at hb
  have inK : K.In s.heap := env0.mod.kin.keeps fun b o h => (env0.bs b o h).1
  have noL : s.heap.NoLimit := env0.mod.nolimit.keeps fun b o h => (env0.bs b o h).1
  have kinds : ∀ y ∈ e.ps.zip us, (defScope e.st).names.lookup y.1 = some .local ∨ ((defScope e.st).names.lookup y.1 = some .cell ∧ ((cellsFrom (s.heap.objs.size + 1) (defScope e.st).names []).lookup y.1).isSome = true) := by
    rintro ⟨n, v⟩ hy
    exact (S.par n (List.of_mem_zip hy).1).imp id fun q => ⟨q, PySem.W.cellsFrom_some _ _ _ (.inl q)⟩
  rw [hfd] at lk
  refine codeAny_call_function room.depth (inK _ _ lk) rfl S.co S.gen rfl (PySem.W.codeRec_of inK hcd) (hb _ _ _ _ ?_)
  refine wpAny_newFunctionEnv_cells S.kind kinds fun en hen s1 x => ?_
  subst hen
  refine ⟨noL.keeps x.toInCall.keep, codeAny_func ?_⟩
  have ok := xok_def (nm := e.nm) (outer := outer) (s := s) (H := H) (E := E) (f := f) (cdv := cdv) hM hC U UC S (room.deeper _) hg
  have body := doc_drop ((st_ok (cf := ⟨callN defs con fuel k, con, fuel⟩) (kp := e.df.io) ok (passes_of rfl) S.kind e.df.body).2 _ hck)
  have I := inv_start (CX := CX0) (E := E) (f := f) (cd := cdv) (qual := e.nm) S room.hd env0 (hlen _ _ _ _ hsp) rv x
  obtain ⟨as, fp, fz, r, outs, sl, dj, hrun, fin⟩ := hsp
  have hal := run_len hrun
  have hvl : vs.length = e.df.np := by
    have := SL.len sl
    simpa [hal] using this
  unfold runDf at hrun
  rw [if_pos hal] at hrun
  have pads : SL K H (start e.N vs) (as.map some ++ List.replicate (e.df.nl - e.df.np) none) fp fz := by
    have := SL.pad (e.df.nl - e.df.np) sl
    unfold L2.start
    rw [hnl, hvl]
    exact this
  have hnn : e.df.np ≤ e.df.nl := by
    have := congrArg List.length S.pre
    rw [List.length_take] at this
    omega
  have hio : ∀ {σ' : St}, Kp e.df.io (start e.N vs) σ' → ∀ i ∈ e.df.io, i < e.df.np → σ'[i]? = (vs.map some)[i]? := by
    intro σ' hk i m hi
    rw [hk i m]
    unfold L2.start
    rw [List.getElem?_append_left (by simpa [hvl] using hi)]
  have go : tSI K ⟨callN defs con fuel k, con, fuel⟩ e.df.io e.df.body { nx := fun _ H' => Q .non H', rt := Q } (start e.N vs) H := by
    split at hrun
    · rename_i v ρ' he
      cases hrun
      refine ⟨_, fp, fz, .rt r, ρ', pads, dj, he, fun u σ' H' f1 z1 f z ru s d x k => ?_⟩
      obtain ⟨f2, z2, so, l⟩ := outs_ok2 s hvl (hio k)
      have L := (Less.refl f1 z1).app l
      exact fin u H' f1 z1 f2 z2 ru so (L.disj d) (x.less L)
    · rename_i ρ' he
      cases hrun
      refine ⟨_, fp, fz, .nx, ρ', pads, dj, he, fun σ' H' f z s d x k => ?_⟩
      obtain ⟨f2, z2, so, l⟩ := outs_ok2 s hvl (hio k)
      exact fin .non H' [] [] f2 z2 (by simp [Rep]) so (l.disj d) (x.less l)
    · cases hrun
    · cases hrun
    · cases hrun
  refine wpAny_mono (body.run [] s1 (start e.N vs) H _ I go) (fun fl s' hs => ?_) fun er s' h => h
  have close : ∀ {σ' : St} {H' : Hp} {v : V} {u : Value}, L2.Inv (cxOf CX0 P w K mg base e.N e.nm (defScope e.st) f cdv A outer s H E) [] σ' H' s' → RelV v u → Q v H' → CE outer P w H s Q u s' := by
    intro σ' H' v u J ru q
    exact ⟨v, H', J.os, J.bare, J.base, J.hok, ru, q⟩
  cases fl with
  | ret u =>
    obtain ⟨v, σ', H', J, ru, q⟩ := hs
    exact close J ru q
  | next =>
    obtain ⟨σ', H', J, q⟩ := hs
    exact close (v := .non) (u := .none) J rfl q
  | brk => exact hs.elim fun _ h => h.elim fun _ h => h.2.elim
  | cont => exact hs.elim fun _ h => h.elim fun _ h => h.2.elim
theorem clrun_len {cf : Cf} {df : Df} {args : List Sl} {r : Sl} {outs : List (Option Sl)} (h : runCl cf df args = .ok r outs) : args.length = df.np := by
  unfold runCl at h
  split at h
  · assumption
  · cases h
theorem up_cls {tb : Tb} {con : List D} {defs : List (Str × Df)} {fuel k : Nat} {es cs : List Ent} (hM : Mg P w K mg tb con es cs) (hC : ∀ e ∈ cs, centOk tb e = true ∧ defs.lookup e.nm = some e.df) (UC : UpC P w K mg base defs con fuel cs k) (U : UpTo P w K mg base tb con defs fuel es k) : UpC P w K mg base defs con fuel cs (k + 2) := by
  intro k' hk e he q C f fd F hcl hin hna
  have hk' : k' = k := by omega
  subst hk'
  obtain ⟨hok, hlk⟩ := hC e he
  obtain ⟨S, hck, hnl, hnp, hmk, hnm⟩ := cent_scope hok
  rw [cl_call hlk hmk]
  have hlen : ∀ vs H Q E, spI K C (runCl ⟨callN defs con fuel k', con, fuel⟩ e.df) vs H Q E → vs.length = e.ps.length := by
    rintro vs H Q E ⟨x, dx, avs, args, fp, fz, r, outs, rfl, _, sl, _, _, _, hc, _⟩
    have h1 := SL.len sl
    have h2 := clrun_len hc
    rw [List.length_map, List.length_map] at h1
    rw [hnp, List.length_cons]; omega
  obtain ⟨oc, od, kV, doc, pm, an, cdv, ct, osl, hfd, lk, hcd⟩ := F.ex
  refine ⟨hlen, fun A outer s H args us vs Q E room hg env0 hb rv hsp => ?_⟩
  rw [hfd] at hb
  have inK : K.In s.heap := env0.mod.kin.keeps fun b o h => (env0.bs b o h).1
  have noL : s.heap.NoLimit := env0.mod.nolimit.keeps fun b o h => (env0.bs b o h).1
  have kinds : ∀ y ∈ e.ps.zip us, (defScope e.st).names.lookup y.1 = some .local ∨ ((defScope e.st).names.lookup y.1 = some .cell ∧ ((cellsFrom (s.heap.objs.size + 1) (defScope e.st).names []).lookup y.1).isSome = true) := by
    rintro ⟨n, v⟩ hy
    exact (S.par n (List.of_mem_zip hy).1).imp id fun q => ⟨q, PySem.W.cellsFrom_some _ _ _ (.inl q)⟩
  rw [hfd] at lk
  refine codeAny_call_function room.depth (inK _ _ lk) rfl S.co S.gen rfl (PySem.W.codeRec_of inK hcd) (hb _ _ _ _ ?_)
  refine wpAny_newFunctionEnv_cells S.kind kinds fun en hen s1 x => ?_
  subst hen
  refine ⟨noL.keeps x.toInCall.keep, codeAny_func ?_⟩
  have ok := xok_def (nm := q) (outer := outer) (s := s) (H := H) (E := E) (f := f) (cdv := cdv) hM hC U UC S (room.deeper _) hg
  have body0 := cls_pss (cf := ⟨callN defs con fuel k', con, fuel⟩) ok (passes_of rfl) S.kind e.df.body _ hck
  have I := inv_start (CX := CX0) (E := E) (f := f) (cd := cdv) (qual := q) S room.hd env0 (hlen _ _ _ _ hsp) rv x
  obtain ⟨xa, dx, avs, as, fp, fz, r, outs, hvs, hx, sl, dj, n1, n2, hrun, fin⟩ := hsp
  subst hvs
  have hal := clrun_len hrun
  have hvl : avs.length = e.df.np := by
    have := SL.len sl
    simpa [hal] using this
  unfold runCl at hrun
  rw [if_pos hal] at hrun
  split at hrun
  · rename_i v ρ' he2
    cases hrun
    have pads : SL K H (start e.N (.ref xa :: avs)) (none :: (as.map some ++ List.replicate (e.df.nl - e.df.np - 1) none)) fp fz := by
      have := SL.pad (e.df.nl - e.df.np - 1) sl
      unfold L2.start
      have e1 : e.N.length - (V.ref xa :: avs).length = e.df.nl - e.df.np - 1 := by rw [hnl, List.length_cons, hvl]; omega
      rw [e1]
      exact this
    have go : tSC K ⟨callN defs con fuel k', con, fuel⟩ e.df.body { nx := fun _ H' => Q .non H', rt := Q } (start e.N (.ref xa :: avs)) H := by
      refine ⟨_, fp, fz, r, ρ', xa, C, dx, pads, dj, rfl, hx, n1, n2, hcl, by rw [hnm]; exact hin, hna, he2, fun σ' H' rr st => fin H' rr st⟩
    have body : PSs (cxOf CX0 P w K mg base e.N q (defScope e.st) f cdv A outer s H E) (defBody e.st) (tSC K ⟨callN defs con fuel k', con, fuel⟩ e.df.body) := doc_dropC body0
    refine wpAny_mono (body.run [] s1 (start e.N (.ref xa :: avs)) H _ I go) (fun fl s' hs => ?_) fun er s' h => h
    have close : ∀ {σ' : St} {H' : Hp} {v : V} {u : Value}, L2.Inv (cxOf CX0 P w K mg base e.N q (defScope e.st) f cdv A outer s H E) [] σ' H' s' → RelV v u → Q v H' → CE outer P w H s Q u s' := by
      intro σ' H' v u J ru q
      exact ⟨v, H', J.os, J.bare, J.base, J.hok, ru, q⟩
    cases fl with
    | ret u =>
      obtain ⟨v, σ', H', J, ru, q⟩ := hs
      exact close J ru q
    | next =>
      obtain ⟨σ', H', J, q⟩ := hs
      exact close (v := .non) (u := .none) J rfl q
    | brk => exact hs.elim fun _ h => h.elim fun _ h => h.2.elim
    | cont => exact hs.elim fun _ h => h.elim fun _ h => h.2.elim
  · cases hrun
end
end Pi
/-! Pi24: the law's call; the goal that the head leaves. -/
namespace Pi
open PySem L2 PySem.Spec PyProof.Rows
section
variable {P : Program} {w : World} {K : PySem.W.Frag} {mg mb : Str → Option Value} {k : Nat} {fa a : Addr} {fd : FuncData} {x : Str} {sp : Sp} {s₁ : Shared} {vs : List Value} {ns : List Int}
/-- the call, seen from an abstract heap Hs that tracks the script at most -/
theorem call_from {Hs : Hp} (KX : K.In s₁.heap) (hns : s₁.heap.Ns mainGlobals mg) (hb : s₁.heap.Ns builtinsNs mb) (hbb : ∀ x : Str, x ≠ "__name__" → mb x = bootBuiltins x) (hlim : s₁.heap.NoLimit) (hg : s₁.gens = #[])
    (ha : s₁.heap.get? a = some { cls := .type "list", data := .seq vs.toArray }) (hr : Room k callerA) (F : ∀ base : Heap, K.In base → base.Ns mainGlobals mg → FnG P w K mg base k fa fd [x] sp) (hbind : ∀ (s : Shared) (u : Value), BindsTo s fd ⟨[u], []⟩ [(x, u)])
    (hO : Only Hs) (hsp : sp [.ref a] Hs (fun v _ => v = .bl true) fun _ _ _ => False) (hok : HOk P w Hs s₁.heap) (only : ∀ b, Hs b ≠ none → b = a) (out : Hs a ≠ none → K.lookup a = none) :
    codeAny (model P w) callerA (.call (.ref fa) ⟨[.ref a], []⟩) (fun r s' => r = .ok (.ret (.bool true)) ∧ OldK s₁.heap s'.heap ∧ s'.os = s₁.os ∧ AllBare s'.gens) s₁ := by
  have free : ∀ {b : Addr} {o : Obj}, s₁.heap.get? b = some o → (∀ es ep, o.data = .dict es ep → Hs b = none) ∧ (K.lookup b = some o → Hs b = none) := by
    intro b o hbo
    refine ⟨fun es ep hd => ?_, fun hl => ?_⟩
    · refine Classical.byContradiction fun hn => ?_
      have q := only b hn
      rw [q, ha] at hbo
      cases hbo
      exact nomatch hd
    · refine Classical.byContradiction fun hn => ?_
      have q := only b hn
      subst q
      rw [out hn] at hl
      cases hl
  have names : ∀ {b : Addr} {m : Str → Option Value}, s₁.heap.Ns b m → (hidT s₁.heap Hs).Ns b m := by
    rintro b m ⟨o, es, ep, h1, h2, h3⟩
    exact ⟨o, es, ep, hidT_get h1 ((free h1).1 es ep h2), h2, h3⟩
  have kin : K.In (hidT s₁.heap Hs) := fun b o hl => hidT_get (KX b o hl) ((free (KX b o hl)).2 hl)
  obtain ⟨mc, lim1, lim2⟩ := hlim
  have modl : Mod K mg (hidT s₁.heap Hs) := ⟨kin, names hns, ⟨mb, names hb, hbb⟩, ⟨mc, names lim1, lim2⟩⟩
  have env0 : Env0 P w K mg (hidT s₁.heap Hs) callerA [] s₁ Hs := {
    frames := rfl
    mod := modl
    bs := fun b o h => of_hidT h
    bsz := Nat.le_of_eq (hidT_size _ _)
    funs := trivial
    frf := fun b m => absurd m List.not_mem_nil
    hok := hok
    bare := .of_eq hg }
  have run := (F _ kin (names hns)).run callerA [] s₁ Hs ⟨[.ref a], []⟩ [.ref a] [.ref a] _ _ hr rfl env0 (hbind s₁ (.ref a)) (.cons rfl .nil) hsp
  refine codeAny_mono run fun r s' h => ?_
  rcases r with er | fl
  · exact h.elim
  · cases fl with
    | ret u =>
      obtain ⟨v, H', os, bare, un, hok', ru, rfl⟩ := h
      have hu : u = Value.bool true := ru
      subst hu
      refine ⟨rfl, OldK.of_keep fun b o hbo => ?_, os, bare⟩
      rcases hO b with z | ⟨ob, xs, z⟩
      · exact un.keep b o hbo z (fun m => absurd m List.not_mem_nil) (fun m => absurd m List.not_mem_nil)
      · have h1 := (hok b _ z).1
        have h2 := (hok' b _ (un.frzs b ob _ z)).1
        rw [hbo] at h1
        cases h1
        exact h2
    | next => exact h.elim
    | brk => exact h.elim
    | cont => exact h.elim
theorem call_law (KX : K.In s₁.heap) (hns : s₁.heap.Ns mainGlobals mg) (hb : s₁.heap.Ns builtinsNs mb) (hbb : ∀ x : Str, x ≠ "__name__" → mb x = bootBuiltins x) (hlim : s₁.heap.NoLimit) (hg : s₁.gens = #[])
    (ha : s₁.heap.get? a = some { cls := .type "list", data := .seq vs.toArray }) (hi : IntsAre vs ns) (hl : ns.length ≤ sizeLine) (hr : Room k callerA) (F : ∀ base : Heap, K.In base → base.Ns mainGlobals mg → FnG P w K mg base k fa fd [x] sp) (hbind : ∀ (s : Shared) (u : Value), BindsTo s fd ⟨[u], []⟩ [(x, u)])
    (hsp : ∀ Hs : Hp, Only Hs → SqL K Hs a (ns.map V.int) → sp [.ref a] Hs (fun v _ => v = .bl true) fun _ _ _ => False) :
    codeAny (model P w) callerA (.call (.ref fa) ⟨[.ref a], []⟩) (fun r s' => r = .ok (.ret (.bool true)) ∧ OldK s₁.heap s'.heap ∧ s'.os = s₁.os ∧ AllBare s'.gens) s₁ := by
  have items : Vals (ns.map V.int) vs := vals_ints hi
  by_cases hk : K.lookup a = none
  · have o1 : Only (fun b => if b = a then some (.frz { cls := .type "list", data := .seq vs.toArray } (.lst (ns.map V.int))) else none) := fun b => by
      by_cases hba : b = a
      · exact .inr ⟨_, _, if_pos hba⟩
      · exact .inl (if_neg hba)
    have s1 : SqL K (fun b => if b = a then some (.frz { cls := .type "list", data := .seq vs.toArray } (.lst (ns.map V.int))) else none) a (ns.map V.int) := .inl (.inr ⟨_, if_pos rfl⟩)
    refine call_from KX hns hb hbb hlim hg ha hr F hbind o1 (hsp _ o1 s1) (fun b u z => ?_) (fun b z => Classical.byContradiction fun hba => z (if_neg hba)) fun _ => hk
    have hba : b = a := Classical.byContradiction fun hba => by
      have z' := (if_neg hba).symm.trans z
      cases z'
    subst hba
    have z' := (if_pos rfl).symm.trans z
    cases z'
    exact ⟨ha, by simpa using hl, vs, _, items, ha⟩
  · obtain ⟨o, ho⟩ := Option.ne_none_iff_exists'.mp hk
    have h2 := KX a o ho
    rw [ha] at h2
    cases h2
    have o1 : Only (fun _ => none) := fun b => .inl rfl
    refine call_from KX hns hb hbb hlim hg ha hr F hbind o1 (hsp _ o1 (.inr ⟨_, vs.toArray, _, ho, rfl, rfl, rfl, ?_, by simpa using items⟩)) (fun b u z => nomatch z) (fun b z => absurd rfl z) fun z => absurd rfl z
    rw [List.size_toArray, hi.length]; exact hl
end
/-- the goal that the head leaves -/
theorem walkG {l : PySem.W.OpenLaw} {n k : Nat} {q : Program} {loose : List Str} {XP : (Str → Option Value) → Heap → Prop} {YP : World → Heap → Prop} {d : DefRec} {K : Params → PySem.W.Frag} {sp : World → Sp} {x : Str} (hn : l.most = some n) (hn2 : n ≤ sizeLine) (hdf : d.params.defaults = []) (hr : Room k callerA) (hY : ∀ (w : World) (h : Heap), YP w h → (K w.params).In h)
    (F : ∀ (w : World) (mg : Str → Option Value) (fa : Addr) (h : Heap), (K w.params).In h → h.Ns mainGlobals mg → mg d.name = some (.ref fa) → ∃ fd : FuncData, (∀ (s : Shared) (u : Value), BindsTo s fd ⟨[u], []⟩ [(x, u)]) ∧ ∀ base : Heap, (K w.params).In base → base.Ns mainGlobals mg → FnG l.prog w (K w.params) mg base k fa fd [x] (sp w))
    (hsp : ∀ (w : World) (H : Hp) (a : Addr) (ns : List Int), ns.length ≤ n → Only H → SqL (K w.params) H a (ns.map V.int) → sp w [.ref a] H (fun v _ => v = .bl true) fun _ _ _ => False) :
    PySem.W.WalkO q loose XP YP l.row.toRowW d [] (fun f vs => PySem.call f vs) := by
  refine Att.attach_call hn hdf fun w s₀ s₁ mg mb fa o pm cd doc a vs ns G Y ho hd hcd hmg hobj hints hlen hg => ?_
  obtain ⟨fd, bnd, prom⟩ := F w mg fa _ (hY w _ Y) G.T.g hmg
  exact call_law (hY w _ Y) G.T.g G.T.b G.T.builtins G.T.nolimit hg hobj hints (Nat.le_trans hlen hn2) hr prom bnd fun Hs h1 h2 => hsp w Hs a ns hlen h1 h2
/-- the law's promise: the evaluator's run is true at every script -/
theorem spD_law {K : PySem.W.Frag} {call : List Sl → Cr} {a : Addr} {ns : List Int} {H : Hp} (hO : Only H) (hS : SqL K H a (ns.map V.int)) (hrun : ∃ outs, call [(.scr ns, 0)] = .ok (.bl true, 0) outs) : spD K call [.ref a] H (fun v _ => v = .bl true) fun _ _ _ => False := by
  obtain ⟨outs, h⟩ := hrun
  have hrep : ∃ z, Rep K H (.scr ns) 0 (.ref a) [] z := by
    rcases hS with r | r
    · exact ⟨[a], a, rfl, rfl, .inl ⟨r, rfl⟩⟩
    · exact ⟨[], a, rfl, rfl, .inr ⟨r, rfl⟩⟩
  obtain ⟨z, hz⟩ := hrep
  refine ⟨[(.scr ns, 0)], [], z ++ [], (.bl true, 0), outs, ⟨.ref a, [], [], z, [], rfl, rfl, rfl, hz, rfl, rfl⟩, ⟨List.nodup_nil, fun _ m => absurd m List.not_mem_nil⟩, h, fun v H' f1 z1 f2 z2 r _ _ _ => ?_⟩
  exact r.toBl
end Pi
/-! Pi25: what a law's own part takes. -/
namespace Pi
open PySem L2 PySem.Spec PyProof.Rows
abbrev Bds (K : PySem.W.Frag) (fd : FuncData) (ps : List Str) (sh : Shape) : Prop := ∀ (s : Shared) (us ws : List Value), K.In s.heap → us.length = sh.npos → ws.length = sh.ks.length → BindsTo s fd ⟨us, sh.ks.zip ws⟩ (ps.zip (selL (us ++ ws) sh.sel))
theorem bds_of {K : PySem.W.Frag} {fd : FuncData} {ps : List Str} {L l : List Shape} {nm : Str} (h : ∀ sh ∈ L, Bds K fd ps sh) (e : (l.filter fun sh => sh.f == nm) = L) : ∀ sh ∈ l, sh.f = nm → Bds K fd ps sh := by
  subst e
  exact fun sh m hn => h sh (List.mem_filter.mpr ⟨m, by simpa using hn⟩)
abbrev BdC (K : PySem.W.Frag) (fd : FuncData) (ps : List Str) (sh : Shape) : Prop := sh.ks = [] ∧ ∀ (s : Shared) (self : Value) (us : List Value), K.In s.heap → us.length = sh.npos → BindsTo s fd ⟨self :: us, []⟩ (ps.zip (self :: selL us sh.sel))
theorem shp_of {P : Shape → Prop} {L l : List Shape} {nm : Str} (h : ∀ sh ∈ L, P sh) (e : (l.filter fun sh => sh.f == nm) = L) : ∀ sh ∈ l, sh.f = nm → P sh := by
  subst e
  exact fun sh m hn => h sh (List.mem_filter.mpr ⟨m, by simpa using hn⟩)
def ConsF (K : PySem.W.Frag) (mg : Str → Option Value) : List Str → List D → Prop
  | [], [] => True
  | x :: xs, d :: ds => (∃ v u, mg x = some u ∧ RelV v u ∧ ∀ H, Rep K H d 0 v [] []) ∧ ConsF K mg xs ds
  | _, _ => False
theorem cons_ok {K : PySem.W.Frag} {mg : Str → Option Value} : ∀ (L : List Str) (M : List D), ConsF K mg L M → ∀ (j : Nat) (x : Str), L[j]? = some x → ∃ v u d, mg x = some u ∧ RelV v u ∧ M[j]? = some d ∧ ∀ H, Rep K H d 0 v [] []
  | [], [], _, j, x, h => by simp at h
  | y :: L, d :: M, hc, 0, x, h => by
    obtain ⟨⟨v, u, a, b, c⟩, _⟩ := hc
    have : y = x := by simpa using h
    subst this
    exact ⟨v, u, d, a, b, rfl, c⟩
  | y :: L, d :: M, hc, j + 1, x, h => cons_ok L M hc.2 j x (by simpa using h)
  | [], _ :: _, hc, _, _, _ => hc.elim
  | _ :: _, [], hc, _, _, _ => hc.elim
theorem levels2 {P : Program} {w : World} {K : PySem.W.Frag} {mg : Str → Option Value} {base : Heap} {tb : Tb} {con : List D} {defs : List (Str × Df)} {fuel : Nat} {es cs : List Ent} (hM : Mg P w K mg tb con es cs) (hE : ∀ e ∈ es, entOk tb e = true ∧ defs.lookup e.nm = some e.df) (hC : ∀ e ∈ cs, centOk tb e = true ∧ defs.lookup e.nm = some e.df) :
    ∀ k, (UpTo P w K mg base tb con defs fuel es k ∧ UpC P w K mg base defs con fuel cs k) ∧ (UpTo P w K mg base tb con defs fuel es (k + 1) ∧ UpC P w K mg base defs con fuel cs (k + 1))
  | 0 => ⟨⟨up_zero, fun k' h => by omega⟩, ⟨up_succ hM hE hC (fun k' h => by omega) up_zero, fun k' h => by omega⟩⟩
  | k + 1 => by
    obtain ⟨⟨a, b⟩, c, d⟩ := levels2 hM hE hC k
    exact ⟨⟨c, d⟩, up_succ hM hE hC d c, up_cls hM hC b a⟩
theorem levels {P : Program} {w : World} {K : PySem.W.Frag} {mg : Str → Option Value} {base : Heap} {tb : Tb} {con : List D} {defs : List (Str × Df)} {fuel : Nat} {es cs : List Ent} (hM : Mg P w K mg tb con es cs) (hE : ∀ e ∈ es, entOk tb e = true ∧ defs.lookup e.nm = some e.df) (hC : ∀ e ∈ cs, centOk tb e = true ∧ defs.lookup e.nm = some e.df) (k : Nat) : UpTo P w K mg base tb con defs fuel es k := (levels2 hM hE hC k).1.1
theorem lookup_nd : ∀ {es : List Ent}, (es.map (·.nm)).Nodup → ∀ e ∈ es, (es.map fun e => (e.nm, e.df)).lookup e.nm = some e.df
  | [], _, e, m => absurd m List.not_mem_nil
  | a :: es, h, e, m => by
    have h2 := List.nodup_cons.mp h
    simp only [List.map_cons, List.lookup_cons]
    by_cases hn : e.nm = a.nm
    · have : e = a := by
        rcases List.mem_cons.mp m with rfl | m
        · rfl
        · exact absurd (by show a.nm ∈ es.map (·.nm); rw [← hn]; exact List.mem_map_of_mem m) h2.1
      subst this
      simp
    · have hb : (e.nm == a.nm) = false := by simpa using hn
      rw [hb]
      exact lookup_nd h2.2 e ((List.mem_cons.mp m).resolve_left fun q => hn (by rw [q]))
theorem walkL {l : PySem.W.OpenLaw} {n k : Nat} {q : Program} {loose : List Str} {XP : (Str → Option Value) → Heap → Prop} {YP : World → Heap → Prop} {d : DefRec} {K : Params → PySem.W.Frag} {x : Str} {call : List Sl → Cr} (hn : l.most = some n) (hn2 : n ≤ sizeLine) (hdf : d.params.defaults = []) (hr : Room k callerA) (hY : ∀ (w : World) (h : Heap), YP w h → (K w.params).In h)
    (F : ∀ (w : World) (mg : Str → Option Value) (fa : Addr) (h : Heap), (K w.params).In h → h.Ns mainGlobals mg → mg d.name = some (.ref fa) → ∃ fd : FuncData, (∀ (s : Shared) (u : Value), BindsTo s fd ⟨[u], []⟩ [(x, u)]) ∧ ∀ base : Heap, (K w.params).In base → base.Ns mainGlobals mg → FnG l.prog w (K w.params) mg base k fa fd [x] (spD (K w.params) call))
    (hrun : ∀ ns : List Int, ns.length ≤ n → ∃ outs, call [(.scr ns, 0)] = .ok (.bl true, 0) outs) : PySem.W.WalkO q loose XP YP l.row.toRowW d [] (fun f vs => PySem.call f vs) :=
  walkG (sp := fun w => spD (K w.params) call) hn hn2 hdf hr hY F fun w H a ns hl hO hS => spD_law hO hS (hrun ns hl)
end Pi
/-! Pi26: equations of the evaluator, for simp. -/
namespace Pi
open PySem L2
section
variable {i j : Int} {a b : Str} {l m : List D}
theorem addD_i : addD (.int i) (.int j) = some (.int (i + j)) := rfl
theorem subD_i : subD (.int i) (.int j) = some (.int (i - j)) := rfl
theorem mulD_i (h : mulOk i j = true) : mulD (.int i) (.int j) = some (.int (i * j)) := by simp [mulD, h]
theorem fdivD_i (h : divOk j = true) : fdivD (.int i) (.int j) = some (.int (i / j)) := by simp [fdivD, h]
theorem modD_i (h : 0 < j) : modD (.int i) (.int j) = some (.int (i % j)) := by simp [modD, h]
theorem op2_add {x y : D} : op2D .Add x y = addD x y := rfl
theorem op2_sub {x y : D} : op2D .Sub x y = subD x y := rfl
theorem op2_mul {x y : D} : op2D .Mult x y = mulD x y := rfl
theorem op2_fdiv {x y : D} : op2D .FloorDiv x y = fdivD x y := rfl
theorem op2_mod {x y : D} : op2D .Mod x y = modD x y := rfl
theorem op2_pow {x y : D} : op2D .Pow x y = powD x y := rfl
theorem op2_and {x y : D} : op2D .BitAnd x y = andD x y := rfl
theorem op2_shr {x y : D} : op2D .RShift x y = shrD x y := rfl
theorem fr_i : fr (.int i) = (.int i, 0) := rfl
theorem fr_s : fr (.str a) = (.str a, 0) := rfl
theorem fr_b {b : Bool} : fr (.bl b) = (.bl b, 0) := rfl
theorem fr_n : fr .non = (.non, 0) := rfl
theorem fr_l : fr (.lst l) = (.lst l, 1) := rfl
theorem hasd_i {k n : Nat} : hasd k (.int i, n) = true := by simp [hasd, imm]
theorem hasd_b {k n : Nat} {b : Bool} : hasd k (.bl b, n) = true := by simp [hasd, imm]
theorem hasd_s {k n : Nat} : hasd k (.str a, n) = true := by simp [hasd, imm]
theorem hasd_n {k n : Nat} : hasd k (.non, n) = true := by simp [hasd, imm]
theorem hasd_0 {d : D} {n : Nat} : hasd 0 (d, n) = true := by simp [hasd]
theorem nofz_i {n : Nat} : nofz n (.int i) = true := by simp [nofz]
theorem nofz_b {n : Nat} {b : Bool} : nofz n (.bl b) = true := by simp [nofz]
theorem nofz_s {n : Nat} : nofz n (.str a) = true := by simp [nofz]
theorem nofz_n {n : Nat} : nofz n .non = true := by simp [nofz]
theorem ixD_dk {kvs : List (Key × D)} : ixD (.dk kvs) (.str a) = getK kvs (.inr a) := rfl
theorem ixD_dki {kvs : List (Key × D)} : ixD (.dk kvs) (.int i) = getK kvs (.inl i) := rfl
theorem ixD_l : ixD (.lst l) (.int i) = atI l i := rfl
theorem getK_c {κ α : Type} [DecidableEq κ] {p : κ × α} {r : List (κ × α)} {k : κ} : getK (p :: r) k = if p.1 = k then some p.2 else getK r k := rfl
theorem putD_c {κ α : Type} [DecidableEq κ] {p : κ × α} {r : List (κ × α)} {k : κ} {v : α} : putD (p :: r) k v = if p.1 = k then (p.1, v) :: r else p :: putD r k v := rfl
theorem getK_y {κ α : Type} [DecidableEq κ] {k : κ} {v : α} {r : List (κ × α)} : getK ((k, v) :: r) k = some v := by simp [getK]
theorem getK_n {κ α : Type} [DecidableEq κ] {k k' : κ} {v : α} {r : List (κ × α)} (h : k' ≠ k) : getK ((k', v) :: r) k = getK r k := by simp [getK, h]
theorem putD_y {κ α : Type} [DecidableEq κ] {k : κ} {v w : α} {r : List (κ × α)} : putD ((k, v) :: r) k w = (k, w) :: r := by simp [putD]
theorem putD_n {κ α : Type} [DecidableEq κ] {k k' : κ} {v w : α} {r : List (κ × α)} (h : k' ≠ k) : putD ((k', v) :: r) k w = (k', v) :: putD r k w := by simp [putD, h]
theorem setD_dk {kvs : List (Key × D)} {n : Nat} {v : Sl} (h1 : kvs.length < sizeLine) (h2 : hasd (n - 1) v = true) : setD (.dk kvs) n (.str a) v = some (.dk (putD kvs (.inr a) v.1)) := by simp [setD, isKey, h1, h2]
theorem ints_flat : ∀ ns : List Int, flatL (ns.map .int) = true
  | [] => rfl
  | _ :: ns => by simp [flatL, flatD, ints_flat ns]
theorem ints_toPy : ∀ ns : List Int, toPyL (ns.map .int) = some (ns.map .int)
  | [] => rfl
  | n :: ns => by simp [toPyL, toPy, ints_toPy ns]
end
end Pi
namespace Pi
open PySem L2
theorem canLay_ints : ∀ ns : List Int, PyData.canLayAll0 (ns.map .int) = true
  | [] => by simp [PyData.canLayAll0]
  | n :: ns => by simp [PyData.canLayAll0, PyData.canLay0, canLay_ints ns]
theorem depth_ints : ∀ ns : List Int, PyData.depthAll (ns.map .int) = 0
  | [] => by simp [PyData.depthAll]
  | n :: ns => by simp [PyData.depthAll, PyData.depth, depth_ints ns]
theorem eqD_nil (ns : List Int) : eqD (.lst (ns.map .int)) (.lst []) = some ns.isEmpty := by
  have h1 : toPy (.lst (ns.map .int)) = some (.list (ns.map .int)) := by simp [toPy, ints_toPy]
  have h2 : toPy (.lst []) = some (.list []) := by simp [toPy, toPyL]
  have h3 : SeqAt.shaped (.list (ns.map .int)) = true := by simp [SeqAt.shaped, PyData.canLay0, canLay_ints, PyData.depth, depth_ints]
  have h4 : SeqAt.shaped (.list []) = true := by simp [SeqAt.shaped, PyData.canLay0, PyData.canLayAll0, PyData.depth, PyData.depthAll]
  unfold eqD
  simp only [scalD, h1, h2, h3, h4, Bool.and_self, if_true]
  cases ns <;> simp [PyData.eqv, PyData.eqvAll]
theorem exec_seq {cf : Cf} {a b : Sm} {ρ ρ1 : Env} (h : exec cf a ρ = .ok .nx ρ1) : exec cf (.seq a b) ρ = exec cf b ρ1 := by
  simp only [exec, h, bind_ok]
theorem exec_seq_rt {cf : Cf} {a b : Sm} {ρ ρ1 : Env} {v : Sl} (h : exec cf a ρ = .ok (.rt v) ρ1) : exec cf (.seq a b) ρ = .ok (.rt v) ρ1 := by
  simp only [exec, h, bind_ok]
end Pi
namespace Pi
open PySem L2
theorem exec_if_t {cf : Cf} {c : Ex} {a b : Sm} {ρ ρ1 : Env} (h : evT cf c ρ = .ok true ρ1) : exec cf (.ifs c a b) ρ = exec cf a ρ1 := by
  simp only [exec, h, bind_ok, if_true]
theorem exec_if_f {cf : Cf} {c : Ex} {a b : Sm} {ρ ρ1 : Env} (h : evT cf c ρ = .ok false ρ1) : exec cf (.ifs c a b) ρ = exec cf b ρ1 := by
  simp only [exec, h, bind_ok, Bool.false_eq_true, if_false]
theorem exec_skip {cf : Cf} {ρ : Env} : exec cf .skip ρ = .ok .nx ρ := rfl
theorem exec_ret {cf : Cf} {e : Ex} {ρ ρ1 : Env} {v : Sl} (h : ev cf e ρ = .ok v ρ1) : exec cf (.ret e) ρ = .ok (.rt v) ρ1 := by
  simp only [exec, h, bind_ok]
theorem exec_asg {cf : Cf} {i : Nat} {e : Ex} {ρ ρ1 : Env} {v : Sl} (h : ev cf e ρ = .ok v ρ1) : exec cf (.asg (.nm i) e) ρ = .ok .nx (st ρ1 i (some v)) := by
  simp only [exec, h, bind_ok]
end Pi
/-! Pi27: rules for runs of the evaluator: calls, loops, comprehensions; values. -/
namespace Pi
open PySem L2
theorem callN_ok {defs : List (Str × Df)} {con : List D} {fuel k : Nat} {f : Str} {df : Df} {args : List Sl} {v : Sl} {ρ ρ0 : Env} (h : defs.lookup f = some df) (hl : args.length = df.np) (h0 : args.map some ++ List.replicate (df.nl - df.np) none = ρ0)
    (hb : exec ⟨callN defs con fuel k, con, fuel⟩ df.body ρ0 = .ok (.rt v) ρ) (hm : isMk df.body = false := by rfl) : callN defs con fuel (k + 1) f args = .ok v (outsOf df ρ) := by
  rw [callN]
  simp only [h, hm, Bool.false_eq_true, if_false]
  unfold runDf
  rw [if_pos hl, h0, hb]
theorem exec_fors {cf : Cf} {t : Tg} {it : Ex} {b : Sm} {ρ ρ1 : Env} {xs : List D} (h : evI cf it ρ = .ok xs ρ1) : exec cf (.fors none t it b) ρ = forL (fun x ρ => match setT t x ρ with | some ρ2 => exec cf b ρ2 | none => .stk) xs ρ1 := by
  simp only [exec, h, bind_ok]
  all_goals rfl
theorem evI_irng1 {cf : Cf} {a : Ex} {ρ ρ1 : Env} {x : Sl} {l : List D} (h : ev cf a ρ = .ok x ρ1) (h2 : rngD (.int 0) x.1 = some l) : evI cf (.irng1 a) ρ = .ok l ρ1 := by
  simp only [evI, h, bind_ok, h2, of_some]
theorem evI_irng2 {cf : Cf} {a b : Ex} {ρ ρ1 ρ2 : Env} {x y : Sl} {l : List D} (h : ev cf a ρ = .ok x ρ1) (h1 : ev cf b ρ1 = .ok y ρ2) (h2 : rngD x.1 y.1 = some l) : evI cf (.irng2 a b) ρ = .ok l ρ2 := by
  simp only [evI, h, h1, bind_ok, h2, of_some]
theorem evI_irng3 {cf : Cf} {a b c : Ex} {ρ ρ1 ρ2 ρ3 : Env} {x y z : Sl} {l : List D} (h : ev cf a ρ = .ok x ρ1) (h1 : ev cf b ρ1 = .ok y ρ2) (h2 : ev cf c ρ2 = .ok z ρ3) (h3 : rng3D x.1 y.1 z.1 = some l) : evI cf (.irng3 a b c) ρ = .ok l ρ3 := by
  simp only [evI, h, h1, h2, bind_ok, h3, of_some]
theorem evI_ienumT {cf : Cf} {a : Ex} {ρ ρ1 : Env} {l : List D} {n : Nat} (h : ev cf a ρ = .ok (.tup l, n) ρ1) : evI cf (.ienum a) ρ = .ok (enumD l) ρ1 := by
  simp only [evI, h, bind_ok]
theorem evI_ivalL {cf : Cf} {a : Ex} {ρ ρ1 : Env} {l : List D} {n : Nat} (h : ev cf a ρ = .ok (.lst l, n) ρ1) : evI cf (.ival a) ρ = .ok l ρ1 := by
  simp only [evI, h, bind_ok, itemsD, of_some]
theorem evI_ivalT {cf : Cf} {a : Ex} {ρ ρ1 : Env} {l : List D} {n : Nat} (h : ev cf a ρ = .ok (.tup l, n) ρ1) : evI cf (.ival a) ρ = .ok l ρ1 := by
  simp only [evI, h, bind_ok, itemsD, of_some]
theorem forL_inv {f : D → Env → Rs Fl} (I : Nat → Env → Prop) : ∀ (xs : List D) (i : Nat) (ρ : Env), I i ρ → (∀ j x ρ, xs[j]? = some x → I (i + j) ρ → ∃ ρ', f x ρ = .ok .nx ρ' ∧ I (i + j + 1) ρ') → ∃ ρ', forL f xs ρ = .ok .nx ρ' ∧ I (i + xs.length) ρ'
  | [], i, ρ, h, _ => ⟨ρ, rfl, h⟩
  | x :: xs, i, ρ, h, hs => by
    obtain ⟨ρ1, e, h1⟩ := hs 0 x ρ rfl h
    obtain ⟨ρ2, e2, h2⟩ := forL_inv I xs (i + 1) ρ1 h1 fun j y ρ hj hi => by
      have := hs (j + 1) y ρ (by simpa using hj) (by rw [show i + (j + 1) = i + 1 + j by omega]; exact hi)
      rw [show i + (j + 1) + 1 = i + 1 + j + 1 by omega] at this
      exact this
    refine ⟨ρ2, ?_, by rw [List.length_cons, show i + (xs.length + 1) = i + 1 + xs.length by omega]; exact h2⟩
    rw [forL, e, bind_ok]
    exact e2
theorem fors_inv {cf : Cf} {t : Tg} {it : Ex} {b : Sm} {ρ ρ1 : Env} {xs : List D} {P : Env → Prop} (I : Nat → Env → Prop) (h : evI cf it ρ = .ok xs ρ1) (h0 : I 0 ρ1)
    (hs : ∀ j x ρ, xs[j]? = some x → I j ρ → ∃ ρ2 ρ', setT t x ρ = some ρ2 ∧ exec cf b ρ2 = .ok .nx ρ' ∧ I (j + 1) ρ') (he : ∀ ρ, I xs.length ρ → P ρ) : ∃ ρ', exec cf (.fors none t it b) ρ = .ok .nx ρ' ∧ P ρ' := by
  obtain ⟨ρ', e, h1⟩ := forL_inv (f := fun x ρ => match setT t x ρ with | some ρ2 => exec cf b ρ2 | none => .stk) I xs 0 ρ1 h0 fun j x ρ hx hI => by
    rw [Nat.zero_add] at hI ⊢
    obtain ⟨ρ2, ρ', e1, e2, h⟩ := hs j x ρ hx hI
    exact ⟨ρ', by simp only [e1, e2], h⟩
  rw [Nat.zero_add] at h1
  exact ⟨ρ', by rw [exec_fors h]; exact e, he ρ' h1⟩
theorem whileL_inv {c : Env → Rs Bool} {f : Env → Rs Fl} (I : Nat → Env → Prop) (P : Env → Prop)
    (hs : ∀ m ρ, I m ρ → (∃ ρ1, c ρ = .ok false ρ1 ∧ P ρ1) ∨ ∃ ρ1 ρ2 m', c ρ = .ok true ρ1 ∧ f ρ1 = .ok .nx ρ2 ∧ m' < m ∧ I m' ρ2) : ∀ (n m : Nat) (ρ : Env), m < n → I m ρ → ∃ ρ', whileL c f n ρ = .ok .nx ρ' ∧ P ρ'
  | 0, m, ρ, h, _ => absurd h (by omega)
  | n + 1, m, ρ, h, hi => by
    rcases hs m ρ hi with ⟨ρ1, e, p⟩ | ⟨ρ1, ρ2, m', e, e2, hm, hi2⟩
    · exact ⟨ρ1, by rw [whileL, e, bind_ok, if_neg Bool.false_ne_true], p⟩
    · obtain ⟨ρ3, e3, p⟩ := whileL_inv I P hs n m' ρ2 (by omega) hi2
      refine ⟨ρ3, ?_, p⟩
      rw [whileL, e, bind_ok, if_pos rfl, e2, bind_ok]
      exact e3
theorem exec_whl {cf : Cf} {c : Ex} {b : Sm} {ρ : Env} {P : Env → Prop} (h : ∃ ρ', whileL (evT cf c) (exec cf b) cf.fuel ρ = .ok .nx ρ' ∧ P ρ') : ∃ ρ', exec cf (.whl c b) ρ = .ok .nx ρ' ∧ P ρ' := h
def ocons (y : Option D) (ys : List D) : List D := match y with
  | some z => z :: ys
  | none => ys
theorem lclc {f : D → Env → Rs (Option D)} {x : D} {xs : List D} {ρ ρ1 ρ2 : Env} {y : Option D} {ys : List D} (h : f x ρ = .ok y ρ1) (h2 : lcL f xs ρ1 = .ok ys ρ2) : lcL f (x :: xs) ρ = .ok (ocons y ys) ρ2 := by
  simp only [lcL, h, bind_ok, h2]
  all_goals rfl
/-- a comprehension that keeps every item -/
theorem lcL_map {f : D → Env → Rs (Option D)} (g : Nat → D → D → Prop) (I : Env → Prop) : ∀ (xs : List D) (n : Nat) (ρ : Env), I ρ → (∀ i x ρ, xs[i]? = some x → I ρ → ∃ y ρ', f x ρ = .ok (some y) ρ' ∧ g (n + i) x y ∧ I ρ') → ∃ ys ρ', lcL f xs ρ = .ok ys ρ' ∧ ys.length = xs.length ∧ (∀ i x y, xs[i]? = some x → ys[i]? = some y → g (n + i) x y) ∧ I ρ'
  | [], n, ρ, h, _ => ⟨[], ρ, rfl, rfl, fun i x y e => by simp at e, h⟩
  | x :: xs, n, ρ, h, hs => by
    obtain ⟨y, ρ1, e, hg, h1⟩ := hs 0 x ρ rfl h
    obtain ⟨ys, ρ2, e2, hl, hg2, h2⟩ := lcL_map g I xs (n + 1) ρ1 h1 fun i z ρ hz hi => by
      have := hs (i + 1) z ρ (by simpa using hz) hi
      rw [show n + (i + 1) = n + 1 + i by omega] at this
      exact this
    refine ⟨y :: ys, ρ2, lclc (y := some y) e e2, by simp [hl], fun i a b ha hb => ?_, h2⟩
    cases i with
    | zero => simp at ha hb; subst ha hb; exact hg
    | succ i =>
      have := hg2 i a b (by simpa using ha) (by simpa using hb)
      rw [show n + (i + 1) = n + 1 + i by omega]
      exact this
/-- one turn of a comprehension -/
def lcF (cf : Cf) (k : Nat) (own : List Nat) (elt : Ex) (tg : Tg) (cnd : Ex) (x : D) (ρ : Env) : Rs (Option D) := match setT tg x ρ with
  | none => .stk
  | some ρ2 => (evT cf cnd ρ2).bind fun t ρ3 => if t then
      (ev cf elt ρ3).bind fun s ρ4 => if hasd k s then .ok (some s.1) (wp ρ4 own) else .stk
    else .ok none (wp ρ3 own)
theorem lcF_ok {cf : Cf} {k : Nat} {own : List Nat} {elt cnd : Ex} {tg : Tg} {x : D} {s : Sl} {ρ ρ2 ρ3 ρ4 : Env} (h1 : setT tg x ρ = some ρ2) (h2 : evT cf cnd ρ2 = .ok true ρ3) (h3 : ev cf elt ρ3 = .ok s ρ4) (h4 : hasd k s = true) : lcF cf k own elt tg cnd x ρ = .ok (some s.1) (wp ρ4 own) := by
  simp only [lcF, h1, h2, bind_ok, if_true, h3, h4]
theorem lcF_no {cf : Cf} {k : Nat} {own : List Nat} {elt cnd : Ex} {tg : Tg} {x : D} {ρ ρ2 ρ3 : Env} (h1 : setT tg x ρ = some ρ2) (h2 : evT cf cnd ρ2 = .ok false ρ3) : lcF cf k own elt tg cnd x ρ = .ok none (wp ρ3 own) := by
  simp only [lcF, h1, h2, bind_ok, Bool.false_eq_true, if_false]
theorem ev_lcx {cf : Cf} {k : Nat} {own : List Nat} {elt it cnd : Ex} {tg : Tg} {ρ ρ1 ρ5 : Env} {xs ys : List D} (hi : evI cf it ρ = .ok xs ρ1) (hl : lcL (lcF cf k own elt tg cnd) xs (wp ρ1 own) = .ok ys ρ5) (hn : ys.length ≤ sizeLine) : ev cf (.lc k own elt tg it cnd) ρ = .ok (.lst ys, k + 1) (rst ρ1 ρ5 own) := by
  rw [ev, hi, bind_ok]
  refine (congrArg (fun r => Rs.bind r _) hl).trans ?_
  rw [bind_ok, if_pos hn]
theorem selL0 {α : Type} {l : List α} : selL l [] = l := rfl
theorem truthD_b {b : Bool} : truthD (.bl b) = some b := rfl
theorem cmp_lt {i j : Int} : cmpD .Lt (.int i) (.int j) = some (decide (i < j)) := rfl
theorem cmp_gt {i j : Int} : cmpD .Gt (.int i) (.int j) = some (decide (j < i)) := rfl
theorem cmp_ge {i j : Int} : cmpD .GtE (.int i) (.int j) = some (decide (j ≤ i)) := rfl
theorem cmp_le {i j : Int} : cmpD .LtE (.int i) (.int j) = some (decide (i ≤ j)) := rfl
theorem cmp_eq {i j : Int} : cmpD .Eq (.int i) (.int j) = some (i == j) := rfl
theorem cmp_ne {i j : Int} : cmpD .NotEq (.int i) (.int j) = some (!(i == j)) := rfl
theorem eq_str (s : Str) : cmpD .Eq (.str s) (.str s) = some true := by
  simp [cmpD, eqD, scalD]
theorem ne_str (s : Str) : cmpD .NotEq (.str s) (.str s) = some false := by
  simp [cmpD, eqD, scalD]
theorem intB_i {i : Int} : bltD .int [.int i] = some (.int i) := rfl
theorem lenB_l {l : List D} : bltD .len [.lst l] = some (.int (l.length : Nat)) := rfl
theorem lenB_t {l : List D} : bltD .len [.tup l] = some (.int (l.length : Nat)) := rfl
theorem listB_t {l : List D} : bltD .list [.tup l] = some (.lst l) := rfl
theorem tupB_l {l : List D} : bltD .tuple [.lst l] = some (.tup l) := rfl
theorem maxB_i {i j : Int} : bltD .max [.int i, .int j] = some (.int (if j > i then j else i)) := rfl
theorem ixD_t {l : List D} {i : Int} : ixD (.tup l) (.int i) = atI l i := rfl
theorem fr_t {l : List D} : fr (.tup l) = (.tup l, 0) := rfl
theorem atI_nat {l : List D} {n : Nat} {d : D} (h : l[n]? = some d) : atI l (n : Int) = some d := by
  have hn := (List.getElem?_eq_some_iff.mp h).1
  unfold atI ixN
  rw [if_pos (by omega), if_pos (by omega)]
  exact h
theorem atI_end {l : List D} {d : D} (h : l[l.length - 1]? = some d) : atI l (-1) = some d := by
  have hn := (List.getElem?_eq_some_iff.mp h).1
  unfold atI ixN
  rw [if_neg (by decide), if_pos (by omega)]
  have : (-1 + (l.length : Int)).toNat = l.length - 1 := by omega
  rw [this]; exact h
theorem setD_l {l : List D} {n m : Nat} {v : Sl} (hm : m < l.length) (hv : hasd (n - 1) v = true) : setD (.lst l) n (.int (m : Int)) v = some (.lst (l.set m v.1)) := by
  have : ixN l.length (m : Int) = some m := by
    unfold ixN
    rw [if_pos (by omega), if_pos (by omega)]; rfl
  simp only [setD, this, hv, if_true]
theorem set_map {l : List Int} {m : Nat} {x : Int} : (l.map D.int).set m (.int x) = (l.set m x).map D.int := (List.map_set (f := D.int)).symm
theorem get_map {l : List Int} {n : Nat} (h : n < l.length) : (l.map D.int)[n]? = some (.int (l.getD n 0)) := by
  rw [List.getElem?_map, List.getElem?_eq_getElem h, List.getD_eq_getElem?_getD, List.getElem?_eq_getElem h]; rfl
theorem cut_pre {l : List D} {n : Nat} (h : n ≤ l.length) : cutD l none (some (n : Int)) = l.take n := by
  unfold cutD
  have e1 : HT.sIx l.length 0 none = 0 := rfl
  have e2 : HT.sIx l.length l.length (some (n : Int)) = n := by
    unfold HT.sIx
    simp only []
    split <;> omega
  rw [e1, e2]; simp
theorem enumD_at {l : List Int} {j : Nat} {x : D} (h : (enumD (l.map .int))[j]? = some x) : j < l.length ∧ x = .tup [.int (j : Nat), .int (l.getD j 0)] := by
  obtain ⟨y, hy, rfl⟩ := enum_at h
  have hj : j < l.length := by have := (List.getElem?_eq_some_iff.mp hy).1; simpa using this
  rw [get_map hj] at hy
  cases hy
  exact ⟨hj, rfl⟩
theorem rep0 {n : Nat} : (List.replicate n [D.int 0]).flatten = (List.replicate n (0 : Int)).map D.int := by
  induction n with
  | zero => rfl
  | succ n ih => rw [List.replicate_succ, List.flatten_cons, ih, List.replicate_succ]; rfl
theorem mulD_rep {k : Int} {n : Nat} (hk : k = (n : Int)) (h : n ≤ 1000) : mulD (.lst [.int 0]) (.int k) = some (.lst ((List.replicate n (0 : Int)).map D.int)) := by
  subst hk
  simp only [mulD]
  have hs : (1000 : Nat) ≤ sizeLine := by decide
  rw [if_pos (by simp only [Bool.and_eq_true, decide_eq_true_eq, List.length_cons, List.length_nil, Int.toNat_natCast]; omega), Int.toNat_natCast, rep0]
theorem toPy_ints (f : List Int) : toPy (.tup (f.map .int)) = some (.tuple (f.map .int)) := by simp [toPy, ints_toPy]
theorem eqD_nilT (ns : List Int) : eqD (.tup (ns.map .int)) (.tup []) = some ns.isEmpty := by
  have h1 := toPy_ints ns
  have h2 : toPy (.tup []) = some (.tuple []) := by simp [toPy, toPyL]
  have h3 : SeqAt.shaped (.tuple (ns.map .int)) = true := by simp [SeqAt.shaped, PyData.canLay0, canLay_ints, PyData.depth, depth_ints]
  have h4 : SeqAt.shaped (.tuple []) = true := by simp [SeqAt.shaped, PyData.canLay0, PyData.canLayAll0, PyData.depth, PyData.depthAll]
  unfold eqD
  simp only [scalD, h1, h2, h3, h4, Bool.and_self, if_true]
  cases ns <;> simp [PyData.eqv, PyData.eqvAll]
theorem bitN {l : Nat} : andD (.int (l : Int)) (.int 1) = some (.int ((l % 2 : Nat) : Int)) := by
  show some (D.int (Builtin.bitAnd (l : Int) 1)) = _
  rw [PyProof.Rows.bitAnd_m1, Int.natCast_emod]; rfl
theorem shrN {l : Nat} : shrD (.int (l : Int)) (.int 1) = some (.int ((l / 2 : Nat) : Int)) := by
  show (if (0 : Int) ≤ 1 then some (D.int ((l : Int) / 2 ^ (1 : Int).toNat)) else none) = _
  rw [if_pos (by decide), Int.natCast_ediv]; rfl
theorem mulOk_small {a b : Int} (ha : a.natAbs < 2 ^ 64) : mulOk a b = true := by
  simp only [mulOk, Bool.or_eq_true, decide_eq_true_eq]
  exact .inl (.inl ha)
theorem ev_op2 {cf : Cf} {o : Operator} {a b : Ex} {ρ ρ1 ρ2 : Env} {x y d : D} {n m : Nat} (h1 : ev cf a ρ = .ok (x, n) ρ1) (h2 : ev cf b ρ1 = .ok (y, m) ρ2) (h3 : op2D o x y = some d) : ev cf (.op2 o a b) ρ = .ok (fr d) ρ2 := by
  rw [ev, h1, bind_ok, h2, bind_ok, h3, of_some, bind_ok]
theorem z1 : decide (1 ≤ sizeLine) = true := by decide
theorem ev_l0 {cf : Cf} {ρ : Env} : ev cf (.lst 0 (.cons (.int 0) .nil)) ρ = .ok (.lst [.int 0], 1) ρ := by
  simp only [ev, evA, bind_ok, of_some, valsA, Option.map_some, List.all_cons, List.all_nil, hasd_0, Bool.and_self, List.length_cons, List.length_nil, Nat.zero_add, z1, if_true, demL, List.map_cons, List.map_nil]
/-- [0] * n -/
theorem ev_rep {cf : Cf} {b : Ex} {ρ ρ2 : Env} {i : Int} {m n : Nat} (h : ev cf b ρ = .ok (.int i, m) ρ2) (hi : i = (n : Int)) (hn : n ≤ 1000) : ev cf (.op2 .Mult (.lst 0 (.cons (.int 0) .nil)) b) ρ = .ok (.lst ((List.replicate n (0 : Int)).map D.int), 1) ρ2 :=
  ev_op2 ev_l0 h (mulD_rep hi hn)
theorem lcl_fun {α : Type} {f : D → Env → Rs (Option D)} (h g : α → D) (I : Env → Prop) : ∀ (xs : List α) (ρ : Env), I ρ → (∀ x ∈ xs, ∀ ρ, I ρ → ∃ ρ', f (h x) ρ = .ok (some (g x)) ρ' ∧ I ρ') → ∃ ρ', lcL f (xs.map h) ρ = .ok (xs.map g) ρ' ∧ I ρ'
  | [], ρ, i, _ => ⟨ρ, rfl, i⟩
  | x :: xs, ρ, i, hs => by
    obtain ⟨ρ1, e, i1⟩ := hs x (List.mem_cons_self ..) ρ i
    obtain ⟨ρ2, e2, i2⟩ := lcl_fun h g I xs ρ1 i1 fun y hy => hs y (List.mem_cons_of_mem _ hy)
    exact ⟨ρ2, lclc (y := some (g x)) e e2, i2⟩
theorem len_size {n : Nat} (h : n ≤ 1000) : n ≤ sizeLine := Nat.le_trans h (by decide)
theorem augD_add {i j : Int} : augD .Add (.int i) (.int j) = some (.int (i + j)) := rfl
theorem ev_q {cf : Cf} {e : Ex} {ρ ρ1 : Env} {d : D} {n : Nat} (h : ev cf e ρ = .ok (d, n) ρ1) (hz : nofz n d = true) : ev cf (.q e) ρ = .ok (d, n) ρ := by
  rw [ev, h, bind_ok, if_pos hz]
theorem ev_call1 {cf : Cf} {f : Str} {a : Ex} {ρ ρ1 : Env} {x v : Sl} {o : List (Option Sl)} (ha : (∀ i, a ≠ .lend i)) (h : ev cf a ρ = .ok x ρ1) (hc : cf.call f [x] = .ok v o) : ev cf (.call f (.cons a .nil) [] []) ρ = .ok v ρ1 := by
  have he : evA cf (.cons a .nil) ρ = .ok [.val x] ρ1 := by
    cases a <;> first | exact absurd rfl (ha _) | simp only [evA, h, bind_ok]
  simp only [ev, he, bind_ok, resolveA, List.all_nil, if_true, selL0, hc, backsTo]
theorem lcl_filter {α : Type} {f : D → Env → Rs (Option D)} (h : α → D) (P : α → Bool) (g : α → D) (I : Env → Prop) : ∀ (xs : List α) (ρ : Env), I ρ → (∀ x ∈ xs, ∀ ρ, I ρ → ∃ ρ', f (h x) ρ = .ok (if P x then some (g x) else none) ρ' ∧ I ρ') → ∃ ρ', lcL f (xs.map h) ρ = .ok ((xs.filter P).map g) ρ' ∧ I ρ'
  | [], ρ, i, _ => ⟨ρ, rfl, i⟩
  | x :: xs, ρ, i, hs => by
    obtain ⟨ρ1, e, i1⟩ := hs x (List.mem_cons_self ..) ρ i
    obtain ⟨ρ2, e2, i2⟩ := lcl_filter h P g I xs ρ1 i1 fun y hy => hs y (List.mem_cons_of_mem _ hy)
    refine ⟨ρ2, ?_, i2⟩
    rw [List.map_cons, lclc e e2, List.filter_cons]
    cases P x <;> rfl
theorem rngI {i j : Int} (h1 : -(2 ^ 62) ≤ i) (h2 : i < 2 ^ 62) (h3 : -(2 ^ 62) ≤ j) (h4 : j < 2 ^ 62) : rngD (.int i) (.int j) = some ((List.range (j - i).toNat).map fun k => D.int (i + (k : Nat))) := by
  simp only [rngD]
  rw [if_pos (by simp only [Bool.and_eq_true, decide_eq_true_eq]; exact ⟨⟨⟨h1, h2⟩, h3⟩, h4⟩)]
theorem rngZ {n : Nat} (h : n < 2 ^ 30) : rngD (.int 0) (.int (n : Int)) = some ((List.range n).map fun (k : Nat) => D.int (k : Int)) := by
  rw [rngI (by decide) (by decide) (by omega) (by omega)]
  congr 1
  have : ((n : Int) - 0).toNat = n := by omega
  rw [this]
  apply List.map_congr_left
  intro a _
  congr 1; omega
theorem rngC {i j : Int} (h1 : -(2 ^ 62) ≤ i) (h2 : i < 2 ^ 62) (h3 : -(2 ^ 62) ≤ j) (h4 : j < 2 ^ 62) : rng3D (.int i) (.int j) (.int (-1)) = some ((List.range (i - j).toNat).map fun k => D.int (i + (k : Nat) * (-1))) := by
  obtain ⟨a, b, c, d⟩ := RgC.neg h1 h2 h3 h4
  simp only [rng3D]
  rw [d, c, if_pos (by simp only [Bool.and_eq_true, decide_eq_true_eq]; exact ⟨⟨⟨a, b⟩, trivial⟩, by omega⟩), Int.toNat_natCast]
theorem cut_to {l : List D} {n : Nat} : cutD l none (some (n : Int)) = l.take n := by
  by_cases h : n ≤ l.length
  · exact cut_pre h
  · unfold cutD
    have e1 : HT.sIx l.length 0 none = 0 := rfl
    have e2 : HT.sIx l.length l.length (some (n : Int)) = l.length := by
      unfold HT.sIx
      simp only []
      split <;> omega
    rw [e1, e2, List.take_of_length_le (i := n) (by omega)]; simp
theorem ev_ix {cf : Cf} {a b : Ex} {ρ ρ1 ρ2 : Env} {x y d : D} {n m : Nat} (h1 : ev cf a ρ = .ok (x, n) ρ1) (h2 : ev cf b ρ1 = .ok (y, m) ρ2) (h3 : ixD x y = some d) : ev cf (.ix a b) ρ = .ok (d, 0) ρ2 := by
  rw [ev, h1, bind_ok, h2, bind_ok, h3, of_some, bind_ok]
theorem ix_0 {l : List D} {d : D} : ixD (.lst (d :: l)) (.int 0) = some d := atI_nat (n := 0) rfl
theorem ix_t0 {l : List D} {d : D} : ixD (.tup (d :: l)) (.int 0) = some d := atI_nat (n := 0) rfl
theorem ix_t1 {l : List D} {c d : D} : ixD (.tup (c :: d :: l)) (.int 1) = some d := atI_nat (n := 1) rfl
end Pi
/-! Pi28: texts of small values -/
namespace Pi
open PySem L2
theorem int_len {x : Int} (h : x.natAbs < 1000) : (PyData.int x).shown.length ≤ 4 := by
  have := int_text_length_le10 (a := x) (k := 3) (by decide) (by simpa using h)
  show (Str.ofString (toString x)).length ≤ 4
  rw [ofString_length]; exact this
theorem piled_ints : ∀ f : List Int, (∀ x ∈ f, x.natAbs < 1000) → piled (PyData.shownAll (f.map .int)) ≤ 6 * f.length
  | [], _ => by simp [PyData.shownAll, piled]
  | x :: f, h => by
    have h1 := int_len (h x (List.mem_cons_self ..))
    have h2 := piled_ints f fun y hy => h y (List.mem_cons_of_mem _ hy)
    simp only [List.map_cons, PyData.shownAll, piled_cons, List.length_cons]
    omega
theorem tupleText_le (ts : List Str) : (tupleText ts).length ≤ piled ts + 3 := by
  unfold tupleText
  rw [strLen_append, strLen_append]
  have e1 : (("(" : Str)).length = 1 := rfl
  have e2 : ((if ts.length == 1 then ",)" else ")" : String) : Str).length ≤ 2 := by split <;> decide
  cases ts with
  | nil => 
    have : (Str.join ", " ([] : List Str)).length = 0 := rfl
    omega
  | cons t ts =>
    have := join_length_add (t :: ts) (by simp)
    omega
theorem tup_len {f : List Int} (h : ∀ x ∈ f, x.natAbs < 1000) : (PyData.tuple (f.map .int)).shown.length ≤ 6 * f.length + 3 := by
  have := tupleText_le (PyData.shownAll (f.map .int))
  have := piled_ints f h
  show (tupleText _).length ≤ _
  omega
theorem showable_ints : ∀ f : List Int, (∀ x ∈ f, x.natAbs < 1000) → PyData.showableAll (f.map .int) = true
  | [], _ => rfl
  | x :: f, h => by
    have h1 := h x (List.mem_cons_self ..)
    have h2 : x.natAbs.log2 < 1920 := by
      by_cases h0 : x.natAbs = 0
      · rw [h0]; decide
      · exact (Nat.log2_lt h0).mpr (Nat.lt_of_lt_of_le h1 (by
          have : 1000 ≤ 2 ^ 10 := by decide
          exact Nat.le_trans this (Nat.pow_le_pow_right (by decide) (by decide))))
    simp only [List.map_cons, PyData.showableAll, PyData.showable, decide_eq_true h2, showable_ints f fun y hy => h y (List.mem_cons_of_mem _ hy), Bool.and_self]
theorem noDict_ints : ∀ f : List Int, PyData.hasDictAll (f.map .int) = false
  | [] => rfl
  | x :: f => by simp [PyData.hasDictAll, PyData.hasDict, noDict_ints f]
theorem repr_tup {f : List Int} (h : ∀ x ∈ f, x.natAbs < 1000) (hl : f.length ≤ 1000) : ∃ s, bltD .repr [.tup (f.map .int)] = some (.str s) := by
  refine ⟨(PyData.tuple (f.map .int)).shown, ?_⟩
  show (reprD (.tup (f.map .int))).map D.str = _
  have h1 := tup_len h
  have h2 : 7000 ≤ sizeLine := by decide
  have h3 : (PyData.tuple (f.map .int)).shown.length ≤ sizeLine := by omega
  have h4 : (PyData.tuple (f.map .int)).depth ≤ 60 := by simp [PyData.depth, depth_ints]
  simp only [reprD, toPy_ints, PyData.showable, showable_ints f h, decide_eq_true h3, decide_eq_true h4, PyData.hasDict, noDict_ints, Bool.and_self, Bool.not_false, Bool.true_or, if_true, Option.map_some]
theorem list2_le (s : Str) : (listText [s, s]).length ≤ 2 * s.length + 4 := by
  unfold listText
  rw [strLen_append]
  simp only [textFrom, strLen_append]
  have e1 : (("[" : String) : Str).length = 1 := rfl
  have e2 : (("]" : String) : Str).length = 1 := rfl
  have e3 : ((", " : String) : Str).length = 2 := rfl
  have e4 : (("" : String) : Str).length = 0 := rfl
  simp [strLen_append, e1, e2, e3, e4]
  omega
theorem repr_two {f : List Int} (h : ∀ x ∈ f, x.natAbs < 1000) (hl : f.length ≤ 1000) : ∃ s, bltD .repr [.lst [.tup (f.map .int), .tup (f.map .int)]] = some (.str s) := by
  refine ⟨(PyData.list [.tuple (f.map .int), .tuple (f.map .int)]).shown, ?_⟩
  show (reprD (.lst [.tup (f.map .int), .tup (f.map .int)])).map D.str = _
  have h1 := tup_len h
  have h2 : 14000 ≤ sizeLine := by decide
  have h3 : (PyData.list [.tuple (f.map .int), .tuple (f.map .int)]).shown.length ≤ sizeLine := by
    have := list2_le (PyData.tuple (f.map .int)).shown
    simp only [PyData.shown, PyData.shownAll] at this h1 ⊢
    omega
  have h4 : (PyData.list [.tuple (f.map .int), .tuple (f.map .int)]).depth ≤ 60 := by simp [PyData.depth, PyData.depthAll, depth_ints]
  have h5 : toPy (.lst [.tup (f.map .int), .tup (f.map .int)]) = some (.list [.tuple (f.map .int), .tuple (f.map .int)]) := by simp only [toPy, toPyL, ints_toPy, Option.map_some]
  simp only [reprD, h5, PyData.showable, PyData.showableAll, showable_ints f h, decide_eq_true h3, decide_eq_true h4, PyData.hasDict, PyData.hasDictAll, noDict_ints, Bool.or_false, Bool.and_self, Bool.not_false, Bool.true_or, if_true, Option.map_some]
theorem list2_lt (s t : Str) : (listText [s, t]).length ≤ s.length + t.length + 4 := by
  unfold listText
  rw [strLen_append]
  simp only [textFrom, strLen_append]
  have e1 : (("[" : String) : Str).length = 1 := rfl
  have e2 : (("]" : String) : Str).length = 1 := rfl
  have e3 : ((", " : String) : Str).length = 2 := rfl
  have e4 : (("" : String) : Str).length = 0 := rfl
  simp [strLen_append, e1, e2, e3, e4]
  omega
theorem repr_i2 {a b : Int} (h1 : a.natAbs < 1000) (h2 : b.natAbs < 1000) : ∃ s, bltD .repr [.lst [.int a, .int b]] = some (.str s) := by
  refine ⟨(PyData.list [.int a, .int b]).shown, ?_⟩
  show (reprD (.lst [.int a, .int b])).map D.str = _
  have ha := int_len h1
  have hb := int_len h2
  have hz : 100 ≤ sizeLine := by decide
  have h3 : (PyData.list [.int a, .int b]).shown.length ≤ sizeLine := by
    have := list2_lt (PyData.int a).shown (PyData.int b).shown
    simp only [PyData.shown, PyData.shownAll] at this ha hb ⊢
    omega
  have h4 : (PyData.list [.int a, .int b]).depth ≤ 60 := by simp [PyData.depth, PyData.depthAll]
  have h5 : toPy (.lst [.int a, .int b]) = some (.list [.int a, .int b]) := by simp only [toPy, toPyL, Option.map_some]
  have hs := showable_ints [a, b] (fun x hx => by
    rcases List.mem_cons.mp hx with e | e
    · subst e; exact h1
    · rw [List.mem_singleton.mp e]; exact h2)
  have hs2 : PyData.showableAll [.int a, .int b] = true := hs
  simp only [reprD, h5, PyData.showable, hs2, decide_eq_true h3, decide_eq_true h4, PyData.hasDict, PyData.hasDictAll, Bool.or_false, Bool.and_self, Bool.not_false, Bool.true_or, if_true, Option.map_some]
end Pi
namespace Pi.K17
open PySem L2 PySem.Spec PyProof.Rows
set_option maxHeartbeats 4000000
def top (i : Nat) : Stmt := PySem.Challenge.pw_craterbeat_k17_traces_by_remainders.main.body.getD i (.Pass ⟨0, 0, 0, 0⟩)
/-- 0 thing -/
def d_is_integer : Df := ⟨1, 1, [], (.ret (.and (.isin (.var 0) .int) (.not (.isin (.var 0) .bool))))⟩
def e_is_integer : Ent := ⟨"is_integer", d_is_integer, ["thing"], ["thing"], top 7⟩
/-- 0 thing, 1 divisor -/
def d_is_prime : Df := ⟨1, 2, [], (.seq (.ifs (.tor (.tnot (.tval (.call "is_integer" (.cons (.var 0) .nil) [] []))) (.tor (.tcmp .Lt (.var 0) (.con 1)) (.tcmp .Gt (.var 0) (.con 0))))
    (.ret (.bl false))
    .skip)
    (.seq (.fors none (.nm 1) (.ival (.tup 0 (.cons (.int 2) (.cons (.int 3) (.cons (.int 5) (.cons (.int 7) (.cons (.int 11) (.cons (.int 13) .nil))))))))
    (.ifs (.tand (.tcmp .Eq (.op2 .Mod (.var 0) (.var 1)) (.int 0)) (.tcmp .NotEq (.var 0) (.var 1)))
    (.ret (.bl false))
    .skip))
    (.ret (.bl true))))⟩
def e_is_prime : Ent := ⟨"is_prime", d_is_prime, ["thing", "divisor"], ["thing"], top 8⟩
/-- 0 prime, 1 thing -/
def d_is_number : Df := ⟨2, 2, [], (.ret (.and (.call "is_integer" (.cons (.var 1) .nil) [] []) (.chain .LtE .Lt (.int 0) (.var 1) (.var 0))))⟩
def e_is_number : Ent := ⟨"is_number", d_is_number, ["prime", "thing"], ["prime", "thing"], top 9⟩
/-- 0 prime, 1 table, 2 number, 3 root -/
def d_square_table : Df := ⟨1, 4, [], (.seq (.asg (.nm 1) (.lc 0 [2] (.neg (.int 1)) (.nm 2) (.irng1 (.var 0)) .tyes))
    (.seq (.fors none (.nm 3) (.irng1 (.var 0))
    (.setix 1 (.op2 .Mod (.op2 .Mult (.var 3) (.var 3)) (.var 0)) (.int 1)))
    (.seq (.setix 1 (.int 0) (.int 0))
    (.ret (.mv 1)))))⟩
def e_square_table : Ent := ⟨"square_table", d_square_table, ["prime", "table", "number", "root"], ["prime"], top 13⟩
/-- 0 prime, 1 a, 2 b, 3 table, 4 x -/
def d_trace_by_table : Df := ⟨4, 5, [], (.ret (.neg (.blt .sum (.cons (.lc 0 [4] (.ix (.var 3) (.op2 .Mod (.op2 .Add (.op2 .Add (.op2 .Mult (.op2 .Mult (.var 4) (.var 4)) (.var 4)) (.op2 .Mult (.var 1) (.var 4))) (.var 2)) (.var 0))) (.nm 4) (.irng1 (.var 0)) .tyes) .nil))))⟩
def e_trace_by_table : Ent := ⟨"trace_by_table", d_trace_by_table, ["prime", "a", "b", "table", "x"], ["prime", "a", "b", "table"], top 14⟩
/-- 0 curve -/
def d_trace : Df := ⟨1, 1, [], (.ret (.call "trace_by_table" (.cons (.fld (.var 0) "prime") (.cons (.fld (.var 0) "a") (.cons (.fld (.var 0) "b") (.cons (.call "square_table" (.cons (.fld (.var 0) "prime") .nil) [] []) .nil)))) [] []))⟩
def e_trace : Ent := ⟨"trace", d_trace, ["curve"], ["curve"], top 15⟩
/-- 0 prime, 1 thing -/
def d_is_trace : Df := ⟨2, 2, [], (.ret (.and (.call "is_integer" (.cons (.var 1) .nil) [] []) (.cmp .Lt (.op2 .Mult (.var 1) (.var 1)) (.op2 .Mult (.int 4) (.var 0)))))⟩
def e_is_trace : Ent := ⟨"is_trace", d_is_trace, ["prime", "thing"], ["prime", "thing"], top 16⟩
/-- 0 prime, 1 one -/
def d_all_traces : Df := ⟨1, 2, [], (.ret (.lc 0 [1] (.var 1) (.nm 1) (.irng2 (.neg (.var 0)) (.op2 .Add (.var 0) (.int 1))) (.tval (.call "is_trace" (.cons (.var 0) (.cons (.var 1) .nil)) [] []))))⟩
def e_all_traces : Ent := ⟨"all_traces", d_all_traces, ["prime", "one"], ["prime"], top 17⟩
/-- 0 curve, 1 l -/
def d_trace_remainder : Df := ⟨2, 2, [], (.ret (.op2 .Mod (.call "trace" (.cons (.var 0) .nil) [] []) (.var 1)))⟩
def e_trace_remainder : Ent := ⟨"trace_remainder", d_trace_remainder, ["curve", "l"], ["curve", "l"], top 18⟩
/-- 0 prime, 1 remainders, 2 one, 3 l, 4 rest -/
def d_traces_fitting : Df := ⟨2, 5, [], (.ret (.blt .tuple (.cons (.lc 0 [2] (.var 2) (.nm 2) (.ival (.call "all_traces" (.cons (.var 0) .nil) [] [])) (.tval (.blt .all (.cons (.lc 0 [3, 4] (.cmp .Eq (.op2 .Mod (.var 2) (.var 3)) (.var 4)) (.tp [3, 4]) (.ival (.var 1)) .tyes) .nil)))) .nil)))⟩
def e_traces_fitting : Ent := ⟨"traces_fitting", d_traces_fitting, ["prime", "remainders", "one", "l", "rest"], ["prime", "remainders"], top 19⟩
/-- 0 script, 1 cells, 2 mixed, 3 cell -/
def d__law_deck : Df := ⟨1, 4, [], (.seq (.par [1, 2] (.cons (.lc 0 [3] (.blt .int (.cons (.var 3) .nil)) (.nm 3) (.ival (.sl (.var 0) .nil (.ival (.int 63)))) .tyes) (.cons (.int 10876017) .nil)))
    (.seq (.fors none (.nm 3) (.ival (.var 1))
    (.asg (.nm 2) (.op2 .Mod (.blt .int (.cons (.op2 .Add (.op2 .Add (.op2 .Mult (.var 2) (.int 48271)) (.op2 .Mod (.blt .int (.cons (.var 3) .nil)) (.int 2147483563))) (.int 17)) .nil)) (.int 2147483647))))
    (.ret (.dict 1 (.cons (.str "cells") (.cons (.rev (.var 1)) (.cons (.str "mixed") (.cons (.var 2) (.cons (.str "turn") (.cons (.int 0) .nil))))))))))⟩
def e__law_deck : Ent := ⟨"_law_deck", d__law_deck, ["script", "cells", "mixed", "cell"], ["script"], top 21⟩
/-- 0 deck, 1 below, 2 cell -/
def d__law_draw : Df := ⟨2, 3, [0], (.seq (.setix 0 (.str "turn") (.q (.op2 .Add (.ix (.var 0) (.str "turn")) (.int 1))))
    (.seq (.ifs (.tq (.tcmp .NotEq (.ix (.var 0) (.str "cells")) (.lst 0 .nil)))
    (.seq (.asg (.nm 2) (.mutk .pop 0 "cells" .nil))
    (.seq (.ifs (.tcmp .GtE (.var 2) (.op2 .Pow (.int 10) (.int 18)))
    (.seq (.expr (.mutk .append 0 "cells" (.cons (.op2 .FloorDiv (.var 2) (.blt .max (.cons (.int 2) (.cons (.var 1) .nil)))) .nil)))
    (.ret (.op2 .Mod (.blt .int (.cons (.var 2) .nil)) (.var 1))))
    .skip)
    (.setix 0 (.str "mixed") (.q (.op2 .Mod (.blt .int (.cons (.op2 .Add (.ix (.var 0) (.str "mixed")) (.var 2)) .nil)) (.int 2147483647))))))
    .skip)
    (.seq (.setix 0 (.str "mixed") (.q (.op2 .Mod (.blt .int (.cons (.op2 .Add (.op2 .Add (.op2 .Mult (.ix (.var 0) (.str "mixed")) (.int 48271)) (.op2 .Mult (.ix (.var 0) (.str "turn")) (.int 69621))) (.int 1)) .nil)) (.int 2147483647))))
    (.ret (.q (.op2 .Mod (.op2 .FloorDiv (.op2 .Mod (.blt .int (.cons (.op2 .Mult (.ix (.var 0) (.str "mixed")) (.ix (.var 0) (.str "mixed"))) .nil)) (.int 2147483629)) (.int 64)) (.var 1)))))))⟩
def e__law_draw : Ent := ⟨"_law_draw", d__law_draw, ["deck", "below", "cell"], ["deck", "below"], top 22⟩
/-- 0 deck, 1 some -/
def d__law_pick : Df := ⟨2, 2, [0], (.ret (.ix (.var 1) (.call "_law_draw" (.cons (.lend 0) (.cons (.blt .len (.cons (.var 1) .nil)) .nil)) [] [(0, 0)])))⟩
def e__law_pick : Ent := ⟨"_law_pick", d__law_pick, ["deck", "some"], ["deck", "some"], top 23⟩
/-- 0 deck -/
def d__law_prime : Df := ⟨1, 1, [0], (.seq (.ifs (.tcmp .Eq (.call "_law_draw" (.cons (.lend 0) (.cons (.int 5) .nil)) [] [(0, 0)]) (.int 4))
    (.ret (.call "_law_pick" (.cons (.lend 0) (.cons (.tup 0 (.cons (.int 61) (.cons (.int 67) (.cons (.int 71) (.cons (.int 73) (.cons (.int 79) (.cons (.int 83) (.cons (.int 89) (.cons (.int 97) (.cons (.int 101) (.cons (.int 103) (.cons (.int 107) (.cons (.int 109) (.cons (.int 113) (.cons (.int 127) (.cons (.int 131) (.cons (.int 137) (.cons (.int 139) (.cons (.int 149) (.cons (.int 151) (.cons (.int 157) (.cons (.int 163) (.cons (.int 167) (.cons (.int 173) (.cons (.int 179) (.cons (.int 181) (.cons (.int 191) (.cons (.int 193) (.cons (.int 197) (.cons (.int 199) .nil)))))))))))))))))))))))))))))) .nil)) [] [(0, 0)]))
    .skip)
    (.ret (.call "_law_pick" (.cons (.lend 0) (.cons (.tup 0 (.cons (.int 7) (.cons (.int 11) (.cons (.int 13) (.cons (.int 17) (.cons (.int 19) (.cons (.int 23) (.cons (.int 29) (.cons (.int 31) (.cons (.int 37) (.cons (.int 41) (.cons (.int 43) (.cons (.int 47) (.cons (.int 53) (.cons (.int 59) .nil))))))))))))))) .nil)) [] [(0, 0)])))⟩
def e__law_prime : Ent := ⟨"_law_prime", d__law_prime, ["deck"], ["deck"], top 24⟩
/-- 0 deck, 1 p, 2 way, 3 a, 4 b, 5 turn -/
def d__law_curve : Df := ⟨2, 6, [0], (.seq (.par [2, 3, 4] (.cons (.call "_law_draw" (.cons (.lend 0) (.cons (.int 6) .nil)) [] [(0, 0)]) (.cons (.call "_law_draw" (.cons (.lend 0) (.cons (.var 1) .nil)) [] [(0, 0)]) (.cons (.call "_law_draw" (.cons (.lend 0) (.cons (.var 1) .nil)) [] [(0, 0)]) .nil))))
    (.seq (.ifs (.tcmp .Eq (.var 2) (.int 0))
    (.asg (.nm 3) (.int 0))
    (.ifs (.tcmp .Eq (.var 2) (.int 1))
    (.asg (.nm 4) (.int 0))
    (.ifs (.tcmp .Lt (.var 2) (.int 4))
    (.par [3, 4] (.cons (.op2 .Mod (.op2 .Sub (.op2 .Mult (.var 3) (.var 4)) (.op2 .Mult (.op2 .Add (.var 3) (.var 4)) (.op2 .Add (.var 3) (.var 4)))) (.var 1)) (.cons (.op2 .Mod (.blt .int (.cons (.op2 .Mult (.op2 .Mult (.var 3) (.var 4)) (.op2 .Add (.var 3) (.var 4))) .nil)) (.var 1)) .nil)))
    .skip)))
    (.seq (.fors none (.nm 5) (.irng1 (.int 3))
    (.ifs (.tcmp .Eq (.op2 .Mod (.blt .int (.cons (.op2 .Add (.op2 .Mult (.op2 .Mult (.op2 .Mult (.int 4) (.var 3)) (.var 3)) (.var 3)) (.op2 .Mult (.op2 .Mult (.int 27) (.var 4)) (.var 4))) .nil)) (.var 1)) (.int 0))
    (.asg (.nm 4) (.op2 .Mod (.blt .int (.cons (.op2 .Add (.var 4) (.int 1)) .nil)) (.var 1)))
    .skip))
    (.ret (.tup 0 (.cons (.var 3) (.cons (.var 4) .nil)))))))⟩
def e__law_curve : Ent := ⟨"_law_curve", d__law_curve, ["deck", "p", "way", "a", "b", "turn"], ["deck", "p"], top 25⟩
/-- 0 p, 1 a, 2 b, 3 roots, 4 y, 5 x -/
def d__law_count : Df := ⟨3, 6, [], (.seq (.asg (.nm 3) (.op2 .Mult (.lst 0 (.cons (.int 0) .nil)) (.var 0)))
    (.seq (.fors none (.nm 4) (.irng1 (.var 0))
    (.setix 3 (.op2 .Mod (.blt .int (.cons (.op2 .Mult (.var 4) (.var 4)) .nil)) (.var 0)) (.q (.op2 .Add (.ix (.var 3) (.op2 .Mod (.blt .int (.cons (.op2 .Mult (.var 4) (.var 4)) .nil)) (.var 0))) (.int 1)))))
    (.ret (.q (.op2 .Add (.int 1) (.blt .sum (.cons (.lc 0 [5] (.ix (.var 3) (.op2 .Mod (.blt .int (.cons (.op2 .Add (.op2 .Add (.op2 .Mult (.op2 .Mult (.var 5) (.var 5)) (.var 5)) (.op2 .Mult (.var 1) (.var 5))) (.var 2)) .nil)) (.var 0))) (.nm 5) (.irng1 (.var 0)) .tyes) .nil)))))))⟩
def e__law_count : Ent := ⟨"_law_count", d__law_count, ["p", "a", "b", "roots", "y", "x"], ["p", "a", "b"], top 26⟩
/-- 0 p, 1 t -/
def d__law_traces : Df := ⟨1, 2, [], (.ret (.lc 0 [1] (.var 1) (.nm 1) (.irng2 (.op2 .Sub (.int 0) (.var 0)) (.op2 .Add (.var 0) (.int 1))) (.tcmp .Lt (.op2 .Mult (.var 1) (.var 1)) (.op2 .Mult (.int 4) (.var 0)))))⟩
def e__law_traces : Ent := ⟨"_law_traces", d__law_traces, ["p", "t"], ["p"], top 27⟩
/-- 0 p, 1 pairs, 2 found, 3 t, 4 l, 5 rest -/
def d__law_fitting : Df := ⟨2, 6, [], (.seq (.asg (.nm 2) (.lst 0 .nil))
    (.seq (.fors none (.nm 3) (.ival (.call "_law_traces" (.cons (.var 0) .nil) [] []))
    (.ifs (.tcmp .Eq (.lc 0 [4, 5] (.int 1) (.tp [4, 5]) (.ival (.var 1)) (.tcmp .NotEq (.op2 .Mod (.blt .int (.cons (.var 3) .nil)) (.var 4)) (.var 5))) (.lst 0 .nil))
    (.expr (.mutv .append 2 (.cons (.var 3) .nil)))
    .skip))
    (.ret (.q (.blt .tuple (.cons (.var 2) .nil))))))⟩
def e__law_fitting : Ent := ⟨"_law_fitting", d__law_fitting, ["p", "pairs", "found", "t", "l", "rest"], ["p", "pairs"], top 28⟩
/-- 0 script, 1 deck, 2 p, 3 a, 4 b, 5 curve, 6 t, 7 own, 8 l, 9 told, 10 turn, 11 left, 12 pairs, 13 more, 14 due -/
def d_law : Df := ⟨1, 15, [], (.seq (.asg (.nm 1) (.call "_law_deck" (.cons (.var 0) .nil) [] []))
    (.seq (.asg (.nm 2) (.call "_law_prime" (.cons (.lend 1) .nil) [] [(1, 0)]))
    (.seq (.asg (.tp [3, 4]) (.call "_law_curve" (.cons (.lend 1) (.cons (.var 2) .nil)) [] [(1, 0)]))
    (.seq (.par [5, 6] (.cons (.call "Curve" (.cons (.var 2) (.cons (.var 3) (.cons (.var 4) .nil))) [] []) (.cons (.op2 .Sub (.op2 .Add (.var 2) (.int 1)) (.call "_law_count" (.cons (.var 2) (.cons (.var 3) (.cons (.var 4) .nil))) [] [])) .nil)))
    (.seq (.asg (.nm 7) (.lst 0 .nil))
    (.seq (.fors none (.nm 8) (.ival (.tup 0 (.cons (.int 2) (.cons (.int 3) (.cons (.int 5) (.cons (.int 7) .nil))))))
    (.ifs (.tcmp .NotEq (.var 8) (.var 2))
    (.seq (.asg (.nm 9) (.lst 0 (.cons (.call "trace_remainder" (.cons (.var 5) (.cons (.var 8) .nil)) [] []) (.cons (.call "trace_remainder" (.cons (.var 8) (.cons (.var 5) .nil)) [1, 0] []) .nil))))
    (.seq (.ifs (.tcmp .NotEq (.blt .repr (.cons (.var 9) .nil)) (.blt .repr (.cons (.lst 0 (.cons (.op2 .Mod (.blt .int (.cons (.var 6) .nil)) (.var 8)) (.cons (.op2 .Mod (.blt .int (.cons (.var 6) .nil)) (.var 8)) .nil))) .nil)))
    (.ret (.bl false))
    .skip)
    (.expr (.mutv .append 7 (.cons (.tup 0 (.cons (.var 8) (.cons (.op2 .Mod (.blt .int (.cons (.var 6) .nil)) (.var 8)) .nil))) .nil)))))
    .skip))
    (.seq (.ifs (.tq (.tor (.tcmp .NotEq (.blt .repr (.cons (.call "traces_fitting" (.cons (.var 2) (.cons (.blt .tuple (.cons (.var 7) .nil)) .nil)) [] []) .nil)) (.blt .repr (.cons (.tup 0 (.cons (.var 6) .nil)) .nil))) (.tcmp .NotEq (.blt .repr (.cons (.call "traces_fitting" (.cons (.var 2) (.cons (.blt .tuple (.cons (.rev (.var 7)) .nil)) .nil)) [] []) .nil)) (.blt .repr (.cons (.tup 0 (.cons (.var 6) .nil)) .nil)))))
    (.ret (.bl false))
    .skip)
    (.seq (.ifs (.tq (.tcmp .NotEq (.call "_law_fitting" (.cons (.var 2) (.cons (.var 7) .nil)) [] []) (.tup 0 (.cons (.var 6) .nil))))
    (.ret (.bl false))
    .skip)
    (.seq (.fors none (.nm 10) (.irng1 (.op2 .Add (.int 1) (.call "_law_draw" (.cons (.lend 1) (.cons (.int 5) .nil)) [] [(1, 0)])))
    (.seq (.par [11, 12] (.cons (.lst 0 (.cons (.int 2) (.cons (.int 3) (.cons (.int 5) (.cons (.int 7) .nil))))) (.cons (.lst 0 .nil) .nil)))
    (.seq (.fors none (.nm 13) (.irng1 (.call "_law_draw" (.cons (.lend 1) (.cons (.int 5) .nil)) [] [(1, 0)]))
    (.seq (.asg (.nm 8) (.mutv .pop 11 (.cons (.call "_law_draw" (.cons (.lend 1) (.cons (.q (.blt .len (.cons (.var 11) .nil))) .nil)) [] [(1, 0)]) .nil)))
    (.expr (.mutv .append 12 (.cons (.tup 0 (.cons (.var 8) (.cons (.ite (.tcmp .Gt (.call "_law_draw" (.cons (.lend 1) (.cons (.int 3) .nil)) [] [(1, 0)]) (.int 0)) (.call "_law_draw" (.cons (.lend 1) (.cons (.var 8) .nil)) [] [(1, 0)]) (.op2 .Mod (.blt .int (.cons (.var 6) .nil)) (.var 8))) .nil))) .nil)))))
    (.seq (.asg (.nm 14) (.q (.call "_law_fitting" (.cons (.var 2) (.cons (.var 12) .nil)) [] [])))
    (.seq (.asg (.nm 9) (.q (.lst 0 (.cons (.call "traces_fitting" (.cons (.var 2) (.cons (.blt .tuple (.cons (.var 12) .nil)) .nil)) [] []) (.cons (.call "traces_fitting" (.cons (.blt .tuple (.cons (.var 12) .nil)) (.cons (.var 2) .nil)) [1, 0] []) .nil)))))
    (.ifs (.tcmp .NotEq (.blt .repr (.cons (.var 9) .nil)) (.blt .repr (.cons (.lst 0 (.cons (.var 14) (.cons (.var 14) .nil))) .nil)))
    (.ret (.bl false))
    .skip))))))
    (.ret (.cmp .Eq (.blt .repr (.cons (.call "traces_fitting" (.cons (.var 2) (.cons (.tup 0 .nil) .nil)) [] []) .nil)) (.blt .repr (.cons (.blt .tuple (.cons (.call "_law_traces" (.cons (.var 2) .nil) [] []) .nil)) .nil)))))))))))))⟩
def e_law : Ent := ⟨"law", d_law, ["script", "deck", "p", "a", "b", "curve", "t", "own", "l", "told", "turn", "left", "pairs", "more", "due"], ["script"], top 29⟩
/-- 0 self, 1 prime, 2 a, 3 b -/
def d_Curve : Df := ⟨3, 4, [], (.seq (.ifs (.tnot (.tval (.call "is_prime" (.cons (.var 1) .nil) [] [])))
    .never
    .skip)
    (.seq (.ifs (.tnot (.tval (.call "is_number" (.cons (.var 1) (.cons (.var 2) .nil)) [] [])))
    .never
    .skip)
    (.seq (.ifs (.tnot (.tval (.call "is_number" (.cons (.var 1) (.cons (.var 3) .nil)) [] [])))
    .never
    .skip)
    (.seq (.ifs (.tcmp .Eq (.op2 .Mod (.op2 .Add (.op2 .Mult (.op2 .Mult (.op2 .Mult (.int 4) (.var 2)) (.var 2)) (.var 2)) (.op2 .Mult (.op2 .Mult (.int 27) (.var 3)) (.var 3))) (.var 1)) (.int 0))
    .never
    .skip)
    (.mkins "Curve" [("prime", 1), ("a", 2), ("b", 3)])))))⟩
def e_Curve : Ent := ⟨"Curve", d_Curve, ["self", "prime", "a", "b"], ["self", "prime", "a", "b"], inClass (top 11) 0⟩
def tb : Tb := ⟨["isinstance", "int", "bool", "range", "sum", "tuple", "all", "max", "len", "repr"], ["GREATEST_PRIME", "LEAST_PRIME"], [⟨"is_integer", 1, [], []⟩,
  ⟨"trace_by_table", 4, [], []⟩,
  ⟨"square_table", 1, [], []⟩,
  ⟨"is_trace", 2, [], []⟩,
  ⟨"trace", 1, [], []⟩,
  ⟨"all_traces", 1, [], []⟩,
  ⟨"_law_draw", 2, [], []⟩,
  ⟨"_law_pick", 2, [], []⟩,
  ⟨"_law_traces", 1, [], []⟩,
  ⟨"_law_deck", 1, [], []⟩,
  ⟨"_law_prime", 1, [], []⟩,
  ⟨"_law_curve", 2, [], []⟩,
  ⟨"Curve", 3, [], []⟩,
  ⟨"_law_count", 3, [], []⟩,
  ⟨"trace_remainder", 2, [], []⟩,
  ⟨"trace_remainder", 0, ["l", "curve"], [1, 0]⟩,
  ⟨"traces_fitting", 2, [], []⟩,
  ⟨"_law_fitting", 2, [], []⟩,
  ⟨"traces_fitting", 0, ["remainders", "prime"], [1, 0]⟩,
  ⟨"is_prime", 1, [], []⟩,
  ⟨"is_number", 2, [], []⟩]⟩
def con : List D := [(.int 199), (.int 7)]
def ents : List Ent := [e_is_integer, e_is_prime, e_is_number, e_square_table, e_trace_by_table, e_trace, e_is_trace, e_all_traces, e_trace_remainder, e_traces_fitting, e__law_deck, e__law_draw, e__law_pick, e__law_prime, e__law_curve, e__law_count, e__law_traces, e__law_fitting, e_law]
def cents : List Ent := [e_Curve]
def defs : List (Str × Df) := (ents ++ cents).map fun e => (e.nm, e.df)
theorem ents_ok : ∀ e ∈ ents, entOk tb e = true := List.all_eq_true.mp (by decide +kernel : ents.all (entOk tb) = true)
theorem cents_ok : ∀ e ∈ cents, centOk tb e = true := List.all_eq_true.mp (by decide +kernel : cents.all (centOk tb) = true)
theorem ents_nd : ((ents ++ cents).map (·.nm)).Nodup := by decide +kernel
theorem all_mk {w : World} {K : PySem.W.Frag} {h : Heap} {mg : Str → Option Value} {fa f0 f1 f2 f3 f4 f5 f6 f7 f8 f9 f10 f11 f12 f13 f14 f15 f16 f17 f18 : Addr} (X : K.In h) (G : h.Ns mainGlobals mg) (hfa : mg "law" = some (.ref fa))
    {od0 an0 od1 an1 od2 an2 od3 an3 od4 an4 od5 an5 od6 an6 od7 an7 od8 an8 od9 an9 od10 an10 od11 an11 od12 an12 od13 an13 od14 an14 od15 an15 od16 an16 od17 an17 od18 an18 : Option Addr} {sl0 sl1 sl2 sl3 sl4 sl5 sl6 sl7 sl8 sl9 sl10 sl11 sl12 sl13 sl14 sl15 sl16 sl17 sl18 : Array (Option Value)} {oc0 kV0 dc0 pm0 cd0 ct0 oc1 kV1 dc1 pm1 cd1 ct1 oc2 kV2 dc2 pm2 cd2 ct2 oc3 kV3 dc3 pm3 cd3 ct3 oc4 kV4 dc4 pm4 cd4 ct4 oc5 kV5 dc5 pm5 cd5 ct5 oc6 kV6 dc6 pm6 cd6 ct6 oc7 kV7 dc7 pm7 cd7 ct7 oc8 kV8 dc8 pm8 cd8 ct8 oc9 kV9 dc9 pm9 cd9 ct9 oc10 kV10 dc10 pm10 cd10 ct10 oc11 kV11 dc11 pm11 cd11 ct11 oc12 kV12 dc12 pm12 cd12 ct12 oc13 kV13 dc13 pm13 cd13 ct13 oc14 kV14 dc14 pm14 cd14 ct14 oc15 kV15 dc15 pm15 cd15 ct15 oc16 kV16 dc16 pm16 cd16 ct16 oc17 kV17 dc17 pm17 cd17 ct17 oc18 kV18 dc18 pm18 cd18 ct18 : Value}
    (a0 : PySem.W.nsIn K mainGlobals "is_integer" = some (some (.ref f0))) (l0 : K.lookup f0 = some ⟨oc0, od0, .func (PySem.W.fnOf "is_integer" "is_integer" (defArgs (top 7)) (defBody (top 7)) (defScope (top 7)) .none kV0 dc0 pm0 an0 cd0 ct0), sl0⟩) (c0 : PySem.W.codeIn K cd0 "is_integer" = true) (k0 : PySem.W.keepIn K (.ref f0) = true)
    (a1 : PySem.W.nsIn K mainGlobals "is_prime" = some (some (.ref f1))) (l1 : K.lookup f1 = some ⟨oc1, od1, .func (PySem.W.fnOf "is_prime" "is_prime" (defArgs (top 8)) (defBody (top 8)) (defScope (top 8)) .none kV1 dc1 pm1 an1 cd1 ct1), sl1⟩) (c1 : PySem.W.codeIn K cd1 "is_prime" = true) (k1 : PySem.W.keepIn K (.ref f1) = true)
    (a2 : PySem.W.nsIn K mainGlobals "is_number" = some (some (.ref f2))) (l2 : K.lookup f2 = some ⟨oc2, od2, .func (PySem.W.fnOf "is_number" "is_number" (defArgs (top 9)) (defBody (top 9)) (defScope (top 9)) .none kV2 dc2 pm2 an2 cd2 ct2), sl2⟩) (c2 : PySem.W.codeIn K cd2 "is_number" = true) (k2 : PySem.W.keepIn K (.ref f2) = true)
    (a3 : PySem.W.nsIn K mainGlobals "square_table" = some (some (.ref f3))) (l3 : K.lookup f3 = some ⟨oc3, od3, .func (PySem.W.fnOf "square_table" "square_table" (defArgs (top 13)) (defBody (top 13)) (defScope (top 13)) .none kV3 dc3 pm3 an3 cd3 ct3), sl3⟩) (c3 : PySem.W.codeIn K cd3 "square_table" = true) (k3 : PySem.W.keepIn K (.ref f3) = true)
    (a4 : PySem.W.nsIn K mainGlobals "trace_by_table" = some (some (.ref f4))) (l4 : K.lookup f4 = some ⟨oc4, od4, .func (PySem.W.fnOf "trace_by_table" "trace_by_table" (defArgs (top 14)) (defBody (top 14)) (defScope (top 14)) .none kV4 dc4 pm4 an4 cd4 ct4), sl4⟩) (c4 : PySem.W.codeIn K cd4 "trace_by_table" = true) (k4 : PySem.W.keepIn K (.ref f4) = true)
    (a5 : PySem.W.nsIn K mainGlobals "trace" = some (some (.ref f5))) (l5 : K.lookup f5 = some ⟨oc5, od5, .func (PySem.W.fnOf "trace" "trace" (defArgs (top 15)) (defBody (top 15)) (defScope (top 15)) .none kV5 dc5 pm5 an5 cd5 ct5), sl5⟩) (c5 : PySem.W.codeIn K cd5 "trace" = true) (k5 : PySem.W.keepIn K (.ref f5) = true)
    (a6 : PySem.W.nsIn K mainGlobals "is_trace" = some (some (.ref f6))) (l6 : K.lookup f6 = some ⟨oc6, od6, .func (PySem.W.fnOf "is_trace" "is_trace" (defArgs (top 16)) (defBody (top 16)) (defScope (top 16)) .none kV6 dc6 pm6 an6 cd6 ct6), sl6⟩) (c6 : PySem.W.codeIn K cd6 "is_trace" = true) (k6 : PySem.W.keepIn K (.ref f6) = true)
    (a7 : PySem.W.nsIn K mainGlobals "all_traces" = some (some (.ref f7))) (l7 : K.lookup f7 = some ⟨oc7, od7, .func (PySem.W.fnOf "all_traces" "all_traces" (defArgs (top 17)) (defBody (top 17)) (defScope (top 17)) .none kV7 dc7 pm7 an7 cd7 ct7), sl7⟩) (c7 : PySem.W.codeIn K cd7 "all_traces" = true) (k7 : PySem.W.keepIn K (.ref f7) = true)
    (a8 : PySem.W.nsIn K mainGlobals "trace_remainder" = some (some (.ref f8))) (l8 : K.lookup f8 = some ⟨oc8, od8, .func (PySem.W.fnOf "trace_remainder" "trace_remainder" (defArgs (top 18)) (defBody (top 18)) (defScope (top 18)) .none kV8 dc8 pm8 an8 cd8 ct8), sl8⟩) (c8 : PySem.W.codeIn K cd8 "trace_remainder" = true) (k8 : PySem.W.keepIn K (.ref f8) = true)
    (a9 : PySem.W.nsIn K mainGlobals "traces_fitting" = some (some (.ref f9))) (l9 : K.lookup f9 = some ⟨oc9, od9, .func (PySem.W.fnOf "traces_fitting" "traces_fitting" (defArgs (top 19)) (defBody (top 19)) (defScope (top 19)) .none kV9 dc9 pm9 an9 cd9 ct9), sl9⟩) (c9 : PySem.W.codeIn K cd9 "traces_fitting" = true) (k9 : PySem.W.keepIn K (.ref f9) = true)
    (a10 : PySem.W.nsIn K mainGlobals "_law_deck" = some (some (.ref f10))) (l10 : K.lookup f10 = some ⟨oc10, od10, .func (PySem.W.fnOf "_law_deck" "_law_deck" (defArgs (top 21)) (defBody (top 21)) (defScope (top 21)) .none kV10 dc10 pm10 an10 cd10 ct10), sl10⟩) (c10 : PySem.W.codeIn K cd10 "_law_deck" = true) (k10 : PySem.W.keepIn K (.ref f10) = true)
    (a11 : PySem.W.nsIn K mainGlobals "_law_draw" = some (some (.ref f11))) (l11 : K.lookup f11 = some ⟨oc11, od11, .func (PySem.W.fnOf "_law_draw" "_law_draw" (defArgs (top 22)) (defBody (top 22)) (defScope (top 22)) .none kV11 dc11 pm11 an11 cd11 ct11), sl11⟩) (c11 : PySem.W.codeIn K cd11 "_law_draw" = true) (k11 : PySem.W.keepIn K (.ref f11) = true)
    (a12 : PySem.W.nsIn K mainGlobals "_law_pick" = some (some (.ref f12))) (l12 : K.lookup f12 = some ⟨oc12, od12, .func (PySem.W.fnOf "_law_pick" "_law_pick" (defArgs (top 23)) (defBody (top 23)) (defScope (top 23)) .none kV12 dc12 pm12 an12 cd12 ct12), sl12⟩) (c12 : PySem.W.codeIn K cd12 "_law_pick" = true) (k12 : PySem.W.keepIn K (.ref f12) = true)
    (a13 : PySem.W.nsIn K mainGlobals "_law_prime" = some (some (.ref f13))) (l13 : K.lookup f13 = some ⟨oc13, od13, .func (PySem.W.fnOf "_law_prime" "_law_prime" (defArgs (top 24)) (defBody (top 24)) (defScope (top 24)) .none kV13 dc13 pm13 an13 cd13 ct13), sl13⟩) (c13 : PySem.W.codeIn K cd13 "_law_prime" = true) (k13 : PySem.W.keepIn K (.ref f13) = true)
    (a14 : PySem.W.nsIn K mainGlobals "_law_curve" = some (some (.ref f14))) (l14 : K.lookup f14 = some ⟨oc14, od14, .func (PySem.W.fnOf "_law_curve" "_law_curve" (defArgs (top 25)) (defBody (top 25)) (defScope (top 25)) .none kV14 dc14 pm14 an14 cd14 ct14), sl14⟩) (c14 : PySem.W.codeIn K cd14 "_law_curve" = true) (k14 : PySem.W.keepIn K (.ref f14) = true)
    (a15 : PySem.W.nsIn K mainGlobals "_law_count" = some (some (.ref f15))) (l15 : K.lookup f15 = some ⟨oc15, od15, .func (PySem.W.fnOf "_law_count" "_law_count" (defArgs (top 26)) (defBody (top 26)) (defScope (top 26)) .none kV15 dc15 pm15 an15 cd15 ct15), sl15⟩) (c15 : PySem.W.codeIn K cd15 "_law_count" = true) (k15 : PySem.W.keepIn K (.ref f15) = true)
    (a16 : PySem.W.nsIn K mainGlobals "_law_traces" = some (some (.ref f16))) (l16 : K.lookup f16 = some ⟨oc16, od16, .func (PySem.W.fnOf "_law_traces" "_law_traces" (defArgs (top 27)) (defBody (top 27)) (defScope (top 27)) .none kV16 dc16 pm16 an16 cd16 ct16), sl16⟩) (c16 : PySem.W.codeIn K cd16 "_law_traces" = true) (k16 : PySem.W.keepIn K (.ref f16) = true)
    (a17 : PySem.W.nsIn K mainGlobals "_law_fitting" = some (some (.ref f17))) (l17 : K.lookup f17 = some ⟨oc17, od17, .func (PySem.W.fnOf "_law_fitting" "_law_fitting" (defArgs (top 28)) (defBody (top 28)) (defScope (top 28)) .none kV17 dc17 pm17 an17 cd17 ct17), sl17⟩) (c17 : PySem.W.codeIn K cd17 "_law_fitting" = true) (k17 : PySem.W.keepIn K (.ref f17) = true)
    (a18 : PySem.W.nsIn K mainGlobals "law" = some (some (.ref f18))) (l18 : K.lookup f18 = some ⟨oc18, od18, .func (PySem.W.fnOf "law" "law" (defArgs (top 29)) (defBody (top 29)) (defScope (top 29)) .none kV18 dc18 pm18 an18 cd18 ct18), sl18⟩) (c18 : PySem.W.codeIn K cd18 "law" = true) (k18 : PySem.W.keepIn K (.ref f18) = true)
    {C0 g0 : Addr} {god0 gan0 : Option Addr} {gsl0 : Array (Option Value)} {goc0 gkV0 gdc0 gpm0 gcd0 gct0 : Value}
    (aC0 : PySem.W.nsIn K mainGlobals "Curve" = some (some (.ref C0))) (i00 : PySem.W.findIn K (.ref C0) "__init__" = some (some (.ref g0))) (i10 : PySem.W.isFn K (.ref g0) = true)
    (gl0 : K.lookup g0 = some ⟨goc0, god0, .func (PySem.W.fnOf "__init__" "Curve.__init__" (defArgs (inClass (top 11) 0)) (defBody (inClass (top 11) 0)) (defScope (inClass (top 11) 0)) .none gkV0 gdc0 gpm0 gan0 gcd0 gct0), gsl0⟩) (gc0 : PySem.W.codeIn K gcd0 "Curve.__init__" = true) (gk0 : PySem.W.keepIn K (.ref g0) = true)
    (pg0 : PySem.W.plainGet K C0 Str.empty = true) (hd0 : PySem.W.hasDictIn K C0 = true) (po0 : PySem.W.plainOver K C0 = true) (sa0 : PySem.W.findIn K (.ref C0) "__setattr__" = some (some (.builtin "object.__setattr__"))) (mk0 : PySem.W.makesIn K C0 = true) (kc0 : PySem.W.keepIn K (.ref C0) = true)
    (na0_0 : PySem.W.findIn K (.ref C0) "prime" = some none)
    (na0_1 : PySem.W.findIn K (.ref C0) "a" = some none)
    (na0_2 : PySem.W.findIn K (.ref C0) "b" = some none)
    (z0 : PySem.W.nsIn K mainGlobals "isinstance" = some none)
    (z1 : PySem.W.nsIn K mainGlobals "int" = some none)
    (z2 : PySem.W.nsIn K mainGlobals "bool" = some none)
    (z3 : PySem.W.nsIn K mainGlobals "range" = some none)
    (z4 : PySem.W.nsIn K mainGlobals "sum" = some none)
    (z5 : PySem.W.nsIn K mainGlobals "tuple" = some none)
    (z6 : PySem.W.nsIn K mainGlobals "all" = some none)
    (z7 : PySem.W.nsIn K mainGlobals "max" = some none)
    (z8 : PySem.W.nsIn K mainGlobals "len" = some none)
    (z9 : PySem.W.nsIn K mainGlobals "repr" = some none)
    {t0 t1 : Tok}
    (v0 : PySem.W.nsIn K mainGlobals "GREATEST_PRIME" = some (some (Value.int 199 t0)))
    (v1 : PySem.W.nsIn K mainGlobals "LEAST_PRIME" = some (some (Value.int 7 t1)))
    : ∃ fd : FuncData, (∀ (s : Shared) (v : Value), BindsTo s fd ⟨[v], []⟩ [("script", v)]) ∧ ∀ base : Heap, K.In base → base.Ns mainGlobals mg → FnG PySem.Challenge.pw_craterbeat_k17_traces_by_remainders w K mg base 20 fa fd ["script"] (spD K (callN defs con 100000 20 "law")) := by
  have e := hfa.symm.trans (PySem.W.mg_of X G a18)
  cases e
  have F0 := fun_mk (st := top 7) l0 c0 k0
  have F1 := fun_mk (st := top 8) l1 c1 k1
  have F2 := fun_mk (st := top 9) l2 c2 k2
  have F3 := fun_mk (st := top 13) l3 c3 k3
  have F4 := fun_mk (st := top 14) l4 c4 k4
  have F5 := fun_mk (st := top 15) l5 c5 k5
  have F6 := fun_mk (st := top 16) l6 c6 k6
  have F7 := fun_mk (st := top 17) l7 c7 k7
  have F8 := fun_mk (st := top 18) l8 c8 k8
  have F9 := fun_mk (st := top 19) l9 c9 k9
  have F10 := fun_mk (st := top 21) l10 c10 k10
  have F11 := fun_mk (st := top 22) l11 c11 k11
  have F12 := fun_mk (st := top 23) l12 c12 k12
  have F13 := fun_mk (st := top 24) l13 c13 k13
  have F14 := fun_mk (st := top 25) l14 c14 k14
  have F15 := fun_mk (st := top 26) l15 c15 k15
  have F16 := fun_mk (st := top 27) l16 c16 k16
  have F17 := fun_mk (st := top 28) l17 c17 k17
  have F18 := fun_mk (st := top 29) l18 c18 k18
  have FG0 := fun_mk (st := (inClass (top 11) 0)) gl0 gc0 gk0
  have BG0 : ∀ sh ∈ ([⟨"Curve", 3, [], []⟩] : List Shape), BdC K (PySem.W.fnOf "__init__" "Curve.__init__" (defArgs (inClass (top 11) 0)) (defBody (inClass (top 11) 0)) (defScope (inClass (top 11) 0)) .none gkV0 gdc0 gpm0 gan0 gcd0 gct0) e_Curve.ps sh := List.forall_mem_cons.mpr ⟨⟨rfl, fun s self us _ h1 => .of_eq (match us, h1 with | [u0, u1, u2], _ => rfl)⟩, List.forall_mem_nil _⟩
  have B0 : ∀ sh ∈ ([⟨"is_integer", 1, [], []⟩] : List Shape), Bds K (PySem.W.fnOf "is_integer" "is_integer" (defArgs (top 7)) (defBody (top 7)) (defScope (top 7)) .none kV0 dc0 pm0 an0 cd0 ct0) e_is_integer.ps sh := List.forall_mem_cons.mpr ⟨(fun s us ws _ h1 h2 => .of_eq (match us, ws, h1, h2 with | [u0], [], _, _ => rfl)), List.forall_mem_nil _⟩
  have B1 : ∀ sh ∈ ([⟨"is_prime", 1, [], []⟩] : List Shape), Bds K (PySem.W.fnOf "is_prime" "is_prime" (defArgs (top 8)) (defBody (top 8)) (defScope (top 8)) .none kV1 dc1 pm1 an1 cd1 ct1) e_is_prime.ps sh := List.forall_mem_cons.mpr ⟨(fun s us ws _ h1 h2 => .of_eq (match us, ws, h1, h2 with | [u0], [], _, _ => rfl)), List.forall_mem_nil _⟩
  have B2 : ∀ sh ∈ ([⟨"is_number", 2, [], []⟩] : List Shape), Bds K (PySem.W.fnOf "is_number" "is_number" (defArgs (top 9)) (defBody (top 9)) (defScope (top 9)) .none kV2 dc2 pm2 an2 cd2 ct2) e_is_number.ps sh := List.forall_mem_cons.mpr ⟨(fun s us ws _ h1 h2 => .of_eq (match us, ws, h1, h2 with | [u0, u1], [], _, _ => rfl)), List.forall_mem_nil _⟩
  have B3 : ∀ sh ∈ ([⟨"square_table", 1, [], []⟩] : List Shape), Bds K (PySem.W.fnOf "square_table" "square_table" (defArgs (top 13)) (defBody (top 13)) (defScope (top 13)) .none kV3 dc3 pm3 an3 cd3 ct3) e_square_table.ps sh := List.forall_mem_cons.mpr ⟨(fun s us ws _ h1 h2 => .of_eq (match us, ws, h1, h2 with | [u0], [], _, _ => rfl)), List.forall_mem_nil _⟩
  have B4 : ∀ sh ∈ ([⟨"trace_by_table", 4, [], []⟩] : List Shape), Bds K (PySem.W.fnOf "trace_by_table" "trace_by_table" (defArgs (top 14)) (defBody (top 14)) (defScope (top 14)) .none kV4 dc4 pm4 an4 cd4 ct4) e_trace_by_table.ps sh := List.forall_mem_cons.mpr ⟨(fun s us ws _ h1 h2 => .of_eq (match us, ws, h1, h2 with | [u0, u1, u2, u3], [], _, _ => rfl)), List.forall_mem_nil _⟩
  have B5 : ∀ sh ∈ ([⟨"trace", 1, [], []⟩] : List Shape), Bds K (PySem.W.fnOf "trace" "trace" (defArgs (top 15)) (defBody (top 15)) (defScope (top 15)) .none kV5 dc5 pm5 an5 cd5 ct5) e_trace.ps sh := List.forall_mem_cons.mpr ⟨(fun s us ws _ h1 h2 => .of_eq (match us, ws, h1, h2 with | [u0], [], _, _ => rfl)), List.forall_mem_nil _⟩
  have B6 : ∀ sh ∈ ([⟨"is_trace", 2, [], []⟩] : List Shape), Bds K (PySem.W.fnOf "is_trace" "is_trace" (defArgs (top 16)) (defBody (top 16)) (defScope (top 16)) .none kV6 dc6 pm6 an6 cd6 ct6) e_is_trace.ps sh := List.forall_mem_cons.mpr ⟨(fun s us ws _ h1 h2 => .of_eq (match us, ws, h1, h2 with | [u0, u1], [], _, _ => rfl)), List.forall_mem_nil _⟩
  have B7 : ∀ sh ∈ ([⟨"all_traces", 1, [], []⟩] : List Shape), Bds K (PySem.W.fnOf "all_traces" "all_traces" (defArgs (top 17)) (defBody (top 17)) (defScope (top 17)) .none kV7 dc7 pm7 an7 cd7 ct7) e_all_traces.ps sh := List.forall_mem_cons.mpr ⟨(fun s us ws _ h1 h2 => .of_eq (match us, ws, h1, h2 with | [u0], [], _, _ => rfl)), List.forall_mem_nil _⟩
  have B8 : ∀ sh ∈ ([⟨"trace_remainder", 2, [], []⟩, ⟨"trace_remainder", 0, ["l", "curve"], [1, 0]⟩] : List Shape), Bds K (PySem.W.fnOf "trace_remainder" "trace_remainder" (defArgs (top 18)) (defBody (top 18)) (defScope (top 18)) .none kV8 dc8 pm8 an8 cd8 ct8) e_trace_remainder.ps sh := List.forall_mem_cons.mpr ⟨(fun s us ws _ h1 h2 => .of_eq (match us, ws, h1, h2 with | [u0, u1], [], _, _ => rfl)), List.forall_mem_cons.mpr ⟨(fun s us ws _ h1 h2 => .of_eq (match us, ws, h1, h2 with | [], [w0, w1], _, _ => rfl)), List.forall_mem_nil _⟩⟩
  have B9 : ∀ sh ∈ ([⟨"traces_fitting", 2, [], []⟩, ⟨"traces_fitting", 0, ["remainders", "prime"], [1, 0]⟩] : List Shape), Bds K (PySem.W.fnOf "traces_fitting" "traces_fitting" (defArgs (top 19)) (defBody (top 19)) (defScope (top 19)) .none kV9 dc9 pm9 an9 cd9 ct9) e_traces_fitting.ps sh := List.forall_mem_cons.mpr ⟨(fun s us ws _ h1 h2 => .of_eq (match us, ws, h1, h2 with | [u0, u1], [], _, _ => rfl)), List.forall_mem_cons.mpr ⟨(fun s us ws _ h1 h2 => .of_eq (match us, ws, h1, h2 with | [], [w0, w1], _, _ => rfl)), List.forall_mem_nil _⟩⟩
  have B10 : ∀ sh ∈ ([⟨"_law_deck", 1, [], []⟩] : List Shape), Bds K (PySem.W.fnOf "_law_deck" "_law_deck" (defArgs (top 21)) (defBody (top 21)) (defScope (top 21)) .none kV10 dc10 pm10 an10 cd10 ct10) e__law_deck.ps sh := List.forall_mem_cons.mpr ⟨(fun s us ws _ h1 h2 => .of_eq (match us, ws, h1, h2 with | [u0], [], _, _ => rfl)), List.forall_mem_nil _⟩
  have B11 : ∀ sh ∈ ([⟨"_law_draw", 2, [], []⟩] : List Shape), Bds K (PySem.W.fnOf "_law_draw" "_law_draw" (defArgs (top 22)) (defBody (top 22)) (defScope (top 22)) .none kV11 dc11 pm11 an11 cd11 ct11) e__law_draw.ps sh := List.forall_mem_cons.mpr ⟨(fun s us ws _ h1 h2 => .of_eq (match us, ws, h1, h2 with | [u0, u1], [], _, _ => rfl)), List.forall_mem_nil _⟩
  have B12 : ∀ sh ∈ ([⟨"_law_pick", 2, [], []⟩] : List Shape), Bds K (PySem.W.fnOf "_law_pick" "_law_pick" (defArgs (top 23)) (defBody (top 23)) (defScope (top 23)) .none kV12 dc12 pm12 an12 cd12 ct12) e__law_pick.ps sh := List.forall_mem_cons.mpr ⟨(fun s us ws _ h1 h2 => .of_eq (match us, ws, h1, h2 with | [u0, u1], [], _, _ => rfl)), List.forall_mem_nil _⟩
  have B13 : ∀ sh ∈ ([⟨"_law_prime", 1, [], []⟩] : List Shape), Bds K (PySem.W.fnOf "_law_prime" "_law_prime" (defArgs (top 24)) (defBody (top 24)) (defScope (top 24)) .none kV13 dc13 pm13 an13 cd13 ct13) e__law_prime.ps sh := List.forall_mem_cons.mpr ⟨(fun s us ws _ h1 h2 => .of_eq (match us, ws, h1, h2 with | [u0], [], _, _ => rfl)), List.forall_mem_nil _⟩
  have B14 : ∀ sh ∈ ([⟨"_law_curve", 2, [], []⟩] : List Shape), Bds K (PySem.W.fnOf "_law_curve" "_law_curve" (defArgs (top 25)) (defBody (top 25)) (defScope (top 25)) .none kV14 dc14 pm14 an14 cd14 ct14) e__law_curve.ps sh := List.forall_mem_cons.mpr ⟨(fun s us ws _ h1 h2 => .of_eq (match us, ws, h1, h2 with | [u0, u1], [], _, _ => rfl)), List.forall_mem_nil _⟩
  have B15 : ∀ sh ∈ ([⟨"_law_count", 3, [], []⟩] : List Shape), Bds K (PySem.W.fnOf "_law_count" "_law_count" (defArgs (top 26)) (defBody (top 26)) (defScope (top 26)) .none kV15 dc15 pm15 an15 cd15 ct15) e__law_count.ps sh := List.forall_mem_cons.mpr ⟨(fun s us ws _ h1 h2 => .of_eq (match us, ws, h1, h2 with | [u0, u1, u2], [], _, _ => rfl)), List.forall_mem_nil _⟩
  have B16 : ∀ sh ∈ ([⟨"_law_traces", 1, [], []⟩] : List Shape), Bds K (PySem.W.fnOf "_law_traces" "_law_traces" (defArgs (top 27)) (defBody (top 27)) (defScope (top 27)) .none kV16 dc16 pm16 an16 cd16 ct16) e__law_traces.ps sh := List.forall_mem_cons.mpr ⟨(fun s us ws _ h1 h2 => .of_eq (match us, ws, h1, h2 with | [u0], [], _, _ => rfl)), List.forall_mem_nil _⟩
  have B17 : ∀ sh ∈ ([⟨"_law_fitting", 2, [], []⟩] : List Shape), Bds K (PySem.W.fnOf "_law_fitting" "_law_fitting" (defArgs (top 28)) (defBody (top 28)) (defScope (top 28)) .none kV17 dc17 pm17 an17 cd17 ct17) e__law_fitting.ps sh := List.forall_mem_cons.mpr ⟨(fun s us ws _ h1 h2 => .of_eq (match us, ws, h1, h2 with | [u0, u1], [], _, _ => rfl)), List.forall_mem_nil _⟩
  have B18 : ∀ sh ∈ ([] : List Shape), Bds K (PySem.W.fnOf "law" "law" (defArgs (top 29)) (defBody (top 29)) (defScope (top 29)) .none kV18 dc18 pm18 an18 cd18 ct18) e_law.ps sh := List.forall_mem_nil _
  have hM : Mg PySem.Challenge.pw_craterbeat_k17_traces_by_remainders w K mg tb con ents cents := {
    blt := List.forall_mem_cons.mpr ⟨PySem.W.mg_none_of X G z0, List.forall_mem_cons.mpr ⟨PySem.W.mg_none_of X G z1, List.forall_mem_cons.mpr ⟨PySem.W.mg_none_of X G z2, List.forall_mem_cons.mpr ⟨PySem.W.mg_none_of X G z3, List.forall_mem_cons.mpr ⟨PySem.W.mg_none_of X G z4, List.forall_mem_cons.mpr ⟨PySem.W.mg_none_of X G z5, List.forall_mem_cons.mpr ⟨PySem.W.mg_none_of X G z6, List.forall_mem_cons.mpr ⟨PySem.W.mg_none_of X G z7, List.forall_mem_cons.mpr ⟨PySem.W.mg_none_of X G z8, List.forall_mem_cons.mpr ⟨PySem.W.mg_none_of X G z9, List.forall_mem_nil _⟩⟩⟩⟩⟩⟩⟩⟩⟩⟩
    con := cons_ok ["GREATEST_PRIME", "LEAST_PRIME"] [(.int 199), (.int 7)] ⟨⟨(.int 199), _, PySem.W.mg_of X G v0, ⟨t0, rfl⟩, fun _ => ⟨rfl, rfl, rfl⟩⟩, ⟨⟨(.int 7), _, PySem.W.mg_of X G v1, ⟨t1, rfl⟩, fun _ => ⟨rfl, rfl, rfl⟩⟩, trivial⟩⟩
    fns := List.forall_mem_cons.mpr ⟨⟨_, (PySem.W.fnOf "is_integer" "is_integer" (defArgs (top 7)) (defBody (top 7)) (defScope (top 7)) .none kV0 dc0 pm0 an0 cd0 ct0), F0, PySem.W.mg_of X G a0, bds_of B0 (by decide +kernel)⟩, List.forall_mem_cons.mpr ⟨⟨_, (PySem.W.fnOf "is_prime" "is_prime" (defArgs (top 8)) (defBody (top 8)) (defScope (top 8)) .none kV1 dc1 pm1 an1 cd1 ct1), F1, PySem.W.mg_of X G a1, bds_of B1 (by decide +kernel)⟩, List.forall_mem_cons.mpr ⟨⟨_, (PySem.W.fnOf "is_number" "is_number" (defArgs (top 9)) (defBody (top 9)) (defScope (top 9)) .none kV2 dc2 pm2 an2 cd2 ct2), F2, PySem.W.mg_of X G a2, bds_of B2 (by decide +kernel)⟩, List.forall_mem_cons.mpr ⟨⟨_, (PySem.W.fnOf "square_table" "square_table" (defArgs (top 13)) (defBody (top 13)) (defScope (top 13)) .none kV3 dc3 pm3 an3 cd3 ct3), F3, PySem.W.mg_of X G a3, bds_of B3 (by decide +kernel)⟩, List.forall_mem_cons.mpr ⟨⟨_, (PySem.W.fnOf "trace_by_table" "trace_by_table" (defArgs (top 14)) (defBody (top 14)) (defScope (top 14)) .none kV4 dc4 pm4 an4 cd4 ct4), F4, PySem.W.mg_of X G a4, bds_of B4 (by decide +kernel)⟩, List.forall_mem_cons.mpr ⟨⟨_, (PySem.W.fnOf "trace" "trace" (defArgs (top 15)) (defBody (top 15)) (defScope (top 15)) .none kV5 dc5 pm5 an5 cd5 ct5), F5, PySem.W.mg_of X G a5, bds_of B5 (by decide +kernel)⟩, List.forall_mem_cons.mpr ⟨⟨_, (PySem.W.fnOf "is_trace" "is_trace" (defArgs (top 16)) (defBody (top 16)) (defScope (top 16)) .none kV6 dc6 pm6 an6 cd6 ct6), F6, PySem.W.mg_of X G a6, bds_of B6 (by decide +kernel)⟩, List.forall_mem_cons.mpr ⟨⟨_, (PySem.W.fnOf "all_traces" "all_traces" (defArgs (top 17)) (defBody (top 17)) (defScope (top 17)) .none kV7 dc7 pm7 an7 cd7 ct7), F7, PySem.W.mg_of X G a7, bds_of B7 (by decide +kernel)⟩, List.forall_mem_cons.mpr ⟨⟨_, (PySem.W.fnOf "trace_remainder" "trace_remainder" (defArgs (top 18)) (defBody (top 18)) (defScope (top 18)) .none kV8 dc8 pm8 an8 cd8 ct8), F8, PySem.W.mg_of X G a8, bds_of B8 (by decide +kernel)⟩, List.forall_mem_cons.mpr ⟨⟨_, (PySem.W.fnOf "traces_fitting" "traces_fitting" (defArgs (top 19)) (defBody (top 19)) (defScope (top 19)) .none kV9 dc9 pm9 an9 cd9 ct9), F9, PySem.W.mg_of X G a9, bds_of B9 (by decide +kernel)⟩, List.forall_mem_cons.mpr ⟨⟨_, (PySem.W.fnOf "_law_deck" "_law_deck" (defArgs (top 21)) (defBody (top 21)) (defScope (top 21)) .none kV10 dc10 pm10 an10 cd10 ct10), F10, PySem.W.mg_of X G a10, bds_of B10 (by decide +kernel)⟩, List.forall_mem_cons.mpr ⟨⟨_, (PySem.W.fnOf "_law_draw" "_law_draw" (defArgs (top 22)) (defBody (top 22)) (defScope (top 22)) .none kV11 dc11 pm11 an11 cd11 ct11), F11, PySem.W.mg_of X G a11, bds_of B11 (by decide +kernel)⟩, List.forall_mem_cons.mpr ⟨⟨_, (PySem.W.fnOf "_law_pick" "_law_pick" (defArgs (top 23)) (defBody (top 23)) (defScope (top 23)) .none kV12 dc12 pm12 an12 cd12 ct12), F12, PySem.W.mg_of X G a12, bds_of B12 (by decide +kernel)⟩, List.forall_mem_cons.mpr ⟨⟨_, (PySem.W.fnOf "_law_prime" "_law_prime" (defArgs (top 24)) (defBody (top 24)) (defScope (top 24)) .none kV13 dc13 pm13 an13 cd13 ct13), F13, PySem.W.mg_of X G a13, bds_of B13 (by decide +kernel)⟩, List.forall_mem_cons.mpr ⟨⟨_, (PySem.W.fnOf "_law_curve" "_law_curve" (defArgs (top 25)) (defBody (top 25)) (defScope (top 25)) .none kV14 dc14 pm14 an14 cd14 ct14), F14, PySem.W.mg_of X G a14, bds_of B14 (by decide +kernel)⟩, List.forall_mem_cons.mpr ⟨⟨_, (PySem.W.fnOf "_law_count" "_law_count" (defArgs (top 26)) (defBody (top 26)) (defScope (top 26)) .none kV15 dc15 pm15 an15 cd15 ct15), F15, PySem.W.mg_of X G a15, bds_of B15 (by decide +kernel)⟩, List.forall_mem_cons.mpr ⟨⟨_, (PySem.W.fnOf "_law_traces" "_law_traces" (defArgs (top 27)) (defBody (top 27)) (defScope (top 27)) .none kV16 dc16 pm16 an16 cd16 ct16), F16, PySem.W.mg_of X G a16, bds_of B16 (by decide +kernel)⟩, List.forall_mem_cons.mpr ⟨⟨_, (PySem.W.fnOf "_law_fitting" "_law_fitting" (defArgs (top 28)) (defBody (top 28)) (defScope (top 28)) .none kV17 dc17 pm17 an17 cd17 ct17), F17, PySem.W.mg_of X G a17, bds_of B17 (by decide +kernel)⟩, List.forall_mem_cons.mpr ⟨⟨_, (PySem.W.fnOf "law" "law" (defArgs (top 29)) (defBody (top 29)) (defScope (top 29)) .none kV18 dc18 pm18 an18 cd18 ct18), F18, PySem.W.mg_of X G a18, bds_of B18 (by decide +kernel)⟩, List.forall_mem_nil _⟩⟩⟩⟩⟩⟩⟩⟩⟩⟩⟩⟩⟩⟩⟩⟩⟩⟩⟩
    cls := List.forall_mem_cons.mpr ⟨⟨"Curve.__init__", _, _, (PySem.W.fnOf "__init__" "Curve.__init__" (defArgs (inClass (top 11) 0)) (defBody (inClass (top 11) 0)) (defScope (inClass (top 11) 0)) .none gkV0 gdc0 gpm0 gan0 gcd0 gct0), FG0, ⟨mk0, i00, i10, kc0⟩, PySem.W.mg_of X G aC0, aC0, ⟨pg0, hd0, po0, sa0⟩, List.forall_mem_cons.mpr ⟨na0_0, List.forall_mem_cons.mpr ⟨na0_1, List.forall_mem_cons.mpr ⟨na0_2, List.forall_mem_nil _⟩⟩⟩, shp_of BG0 (by decide +kernel)⟩, List.forall_mem_nil _⟩
    all := by decide +kernel }
  exact ⟨(PySem.W.fnOf "law" "law" (defArgs (top 29)) (defBody (top 29)) (defScope (top 29)) .none kV18 dc18 pm18 an18 cd18 ct18), fun s v => .of_eq rfl, fun base _ _ => (levels hM (fun e he => ⟨ents_ok e he, lookup_nd ents_nd e (List.mem_append_left _ he)⟩) (fun e he => ⟨cents_ok e he, lookup_nd ents_nd e (List.mem_append_right _ he)⟩) 20) e_law (by simp [ents]) _ _ F18⟩

-- CASES a0 l0 c0 k0 a1 l1 c1 k1 a2 l2 c2 k2 a3 l3 c3 k3 a4 l4 c4 k4 a5 l5 c5 k5 a6 l6 c6 k6 a7 l7 c7 k7 a8 l8 c8 k8 a9 l9 c9 k9 a10 l10 c10 k10 a11 l11 c11 k11 a12 l12 c12 k12 a13 l13 c13 k13 a14 l14 c14 k14 a15 l15 c15 k15 a16 l16 c16 k16 a17 l17 c17 k17 a18 l18 c18 k18 aC0 i00 i10 gl0 gc0 gk0 pg0 hd0 po0 sa0 mk0 kc0 na0_0 na0_1 na0_2 z0 z1 z2 z3 z4 z5 z6 z7 z8 z9 v0 v1
end Pi.K17
/-! K17t: packed tables; the finite checks -/
namespace Pi.Ha
/-- digits f 0, f 1, .. to the base 512 -/
def pk (f : Nat → Nat) : Nat → Nat
  | 0 => 0
  | n + 1 => f 0 + 512 * pk (fun i => f (i + 1)) n
theorem pk_cong : ∀ {f g : Nat → Nat} (n : Nat), (∀ i, i < n → f i = g i) → pk f n = pk g n
  | f, g, 0, _ => rfl
  | f, g, n + 1, h => by
    simp only [pk]
    rw [h 0 (by omega), pk_cong n fun i hi => h (i + 1) (by omega)]
theorem pk_add : ∀ (f g : Nat → Nat) (n : Nat), pk f n + pk g n = pk (fun i => f i + g i) n
  | f, g, 0 => rfl
  | f, g, n + 1 => by
    simp only [pk]
    rw [← pk_add (fun i => f (i + 1)) (fun i => g (i + 1)) n]
    omega
theorem pk_zero : ∀ (f : Nat → Nat) (n : Nat), (∀ i, i < n → f i = 0) → pk f n = 0
  | f, 0, _ => rfl
  | f, n + 1, h => by
    simp only [pk]
    rw [h 0 (by omega), pk_zero _ n fun i hi => h (i + 1) (by omega)]
theorem pk_more : ∀ (f : Nat → Nat) (n m : Nat), (∀ i, n ≤ i → f i = 0) → pk f (n + m) = pk f n
  | f, 0, m, h => by rw [pk_zero f (0 + m) fun i _ => h i (by omega)]; rfl
  | f, n + 1, m, h => by
    rw [show n + 1 + m = (n + m) + 1 by omega]
    simp only [pk]
    rw [pk_more _ n m fun i hi => h (i + 1) (by omega)]
theorem pk_one : ∀ (s n : Nat), s < n → pk (fun i => if i = s then 1 else 0) n = 512 ^ s
  | s, 0, h => absurd h (by omega)
  | 0, n + 1, h => by
    simp only [pk]
    rw [pk_zero _ n fun i _ => by simp]; rfl
  | s + 1, n + 1, h => by
    simp only [pk]
    have e : (fun i => if i + 1 = s + 1 then 1 else 0) = fun i : Nat => if i = s then 1 else 0 := by funext i; simp
    rw [e, pk_one s n (by omega), Nat.pow_succ]
    simp; omega
theorem pk_up : ∀ (g : Nat → Nat) (n s : Nat), 512 ^ s * pk g n = pk (fun i => if s ≤ i then g (i - s) else 0) (n + s)
  | g, n, 0 => by simp
  | g, n, s + 1 => by
    rw [show n + (s + 1) = (n + s) + 1 by omega]
    simp only [pk]
    have e : (fun i => if s + 1 ≤ i + 1 then g (i + 1 - (s + 1)) else 0) = fun i => if s ≤ i then g (i - s) else 0 := by
      funext i
      simp
    rw [e, ← pk_up g n s, Nat.pow_succ, if_neg (by omega)]
    rw [Nat.zero_add, ← Nat.mul_assoc, Nat.mul_comm 512]
theorem pk_div1 {f : Nat → Nat} (h : ∀ i, f i < 512) : ∀ (n : Nat), (∀ i, n ≤ i → f i = 0) → pk f n / 512 = pk (fun i => f (i + 1)) n
  | 0, _ => by simp [pk]
  | n + 1, h0 => by
    have e : pk (fun i => f (i + 1)) (n + 1) = pk (fun i => f (i + 1)) n := pk_more _ n 1 fun i hi => h0 (i + 1) (by omega)
    rw [e]
    simp only [pk]
    have := h 0
    rw [Nat.add_mul_div_left _ _ (by decide : 0 < 512), Nat.div_eq_of_lt this, Nat.zero_add]
theorem pk_div {n : Nat} : ∀ (s : Nat) {f : Nat → Nat}, (∀ i, f i < 512) → (∀ i, n ≤ i → f i = 0) → pk f n / 512 ^ s = pk (fun i => f (i + s)) n
  | 0, f, h, h0 => by simp
  | s + 1, f, h, h0 => by
    rw [Nat.pow_succ, ← Nat.div_div_eq_div_mul, pk_div s h h0, pk_div1 (fun i => h _) n fun i hi => h0 _ (by omega)]
    exact pk_cong n fun i _ => by rw [show i + 1 + s = i + (s + 1) by omega]
theorem pk_dig {n b : Nat} {f : Nat → Nat} (h : ∀ i, f i < 512) (h0 : ∀ i, n ≤ i → f i = 0) (hb : b < n) : pk f n / 512 ^ b % 512 = f b := by
  rw [pk_div b h h0]
  obtain ⟨m, rfl⟩ : ∃ m, n = m + 1 := ⟨n - 1, by omega⟩
  simp only [pk]
  rw [Nat.add_mul_mod_self_left, Nat.mod_eq_of_lt (h _), Nat.zero_add]
/-- sums -/
def sm (f : Nat → Nat) : Nat → Nat
  | 0 => 0
  | n + 1 => sm f n + f n
/-- how many y < n have the square v -/
def cnt (p n v : Nat) : Nat := sm (fun y => if v = y * y % p then 1 else 0) n
theorem cnt_out {p n v : Nat} (hp : 0 < p) (h : p ≤ v) : cnt p n v = 0 := by
  unfold cnt
  induction n with
  | zero => rfl
  | succ n ih =>
    simp only [sm]
    rw [ih, if_neg (by have := Nat.mod_lt (n * n) hp; omega)]
/-- the kernel's own reckoning -/
def S0 (p : Nat) (n : Nat) : Nat := Nat.rec (motive := fun _ => Nat) 0 (fun y ih => Nat.add ih (Nat.pow 512 (Nat.mod (Nat.mul y y) p))) n
def A0 (C p a : Nat) (n : Nat) : Nat := Nat.rec (motive := fun _ => Nat) 0 (fun x ih => Nat.add ih (Nat.shiftRight C (Nat.mul 9 (Nat.mod (Nat.mul x (Nat.add (Nat.mul x x) a)) p)))) n
def dg (A b : Nat) : Nat := Nat.mod (Nat.shiftRight A (Nat.mul 9 b)) 512
def B0 (A p h : Nat) (n : Nat) : Bool := Nat.rec (motive := fun _ => Bool) true (fun b ih => cond (Nat.ble p (Nat.add (dg A b) h)) (cond (Nat.ble (dg A b) (Nat.add p h)) ih false) false) n
def P0 (C p h : Nat) (n : Nat) : Bool := Nat.rec (motive := fun _ => Bool) true (fun a ih => cond (B0 (A0 C p a p) p h p) ih false) n
def T0 (S : Nat) (n : Nat) : Bool := Nat.rec (motive := fun _ => Bool) true (fun v ih => cond (or (Nat.beq (dg S (Nat.succ v)) 0) (Nat.beq (dg S (Nat.succ v)) 2)) ih false) n
def chkT (p : Nat) : Bool := cond (Nat.beq (dg (S0 p p) 0) 1) (T0 (S0 p p) (p - 1)) false
def chkH (p h : Nat) : Bool := cond (Nat.ble (Nat.succ (Nat.mul h h)) (Nat.mul 4 p)) (P0 (Nat.mul (S0 p p) (Nat.succ (Nat.pow 512 p))) p h p) false
theorem sm_cong : ∀ {f g : Nat → Nat} (n : Nat), (∀ i, i < n → f i = g i) → sm f n = sm g n
  | f, g, 0, _ => rfl
  | f, g, n + 1, h => by
    simp only [sm]
    rw [sm_cong n fun i hi => h i (by omega), h n (by omega)]
theorem sm_le : ∀ {f : Nat → Nat} {c : Nat} (n : Nat), (∀ i, i < n → f i ≤ c) → sm f n ≤ c * n
  | f, c, 0, _ => by simp [sm]
  | f, c, n + 1, h => by
    simp only [sm]
    have h1 := sm_le n fun i hi => h i (by omega)
    have h2 := h n (by omega)
    rw [Nat.mul_succ]; omega
theorem cnt_le {p n v : Nat} : cnt p n v ≤ n := by
  have := sm_le (f := fun y => if v = y * y % p then 1 else 0) (c := 1) n fun i _ => by show (if v = i * i % p then 1 else 0) ≤ 1; split <;> omega
  unfold cnt; omega
theorem S0_pk {p : Nat} (hp : 0 < p) : ∀ n, S0 p n = pk (cnt p n) p
  | 0 => by
    rw [pk_zero (cnt p 0) p fun i _ => rfl]; rfl
  | n + 1 => by
    have e : S0 p (n + 1) = S0 p n + 512 ^ (n * n % p) := rfl
    rw [e, S0_pk hp n, ← pk_one (n * n % p) p (Nat.mod_lt _ hp), pk_add]
    rfl
theorem dg_eq (A b : Nat) : dg A b = A / 512 ^ b % 512 := by
  show (A >>> (9 * b)) % 512 = _
  rw [Nat.shiftRight_eq_div_pow, Nat.pow_mul]
theorem T0_ok {S : Nat} : ∀ (n : Nat), T0 S n = true → ∀ v, 0 < v → v ≤ n → dg S v = 0 ∨ dg S v = 2
  | 0, _, v, h1, h2 => absurd h2 (by omega)
  | n + 1, h, v, h1, h2 => by
    have e : T0 S (n + 1) = cond (or (Nat.beq (dg S (n + 1)) 0) (Nat.beq (dg S (n + 1)) 2)) (T0 S n) false := rfl
    rw [e] at h
    cases hc : or (Nat.beq (dg S (n + 1)) 0) (Nat.beq (dg S (n + 1)) 2) with
    | false => rw [hc] at h; cases h
    | true =>
      rw [hc] at h
      by_cases hv : v = n + 1
      · subst hv
        rw [Bool.or_eq_true] at hc
        exact hc.imp Nat.eq_of_beq_eq_true Nat.eq_of_beq_eq_true
      · exact T0_ok n h v h1 (by omega)
theorem chkT_ok {p : Nat} (hp : 0 < p) (hp2 : p < 200) (h : chkT p = true) : cnt p p 0 = 1 ∧ ∀ v, 0 < v → cnt p p v = 0 ∨ cnt p p v = 2 := by
  have hd : ∀ v, v < p → dg (S0 p p) v = cnt p p v := fun v hv => by
    rw [dg_eq, S0_pk hp]
    exact pk_dig (fun i => by have := cnt_le (p := p) (n := p) (v := i); omega) (fun i hi => cnt_out hp hi) hv
  unfold chkT at h
  cases hc : Nat.beq (dg (S0 p p) 0) 1 with
  | false => rw [hc] at h; cases h
  | true =>
    rw [hc] at h
    refine ⟨by rw [← hd 0 hp]; exact Nat.eq_of_beq_eq_true hc, fun v hv => ?_⟩
    by_cases hvp : v < p
    · rw [← hd v hvp]
      exact T0_ok (p - 1) h v hv (by omega)
    · exact .inl (cnt_out hp (by omega))
theorem cnt_two {p v : Nat} (h : cnt p p 0 = 1 ∧ ∀ v, 0 < v → cnt p p v = 0 ∨ cnt p p v = 2) : cnt p p v ≤ 2 := by
  rcases Nat.eq_zero_or_pos v with e | e
  · subst e; omega
  · have := h.2 v e; omega
/-- two copies of the table -/
def two (p i : Nat) : Nat := cnt p p i + if p ≤ i then cnt p p (i - p) else 0
theorem two_pk {p : Nat} (hp : 0 < p) : Nat.mul (S0 p p) (Nat.succ (Nat.pow 512 p)) = pk (two p) (p + p) := by
  show S0 p p * (512 ^ p + 1) = _
  rw [S0_pk hp, Nat.mul_add, Nat.mul_one, Nat.mul_comm, pk_up, Nat.add_comm (pk _ _), ← pk_more (cnt p p) p p (fun i hi => cnt_out hp hi), pk_add]
  rfl
theorem two_in {p i : Nat} (hp : 0 < p) (h : i < p + p) : two p i = cnt p p (i % p) := by
  unfold two
  by_cases hi : p ≤ i
  · rw [if_pos hi, cnt_out hp hi, Nat.zero_add, Nat.mod_eq_sub_mod hi, Nat.mod_eq_of_lt (by omega)]
  · rw [if_neg hi, Nat.mod_eq_of_lt (by omega)]; rfl
theorem two_out {p i : Nat} (hp : 0 < p) (h : p + p ≤ i) : two p i = 0 := by
  unfold two
  rw [if_pos (by omega), cnt_out hp (by omega), cnt_out hp (by omega)]
theorem two_le {p i : Nat} (hp : 0 < p) (h : cnt p p 0 = 1 ∧ ∀ v, 0 < v → cnt p p v = 0 ∨ cnt p p v = 2) : two p i ≤ 2 := by
  by_cases hi : i < p + p
  · rw [two_in hp hi]; exact cnt_two h
  · rw [two_out hp (by omega)]; omega
theorem A0_pk {p a : Nat} (hp : 0 < p) (h : cnt p p 0 = 1 ∧ ∀ v, 0 < v → cnt p p v = 0 ∨ cnt p p v = 2) : ∀ n, A0 (pk (two p) (p + p)) p a n = pk (fun i => sm (fun x => two p (i + x * (x * x + a) % p)) n) (p + p)
  | 0 => by
    rw [pk_zero (fun i => sm (fun x => two p (i + x * (x * x + a) % p)) 0) (p + p) fun i _ => rfl]; rfl
  | n + 1 => by
    have e : A0 (pk (two p) (p + p)) p a (n + 1) = A0 (pk (two p) (p + p)) p a n + (pk (two p) (p + p)) >>> (9 * (n * (n * n + a) % p)) := rfl
    rw [e, A0_pk hp h n, Nat.shiftRight_eq_div_pow, Nat.pow_mul, show (2 : Nat) ^ 9 = 512 from rfl, pk_div _ (fun i => by have := two_le (i := i) hp h; omega) (fun i hi => two_out hp hi), pk_add]
    rfl
theorem P0_ok {C p h : Nat} : ∀ (n : Nat), P0 C p h n = true → ∀ a, a < n → B0 (A0 C p a p) p h p = true
  | 0, _, a, h1 => absurd h1 (by omega)
  | n + 1, hh, a, h1 => by
    have e : P0 C p h (n + 1) = cond (B0 (A0 C p n p) p h p) (P0 C p h n) false := rfl
    rw [e] at hh
    cases hc : B0 (A0 C p n p) p h p with
    | false => rw [hc] at hh; cases hh
    | true =>
      rw [hc] at hh
      by_cases ha : a = n
      · subst ha; exact hc
      · exact P0_ok n hh a (by omega)
theorem B0_ok {A p h : Nat} : ∀ (n : Nat), B0 A p h n = true → ∀ b, b < n → p ≤ dg A b + h ∧ dg A b ≤ p + h
  | 0, _, a, h1 => absurd h1 (by omega)
  | n + 1, hh, a, h1 => by
    have e : B0 A p h (n + 1) = cond (Nat.ble p (Nat.add (dg A n) h)) (cond (Nat.ble (dg A n) (Nat.add p h)) (B0 A p h n) false) false := rfl
    rw [e] at hh
    cases hc : Nat.ble p (Nat.add (dg A n) h) with
    | false => rw [hc] at hh; cases hh
    | true =>
      rw [hc] at hh
      cases hd : Nat.ble (dg A n) (Nat.add p h) with
      | false => rw [hd] at hh; cases hh
      | true =>
        rw [hd] at hh
        by_cases ha : a = n
        · subst ha; exact ⟨Nat.le_of_ble_eq_true hc, Nat.le_of_ble_eq_true hd⟩
        · exact B0_ok n hh a (by omega)
/-- how many pairs x, y a curve has -/
def pts (p a b : Nat) : Nat := sm (fun x => cnt p p ((x * (x * x + a) + b) % p)) p
theorem chkH_ok {p h : Nat} (hp : 0 < p) (hp2 : p < 200) (ht : chkT p = true) (hh : chkH p h = true) {a b : Nat} (ha : a < p) (hb : b < p) : p ≤ pts p a b + h ∧ pts p a b ≤ p + h ∧ h * h < 4 * p := by
  have h2 := chkT_ok hp hp2 ht
  unfold chkH at hh
  cases hc : Nat.ble (Nat.succ (Nat.mul h h)) (Nat.mul 4 p) with
  | false => rw [hc] at hh; cases hh
  | true =>
    rw [hc] at hh
    have h3 := B0_ok p (P0_ok p hh a ha) b hb
    rw [two_pk hp, A0_pk hp h2, dg_eq, pk_dig (fun i => ?_) (fun i hi => ?_) (by omega)] at h3
    · have e : sm (fun x => two p (b + x * (x * x + a) % p)) p = pts p a b := by
        refine sm_cong p fun x hx => ?_
        have hl := Nat.mod_lt (x * (x * x + a)) hp
        rw [two_in hp (by omega)]
        congr 1
        rw [Nat.add_mod_mod, Nat.add_comm]
      rw [e] at h3
      exact ⟨h3.1, h3.2, Nat.le_of_ble_eq_true hc⟩
    · have := sm_le (f := fun x => two p (i + x * (x * x + a) % p)) (c := 2) p fun x _ => two_le hp h2
      omega
    · have := sm_le (f := fun x => two p (i + x * (x * x + a) % p)) (c := 0) p fun x _ => by rw [two_out hp (by omega)]; omega
      omega
end Pi.Ha
/-! K17c: the finite checks, printed -/
namespace Pi.Ha
def primesN : List Nat := [7, 11, 13, 17, 19, 23, 29, 31, 37, 41, 43, 47, 53, 59, 61, 67, 71, 73, 79, 83, 89, 97, 101, 103, 107, 109, 113, 127, 131, 137, 139, 149, 151, 157, 163, 167, 173, 179, 181, 191, 193, 197, 199]
theorem h7 : chkH 7 5 = true := by decide +kernel
theorem h11 : chkH 11 6 = true := by decide +kernel
theorem h13 : chkH 13 7 = true := by decide +kernel
theorem h17 : chkH 17 8 = true := by decide +kernel
theorem h19 : chkH 19 8 = true := by decide +kernel
theorem h23 : chkH 23 9 = true := by decide +kernel
theorem h29 : chkH 29 10 = true := by decide +kernel
theorem h31 : chkH 31 11 = true := by decide +kernel
theorem h37 : chkH 37 12 = true := by decide +kernel
theorem h41 : chkH 41 12 = true := by decide +kernel
theorem h43 : chkH 43 13 = true := by decide +kernel
theorem h47 : chkH 47 13 = true := by decide +kernel
theorem h53 : chkH 53 14 = true := by decide +kernel
theorem h59 : chkH 59 15 = true := by decide +kernel
theorem h61 : chkH 61 15 = true := by decide +kernel
theorem h67 : chkH 67 16 = true := by decide +kernel
theorem h71 : chkH 71 16 = true := by decide +kernel
theorem h73 : chkH 73 17 = true := by decide +kernel
theorem h79 : chkH 79 17 = true := by decide +kernel
theorem h83 : chkH 83 18 = true := by decide +kernel
theorem h89 : chkH 89 18 = true := by decide +kernel
theorem h97 : chkH 97 19 = true := by decide +kernel
theorem h101 : chkH 101 20 = true := by decide +kernel
theorem h103 : chkH 103 20 = true := by decide +kernel
theorem h107 : chkH 107 20 = true := by decide +kernel
theorem h109 : chkH 109 20 = true := by decide +kernel
theorem h113 : chkH 113 21 = true := by decide +kernel
theorem h127 : chkH 127 22 = true := by decide +kernel
theorem h131 : chkH 131 22 = true := by decide +kernel
theorem h137 : chkH 137 23 = true := by decide +kernel
theorem h139 : chkH 139 23 = true := by decide +kernel
theorem h149 : chkH 149 24 = true := by decide +kernel
theorem h151 : chkH 151 24 = true := by decide +kernel
theorem h157 : chkH 157 25 = true := by decide +kernel
theorem h163 : chkH 163 25 = true := by decide +kernel
theorem h167 : chkH 167 25 = true := by decide +kernel
theorem h173 : chkH 173 26 = true := by decide +kernel
theorem h179 : chkH 179 26 = true := by decide +kernel
theorem h181 : chkH 181 26 = true := by decide +kernel
theorem h191 : chkH 191 27 = true := by decide +kernel
theorem h193 : chkH 193 27 = true := by decide +kernel
theorem h197 : chkH 197 28 = true := by decide +kernel
theorem h199 : chkH 199 28 = true := by decide +kernel
theorem tabs : ∀ p ∈ primesN, chkT p = true := by decide +kernel
theorem hasse_all : ∀ p ∈ primesN, ∃ h, chkH p h = true := by
  simp only [primesN, List.forall_mem_cons]
  exact ⟨⟨_, h7⟩, ⟨_, h11⟩, ⟨_, h13⟩, ⟨_, h17⟩, ⟨_, h19⟩, ⟨_, h23⟩, ⟨_, h29⟩, ⟨_, h31⟩, ⟨_, h37⟩, ⟨_, h41⟩, ⟨_, h43⟩, ⟨_, h47⟩, ⟨_, h53⟩, ⟨_, h59⟩, ⟨_, h61⟩, ⟨_, h67⟩, ⟨_, h71⟩, ⟨_, h73⟩, ⟨_, h79⟩, ⟨_, h83⟩, ⟨_, h89⟩, ⟨_, h97⟩, ⟨_, h101⟩, ⟨_, h103⟩, ⟨_, h107⟩, ⟨_, h109⟩, ⟨_, h113⟩, ⟨_, h127⟩, ⟨_, h131⟩, ⟨_, h137⟩, ⟨_, h139⟩, ⟨_, h149⟩, ⟨_, h151⟩, ⟨_, h157⟩, ⟨_, h163⟩, ⟨_, h167⟩, ⟨_, h173⟩, ⟨_, h179⟩, ⟨_, h181⟩, ⟨_, h191⟩, ⟨_, h193⟩, ⟨_, h197⟩, ⟨_, h199⟩, fun _ h => absurd h List.not_mem_nil⟩
theorem primesN_rng : ∀ p ∈ primesN, 7 ≤ p ∧ p < 200 := by decide +kernel
end Pi.Ha
/-! K17b: the deck -/
namespace Pi.K17
open PySem L2
def deckL (l : List Int) (m d : Int) : List (Key × D) := [(.inr "cells", .lst (l.map .int)), (.inr "mixed", .int m), (.inr "turn", .int d)]
theorem lk_draw : defs.lookup ("_law_draw" : Str) = some d__law_draw := by rfl
theorem n1 : (.inr ("cells" : Str) : Key) ≠ .inr ("mixed" : Str) := by decide +kernel
theorem n2 : (.inr ("cells" : Str) : Key) ≠ .inr ("turn" : Str) := by decide +kernel
theorem n3 : (.inr ("mixed" : Str) : Key) ≠ .inr ("turn" : Str) := by decide +kernel
theorem g_cells {l : List Int} {m d : Int} : getK (deckL l m d) (.inr "cells") = some (.lst (l.map .int)) := by
  unfold deckL; exact getK_y
theorem g_mixed {l : List Int} {m d : Int} : getK (deckL l m d) (.inr "mixed") = some (.int m) := by
  unfold deckL; rw [getK_n n1, getK_y]
theorem g_turn {l : List Int} {m d : Int} : getK (deckL l m d) (.inr "turn") = some (.int d) := by
  unfold deckL; rw [getK_n n2, getK_n n3, getK_y]
theorem p_cells {l l' : List Int} {m d : Int} : putD (deckL l m d) (.inr "cells") (.lst (l'.map .int)) = deckL l' m d := by
  exact putD_y
theorem p_mixed {l : List Int} {m m' d : Int} : putD (deckL l m d) (.inr "mixed") (.int m') = deckL l m' d := by
  unfold deckL; rw [putD_n n1, putD_y]
theorem p_turn {l : List Int} {m d d' : Int} : putD (deckL l m d) (.inr "turn") (.int d') = deckL l m d' := by
  unfold deckL; rw [putD_n n2, putD_n n3, putD_y]
theorem deck_len {l : List Int} {m d : Int} : (deckL l m d).length < sizeLine := by simp [deckL]; decide
theorem s1 {cf : Cf} {l : List Int} {m d many : Int} {x : Option Sl} : exec cf (.setix 0 (.str "turn") (.q (.op2 .Add (.ix (.var 0) (.str "turn")) (.int 1)))) [some (.dk (deckL l m d), 2), some (.int many, 0), x] = .ok .nx [some (.dk (deckL l m (d + 1)), 2), some (.int many, 0), x] := by
  simp only [exec, ev, gt, st, bind_ok, of_some, ixD_dk, g_turn, op2_add, addD_i, fr_i, nofz_i, if_true, Option.isNone_some, Bool.false_eq_true, if_false, setD_dk deck_len (hasd_i (k := 2 - 1)), p_turn]
theorem s2 {cf : Cf} {l : List Int} {m d many c : Int} : exec cf (.setix 0 (.str "mixed") (.q (.op2 .Mod (.blt .int (.cons (.op2 .Add (.ix (.var 0) (.str "mixed")) (.var 2)) .nil)) (.int 2147483647)))) [some (.dk (deckL l m d), 2), some (.int many, 0), some (.int c, 0)] = .ok .nx [some (.dk (deckL l ((m + c) % 2147483647) d), 2), some (.int many, 0), some (.int c, 0)] := by
  simp only [exec, ev, evA, valsA, Option.map_some, demL, List.map_cons, List.map_nil, intB_i, gt, st, bind_ok, of_some, ixD_dk, g_mixed, op2_add, addD_i, op2_mod, modD_i (j := 2147483647) (by decide), fr_i, nofz_i, if_true, Option.isNone_some, Bool.false_eq_true, if_false, setD_dk deck_len (hasd_i (k := 2 - 1)), p_mixed]
theorem s2b {cf : Cf} {l : List Int} {m d many : Int} {x : Option Sl} : exec cf (.setix 0 (.str "mixed") (.q (.op2 .Mod (.blt .int (.cons (.op2 .Add (.op2 .Add (.op2 .Mult (.ix (.var 0) (.str "mixed")) (.int 48271)) (.op2 .Mult (.ix (.var 0) (.str "turn")) (.int 69621))) (.int 1)) .nil)) (.int 2147483647)))) [some (.dk (deckL l m d), 2), some (.int many, 0), x] = .ok .nx [some (.dk (deckL l ((m * 48271 + d * 69621 + 1) % 2147483647) d), 2), some (.int many, 0), x] := by
  have a1 : mulOk m 48271 = true := by simp [mulOk]
  have a2 : mulOk d 69621 = true := by simp [mulOk]
  simp only [exec, ev, evA, valsA, Option.map_some, demL, List.map_cons, List.map_nil, intB_i, gt, st, bind_ok, of_some, ixD_dk, g_mixed, g_turn, op2_add, addD_i, op2_mul, mulD_i a1, mulD_i a2, op2_mod, modD_i (j := 2147483647) (by decide), fr_i, nofz_i, if_true, Option.isNone_some, Bool.false_eq_true, if_false, setD_dk deck_len (hasd_i (k := 2 - 1)), p_mixed]
theorem kk {l : List Int} {m d : Int} {mm : Mm} (h : mmK mm = 1) : (kndK (some (.dk (deckL l m d), 2)) "cells" != mmK mm) = false := by
  have : kndK (some (.dk (deckL l m d), 2)) "cells" = 1 := by simp only [kndK, g_cells, kndD]
  rw [this, h]; rfl
/-- the pop -/
theorem s3 {cf : Cf} {l : List Int} {m d many : Int} (hl : l ≠ []) : exec cf (.asg (.nm 2) (.mutk .pop 0 "cells" .nil)) [some (.dk (deckL l m d), 2), some (.int many, 0), none] = .ok .nx [some (.dk (deckL l.dropLast m d), 2), some (.int many, 0), some (.int (l.getLast hl), 0)] := by
  have h2 : mutD .pop (.lst (l.map .int)) 1 [] = some ((.int (l.getLast hl), 0), .lst (l.dropLast.map .int)) := by
    have : (l.map D.int)[(l.map D.int).length - 1]? = some (.int (l.getLast hl)) := by
      rw [List.length_map, List.getElem?_map, ← List.getLast?_eq_getElem?, List.getLast?_eq_getLast hl]; rfl
    simp only [mutD, this, Option.map_some, List.map_dropLast, Nat.sub_self]
  simp only [exec, ev, gt, kk (mm := .pop) rfl, Bool.false_eq_true, if_false, evA, bind_ok, valsA, of_some, g_cells, h2, p_cells, st]
def mx (b : Int) : Int := if b > 2 then b else 2
/-- put back -/
theorem s4 {cf : Cf} {l : List Int} {m d many cell : Int} (hl : l.length < sizeLine) (hd : divOk (mx many) = true) : exec cf (.expr (.mutk .append 0 "cells" (.cons (.op2 .FloorDiv (.var 2) (.blt .max (.cons (.int 2) (.cons (.var 1) .nil)))) .nil))) [some (.dk (deckL l m d), 2), some (.int many, 0), some (.int cell, 0)] = .ok .nx [some (.dk (deckL (l ++ [cell / mx many]) m d), 2), some (.int many, 0), some (.int cell, 0)] := by
  have h2 : mutD .append (.lst (l.map .int)) 1 [(.int (cell / mx many), 0)] = some ((.non, 0), .lst ((l ++ [cell / mx many]).map .int)) := by
    have : ((l.map D.int).length < sizeLine) := by simpa using hl
    simp only [mutD, decide_eq_true this, hasd_i, Bool.and_self, if_true, List.map_append, List.map_cons, List.map_nil]
  have h3 : bltD .max [.int 2, .int many] = some (.int (mx many)) := maxB_i
  simp only [exec, ev, gt, kk (mm := .append) rfl, Bool.false_eq_true, if_false, evA, bind_ok, valsA, Option.map_some, demL, List.map_cons, List.map_nil, of_some, g_cells, h3, op2_fdiv, fdivD_i hd, fr_i, h2, p_cells, st]
def body3 : Sm := (.seq (.setix 0 (.str "mixed") (.q (.op2 .Mod (.blt .int (.cons (.op2 .Add (.op2 .Add (.op2 .Mult (.ix (.var 0) (.str "mixed")) (.int 48271)) (.op2 .Mult (.ix (.var 0) (.str "turn")) (.int 69621))) (.int 1)) .nil)) (.int 2147483647))))
    (.ret (.q (.op2 .Mod (.op2 .FloorDiv (.op2 .Mod (.blt .int (.cons (.op2 .Mult (.ix (.var 0) (.str "mixed")) (.ix (.var 0) (.str "mixed"))) .nil)) (.int 2147483629)) (.int 64)) (.var 1)))))
theorem s5 {cf : Cf} {l : List Int} {m d many : Int} {x : Option Sl} (hm : 0 < many) : ∃ r m', exec cf body3 [some (.dk (deckL l m d), 2), some (.int many, 0), x] = .ok (.rt (.int r, 0)) [some (.dk (deckL l m' d), 2), some (.int many, 0), x] ∧ 0 ≤ r ∧ r < many := by
  have b1 : 0 ≤ (m * 48271 + d * 69621 + 1) % 2147483647 := Int.emod_nonneg _ (by decide)
  have b2 : (m * 48271 + d * 69621 + 1) % 2147483647 < 2147483647 := Int.emod_lt_of_pos _ (by decide)
  unfold body3
  rw [exec_seq s2b]
  generalize (m * 48271 + d * 69621 + 1) % 2147483647 = g at *
  have a4 : mulOk g g = true := mulOk_small (by omega)
  have a5 : divOk 64 = true := by decide
  refine ⟨(g * g) % 2147483629 / 64 % many, g, exec_ret ?_, Int.emod_nonneg _ (by omega), Int.emod_lt_of_pos _ hm⟩
  simp only [ev, evA, gt, st, bind_ok, of_some, valsA, Option.map_some, demL, List.map_cons, List.map_nil, op2_mul, op2_mod, op2_fdiv, fr_i, intB_i,
      mulD_i a4, ixD_dk, g_mixed, modD_i (j := 2147483629) (by decide), nofz_i, if_true, fdivD_i a5, modD_i hm]
theorem tq_cells {cf : Cf} {l : List Int} {m d many : Int} : evT cf (.tq (.tcmp .NotEq (.ix (.var 0) (.str "cells")) (.lst 0 .nil))) [some (.dk (deckL l m d), 2), some (.int many, 0), none] = .ok (!l.isEmpty) [some (.dk (deckL l m d), 2), some (.int many, 0), none] := by
  have h0 : (decide (0 ≤ sizeLine)) = true := by simp
  simp only [evT, ev, evA, gt, st, bind_ok, of_some, ixD_dk, g_cells, valsA, List.all_nil, List.length_nil, h0, Bool.and_self, if_true, demL, List.map_nil, cmpD, eqD_nil, Option.map_some]
theorem powD_18 : op2D .Pow (.int 10) (.int 18) = some (.int (10 ^ 18)) := by
  rw [op2_pow]
  unfold powD
  exact if_pos (by decide)
theorem lt_size63 {n : Nat} (h : n ≤ 63) : n < sizeLine := Nat.lt_of_le_of_lt h (by decide)
theorem draw_body {cf : Cf} {l : List Int} {m d many : Int} (hm : 0 < many) (hm2 : many < 1073741824) (hl : l.length ≤ 63) :
    ∃ r l' m' ρ, exec cf d__law_draw.body [some (.dk (deckL l m d), 2), some (.int many, 0), none] = .ok (.rt (.int r, 0)) ρ ∧ gt ρ 0 = some (.dk (deckL l' m' (d + 1)), 2) ∧ 0 ≤ r ∧ r < many ∧ l'.length ≤ 63 := by
  have hd : divOk (mx many) = true := by unfold mx; split <;> simp [divOk] <;> omega
  have e0 : d__law_draw.body = .seq (.setix 0 (.str "turn") (.q (.op2 .Add (.ix (.var 0) (.str "turn")) (.int 1)))) (.seq (.ifs (.tq (.tcmp .NotEq (.ix (.var 0) (.str "cells")) (.lst 0 .nil)))
    (.seq (.asg (.nm 2) (.mutk .pop 0 "cells" .nil))
    (.seq (.ifs (.tcmp .GtE (.var 2) (.op2 .Pow (.int 10) (.int 18)))
    (.seq (.expr (.mutk .append 0 "cells" (.cons (.op2 .FloorDiv (.var 2) (.blt .max (.cons (.int 2) (.cons (.var 1) .nil)))) .nil)))
    (.ret (.op2 .Mod (.blt .int (.cons (.var 2) .nil)) (.var 1))))
    .skip)
    (.setix 0 (.str "mixed") (.q (.op2 .Mod (.blt .int (.cons (.op2 .Add (.ix (.var 0) (.str "mixed")) (.var 2)) .nil)) (.int 2147483647))))))
    .skip) body3) := rfl
  rw [e0, exec_seq s1]
  cases hle : l.isEmpty with
  | true =>
    have : l = [] := List.isEmpty_iff.mp hle
    subst this
    obtain ⟨r, m', h, h1, h2⟩ := s5 (cf := cf) (l := []) (m := m) (d := d + 1) (x := none) hm
    refine ⟨r, [], m', _, (exec_seq ?_).trans h, rfl, h1, h2, hl⟩
    exact exec_if_f tq_cells
  | false =>
    have hne : l ≠ [] := by
      rintro rfl
      cases hle
    have hl' : l.dropLast.length ≤ 63 := by simp; omega
    by_cases hc : (10 : Int) ^ 18 ≤ l.getLast hne
    · have hT : evT cf (.tcmp .GtE (.var 2) (.op2 .Pow (.int 10) (.int 18))) [some (.dk (deckL l.dropLast m (d + 1)), 2), some (.int many, 0), some (.int (l.getLast hne), 0)] = .ok true [some (.dk (deckL l.dropLast m (d + 1)), 2), some (.int many, 0), some (.int (l.getLast hne), 0)] := by
        simp only [evT, ev, gt, st, bind_ok, of_some, powD_18, fr_i, cmpD, decide_eq_true hc]
      have hR : ev cf (.op2 .Mod (.blt .int (.cons (.var 2) .nil)) (.var 1)) [some (.dk (deckL (l.dropLast ++ [l.getLast hne / mx many]) m (d + 1)), 2), some (.int many, 0), some (.int (l.getLast hne), 0)] = .ok (.int (l.getLast hne % many), 0) [some (.dk (deckL (l.dropLast ++ [l.getLast hne / mx many]) m (d + 1)), 2), some (.int many, 0), some (.int (l.getLast hne), 0)] := by
        simp only [ev, evA, gt, st, bind_ok, of_some, valsA, Option.map_some, demL, List.map_cons, List.map_nil, intB_i, fr_i, op2_mod, modD_i hm]
      refine ⟨l.getLast hne % many, l.dropLast ++ [l.getLast hne / mx many], m, [some (.dk (deckL (l.dropLast ++ [l.getLast hne / mx many]) m (d + 1)), 2), some (.int many, 0), some (.int (l.getLast hne), 0)], exec_seq_rt ?_, rfl, Int.emod_nonneg _ (by omega), Int.emod_lt_of_pos _ hm, by
        have : 0 < l.length := List.length_pos_iff.mpr hne
        simp; omega⟩
      rw [exec_if_t (by rw [tq_cells, hle]; rfl), exec_seq (s3 hne)]
      exact exec_seq_rt ((exec_if_t hT).trans ((exec_seq (s4 (lt_size63 hl') hd)).trans (exec_ret hR)))
    · have hT : evT cf (.tcmp .GtE (.var 2) (.op2 .Pow (.int 10) (.int 18))) [some (.dk (deckL l.dropLast m (d + 1)), 2), some (.int many, 0), some (.int (l.getLast hne), 0)] = .ok false [some (.dk (deckL l.dropLast m (d + 1)), 2), some (.int many, 0), some (.int (l.getLast hne), 0)] := by
        simp only [evT, ev, gt, st, bind_ok, of_some, powD_18, fr_i, cmpD, decide_eq_false hc]
      obtain ⟨r, m', h, h1, h2⟩ := s5 (cf := cf) (l := l.dropLast) (m := (m + l.getLast hne) % 2147483647) (d := d + 1) (x := some (.int (l.getLast hne), 0)) hm
      refine ⟨r, l.dropLast, m', _, (exec_seq ?_).trans h, rfl, h1, h2, hl'⟩
      rw [exec_if_t (by rw [tq_cells, hle]; rfl), exec_seq (s3 hne), exec_seq (exec_if_f hT)]
      exact s2
theorem draw_run {fuel k : Nat} {l : List Int} {m d many : Int} (hm : 0 < many) (hm2 : many < 1073741824) (hl : l.length ≤ 63) :
    ∃ r l' m', callN defs con fuel (k + 1) "_law_draw" [(.dk (deckL l m d), 2), (.int many, 0)] = .ok (.int r, 0) [some (.dk (deckL l' m' (d + 1)), 2), none] ∧ 0 ≤ r ∧ r < many ∧ l'.length ≤ 63 := by
  obtain ⟨r, l', m', ρ, h, h1, h2, h3, h4⟩ := draw_body (cf := ⟨callN defs con fuel k, con, fuel⟩) (m := m) (d := d) hm hm2 hl
  refine ⟨r, l', m', ?_, h2, h3, h4⟩
  rw [callN_ok (df := d__law_draw) (args := [(.dk (deckL l m d), 2), (.int many, 0)]) (ρ0 := [some (.dk (deckL l m d), 2), some (.int many, 0), none]) lk_draw rfl rfl h]
  have e2 : outsOf d__law_draw ρ = [gt ρ 0, none] := rfl
  rw [e2, h1]
theorem lk_deck : defs.lookup ("_law_deck" : Str) = some d__law_deck := by rfl
def deckB : Sm := (.asg (.nm 2) (.op2 .Mod (.blt .int (.cons (.op2 .Add (.op2 .Add (.op2 .Mult (.var 2) (.int 48271)) (.op2 .Mod (.blt .int (.cons (.var 3) .nil)) (.int 2147483563))) (.int 17)) .nil)) (.int 2147483647)))
theorem deck_loop {cf : Cf} {y z : Option Sl} : ∀ (l : List Int) (m : Int) (x : Option Sl), ∃ m' x', forL (fun x ρ => match setT (.nm 3) x ρ with | some ρ2 => exec cf deckB ρ2 | none => .stk) (l.map .int) [y, z, some (.int m, 0), x] = .ok .nx [y, z, some (.int m', 0), x']
  | [], m, x => ⟨m, x, rfl⟩
  | c :: l, m, x => by
    obtain ⟨m', x', h⟩ := deck_loop (cf := cf) (y := y) (z := z) l ((m * 48271 + c % 2147483563 + 17) % 2147483647) (some (.int c, 0))
    refine ⟨m', x', ?_⟩
    rw [List.map_cons, forL]
    have a1 : mulOk m 48271 = true := by simp [mulOk]
    have e : exec cf deckB [y, z, some (.int m, 0), some (.int c, 0)] = .ok .nx [y, z, some (.int ((m * 48271 + c % 2147483563 + 17) % 2147483647), 0), some (.int c, 0)] := by
      simp only [deckB, exec, ev, evA, gt, st, bind_ok, of_some, valsA, Option.map_some, demL, List.map_cons, List.map_nil, intB_i, fr_i, op2_mul, mulD_i a1, op2_mod, modD_i (i := c) (j := 2147483563) (by decide), op2_add, addD_i, modD_i (j := 2147483647) (by decide)]
    simp only [setT, st, e, bind_ok]
    exact h
theorem cut_ints (ns : List Int) : cutD (ns.map D.int) none (some 63) = (ns.take 63).map .int := by
  have := cut_to (l := ns.map D.int) (n := 63)
  rw [show (63 : Int) = ((63 : Nat) : Int) from rfl, this, List.map_take]
theorem slD_scr (ns : List Int) : slD (.scr ns) none (some 63) = some (.lst ((ns.take 63).map .int)) := by
  simp only [slD, cut_ints]
theorem itemsD_l {l : List D} : itemsD (.lst l) = some l := rfl
theorem pairs3 {a b c : D} : pairsK [.str "cells", a, .str "mixed", b, .str "turn", c] = some [(.inr "cells", a), (.inr "mixed", b), (.inr "turn", c)] := rfl
theorem merge3 {a b c : D} : mergeD [] [((.inr ("cells" : Str) : Key), a), (.inr ("mixed" : Str), b), (.inr ("turn" : Str), c)] = [(.inr ("cells" : Str), a), (.inr ("mixed" : Str), b), (.inr ("turn" : Str), c)] := by
  simp only [mergeD]
  rw [show putD ([] : List (Key × D)) (.inr ("cells" : Str)) a = [(.inr ("cells" : Str), a)] from rfl, putD_n n1, show putD ([] : List (Key × D)) (.inr ("mixed" : Str)) b = [(.inr ("mixed" : Str), b)] from rfl, putD_n n2, putD_n n3]
  rfl
def lcE : Ex := (.lc 0 [3] (.blt .int (.cons (.var 3) .nil)) (.nm 3) (.ival (.sl (.var 0) .nil (.ival (.int 63)))) .tyes)
theorem lc_run {cf : Cf} (ns : List Int) : ∃ ρ, ev cf lcE [some (.scr ns, 0), none, none, none] = .ok (.lst ((ns.take 63).map .int), 1) ρ ∧ ρ = [some (.scr ns, 0), none, none, none] := by
  have hi : evI cf (.ival (.sl (.var 0) .nil (.ival (.int 63)))) [some (.scr ns, 0), none, none, none] = .ok ((ns.take 63).map .int) [some (.scr ns, 0), none, none, none] := by
    simp only [evI, ev, evO, gt, st, bind_ok, of_some, slD_scr, fr_l, itemsD_l]
  obtain ⟨ρ, hl, hρ⟩ := lcl_fun (f := lcF cf 0 [3] (.blt .int (.cons (.var 3) .nil)) (.nm 3) .tyes) D.int D.int (fun ρ => ρ = [some (.scr ns, 0), none, none, none]) (ns.take 63) _ rfl (fun x _ ρ hρ => by
    subst hρ
    refine ⟨_, lcF_ok (s := (.int x, 0)) (ρ2 := [some (.scr ns, 0), none, none, some (.int x, 0)]) (ρ3 := [some (.scr ns, 0), none, none, some (.int x, 0)]) (ρ4 := [some (.scr ns, 0), none, none, some (.int x, 0)]) rfl rfl ?_ hasd_0, rfl⟩
    simp only [exec, ev, evA, evT, evO, gt, st, bind_ok, of_some, valsA, Option.map_some, demL, List.map_cons, List.map_nil, resolveA, List.all_nil, List.all_cons, if_true, Bool.false_eq_true, if_false, selL0, backsTo, op2_add, op2_sub, op2_mul, op2_mod, op2_fdiv, op2_and, addD_i, subD_i, fr_i, fr_b, fr_t, fr_l, hasd_0, hasd_i, Bool.and_self, Bool.and_true, nofz_i, nofz_b, intB_i, lenB_l, lenB_t, listB_t, tupB_l, maxB_i, cmp_lt, cmp_gt, cmp_ge, cmp_le, cmp_eq, cmp_ne, truthD_b, Option.isNone_some, List.length_map])
  refine ⟨_, ev_lcx (k := 0) (own := [3]) hi hl (by rw [List.length_map]; exact len_size (by simp; omega)), ?_⟩
  subst hρ
  rfl
theorem deck_run {fuel k : Nat} (ns : List Int) : ∃ l m, callN defs con fuel (k + 1) "_law_deck" [(.scr ns, 0)] = .ok (.dk (deckL l m 0), 2) [none] ∧ l.length ≤ 63 := by
  obtain ⟨m', x', hloop⟩ := deck_loop (cf := ⟨callN defs con fuel k, con, fuel⟩) (y := some (.scr ns, 0)) (z := some (.lst ((ns.take 63).map .int), 0)) (ns.take 63) 10876017 none
  refine ⟨(ns.take 63).reverse, m', ?_, by simp; omega⟩
  have e0 : d__law_deck.body = .seq (.par [1, 2] (.cons lcE (.cons (.int 10876017) .nil))) (.seq (.fors none (.nm 3) (.ival (.var 1)) deckB)
    (.ret (.dict 1 (.cons (.str "cells") (.cons (.rev (.var 1)) (.cons (.str "mixed") (.cons (.var 2) (.cons (.str "turn") (.cons (.int 0) .nil))))))))) := rfl
  obtain ⟨ρ1, hlc, hρ⟩ := lc_run (cf := ⟨callN defs con fuel k, con, fuel⟩) ns
  subst hρ
  have h1 : exec ⟨callN defs con fuel k, con, fuel⟩ (.par [1, 2] (.cons lcE (.cons (.int 10876017) .nil))) [some (.scr ns, 0), none, none, none] = .ok .nx [some (.scr ns, 0), some (.lst ((ns.take 63).map .int), 1), some (.int 10876017, 0), none] := by
    have hA : evA ⟨callN defs con fuel k, con, fuel⟩ (.cons lcE (.cons (.int 10876017) .nil)) [some (.scr ns, 0), none, none, none] = .ok [.val (.lst ((ns.take 63).map .int), 1), .val (.int 10876017, 0)] [some (.scr ns, 0), none, none, none] := by
      rw [evA]
      · rw [hlc]
        simp only [bind_ok, evA, ev]
      · intro i h; cases h
    simp only [exec, hA, bind_ok, valsA, Option.map_some, of_some, setAll, st]
  have h2 : exec ⟨callN defs con fuel k, con, fuel⟩ (.fors none (.nm 3) (.ival (.var 1)) deckB) [some (.scr ns, 0), some (.lst ((ns.take 63).map .int), 1), some (.int 10876017, 0), none] = .ok .nx [some (.scr ns, 0), some (.lst ((ns.take 63).map .int), 0), some (.int m', 0), x'] := by
    rw [exec_fors (evI_ivalL (l := (ns.take 63).map .int) (n := 0) rfl)]
    exact hloop
  have h3 : ev ⟨callN defs con fuel k, con, fuel⟩ (.dict 1 (.cons (.str "cells") (.cons (.rev (.var 1)) (.cons (.str "mixed") (.cons (.var 2) (.cons (.str "turn") (.cons (.int 0) .nil))))))) [some (.scr ns, 0), some (.lst ((ns.take 63).map .int), 0), some (.int m', 0), x'] = .ok (.dk (deckL (ns.take 63).reverse m' 0), 2) [some (.scr ns, 0), some (.lst ((ns.take 63).map .int), 0), some (.int m', 0), x'] := by
    have hz : (decide ((([(.str ("cells" : Str), 0), (.lst ((ns.take 63).map D.int).reverse, 1), (.str ("mixed" : Str), 0), (.int m', 0), (.str ("turn" : Str), 0), (.int 0, 0)] : List Sl)).length ≤ 30)) = true := by rfl
    have hh : hasd 1 (.lst ((ns.take 63).map D.int).reverse, 1) = true := by simp [hasd]
    simp only [ev, evA, evO, gt, st, bind_ok, of_some, valsA, Option.map_some, demL, List.map_cons, List.map_nil, fr_l, revD, List.all_cons, List.all_nil, hasd_s, hasd_i, hh, hz, Bool.and_self, Bool.and_true, if_true, pairs3, merge3]
    simp only [deckL, List.map_reverse]
  have hb := (exec_seq h1).trans ((exec_seq h2).trans (exec_ret h3))
  rw [← e0] at hb
  exact callN_ok (df := d__law_deck) (args := [(.scr ns, 0)]) (ρ0 := [some (.scr ns, 0), none, none, none]) lk_deck rfl rfl hb
theorem lk_pick : defs.lookup ("_law_pick" : Str) = some d__law_pick := by rfl
theorem atI_ints {ps : List Int} {r : Int} (h1 : 0 ≤ r) (h2 : r < ps.length) : ∃ p ∈ ps, atI (ps.map D.int) r = some (.int p) := by
  have hr : r.toNat < ps.length := by omega
  refine ⟨ps[r.toNat], List.getElem_mem hr, ?_⟩
  unfold atI ixN
  rw [if_pos h1, List.length_map, if_pos h2]
  simp [hr]
def DeckOk (d : D) : Prop := ∃ l m c, d = .dk (deckL l m c) ∧ l.length ≤ 63
theorem deck_F {fuel k : Nat} (ns : List Int) : ∃ d, callN defs con fuel (k + 1) "_law_deck" [(.scr ns, 0)] = .ok (d, 2) [none] ∧ DeckOk d := by
  obtain ⟨l, m, h, hl⟩ := deck_run (fuel := fuel) (k := k) ns
  exact ⟨_, h, l, m, 0, rfl, hl⟩
theorem draw_F {fuel k : Nat} {d : D} {many : Int} (hd : DeckOk d) (hm : 0 < many) (hm2 : many < 1073741824) : ∃ r d', callN defs con fuel (k + 1) "_law_draw" [(d, 2), (.int many, 0)] = .ok (.int r, 0) [some (d', 2), none] ∧ 0 ≤ r ∧ r < many ∧ DeckOk d' := by
  obtain ⟨l, m, c, rfl, hl⟩ := hd
  obtain ⟨r, l', m', h, h1, h2, h3⟩ := draw_run (fuel := fuel) (k := k) (m := m) (d := c) hm hm2 hl
  exact ⟨r, _, h, h1, h2, l', m', c + 1, rfl, h3⟩
theorem pick_F {fuel k n : Nat} {d : D} {ps : List Int} (hd : DeckOk d) (h0 : 0 < ps.length) (h1 : ps.length ≤ 1000) : ∃ p d', callN defs con fuel (k + 2) "_law_pick" [(d, 2), (.tup (ps.map .int), n)] = .ok (.int p, 0) [some (d', 2), none] ∧ p ∈ ps ∧ DeckOk d' := by
  obtain ⟨r, d', hr, hr1, hr2, hd'⟩ := draw_F (fuel := fuel) (k := k) (many := (ps.length : Nat)) hd (by omega) (by omega)
  obtain ⟨p, hp, ha⟩ := atI_ints hr1 hr2
  refine ⟨p, d', ?_, hp, hd'⟩
  have h3 : ev ⟨callN defs con fuel (k + 1), con, fuel⟩ (.ix (.var 1) (.call "_law_draw" (.cons (.lend 0) (.cons (.blt .len (.cons (.var 1) .nil)) .nil)) [] [(0, 0)])) [some (d, 2), some (.tup (ps.map .int), n)] = .ok (.int p, 0) [some (d', 2), some (.tup (ps.map .int), 0)] := by
    simp only [ev, evA, gt, st, bind_ok, of_some, Option.isSome_some, if_true, valsA, Option.map_some, demL, List.map_cons, List.map_nil, lenB_t, List.length_map, fr_i, resolveA, List.all_cons, List.all_nil, Option.isNone_none, Bool.and_self, selL, hr, backsTo, ixD_t, ha, List.getElem?_cons_zero, Option.getD_some]
  exact callN_ok (df := d__law_pick) (args := [(d, 2), (.tup (ps.map .int), n)]) (ρ0 := [some (d, 2), some (.tup (ps.map .int), n)]) lk_pick rfl rfl (exec_ret h3)
end Pi.K17
/-! K17d: numbers, the curve -/
namespace Pi.K17
open PySem L2 Pi.Ha
theorem con0 : con[0]? = some (.int 199) := rfl
theorem con1 : con[1]? = some (.int 7) := rfl
theorem lk_isint : defs.lookup ("is_integer" : Str) = some d_is_integer := by rfl
theorem lk_isprime : defs.lookup ("is_prime" : Str) = some d_is_prime := by rfl
theorem lk_isnumber : defs.lookup ("is_number" : Str) = some d_is_number := by rfl
theorem lk_Curve : defs.lookup ("Curve" : Str) = some d_Curve := by rfl
theorem isint_run {fuel k : Nat} {i : Int} : callN defs con fuel (k + 1) "is_integer" [(.int i, 0)] = .ok (.bl true, 0) [none] := by
  refine callN_ok (df := d_is_integer) (args := [(.int i, 0)]) (ρ0 := [some (.int i, 0)]) (ρ := [some (.int i, 0)]) lk_isint rfl rfl ?_
  have e0 : d_is_integer.body = (.ret (.and (.isin (.var 0) .int) (.not (.isin (.var 0) .bool)))) := rfl
  rw [e0]
  simp only [exec, ev, gt, st, bind_ok, of_some, isinD, tyD, Option.map_some, truthD, Bool.not_false]
theorem isprime_all {fuel k : Nat} : primesN.map (fun p : Nat => callN defs con fuel (k + 2) "is_prime" [(.int (p : Int), 0)]) = primesN.map (fun _ => Cr.ok (.bl true, 0) [none]) := by kernel_rfl
theorem isprime_run {fuel k p : Nat} (hp : p ∈ primesN) : callN defs con fuel (k + 2) "is_prime" [(.int (p : Int), 0)] = .ok (.bl true, 0) [none] := by
  have h := isprime_all (fuel := fuel) (k := k)
  generalize primesN = L at *
  induction L with
  | nil => cases hp
  | cons q L ih =>
    simp only [List.map_cons, List.cons.injEq] at h
    rcases List.mem_cons.mp hp with e | m
    · subst e; exact h.1
    · exact ih m h.2
theorem isnumber_body {cfg : Cf} {p x : Int} (h1 : cfg.call "is_integer" [(.int x, 0)] = .ok (.bl true, 0) [none]) (h0 : 0 ≤ x) (h2 : x < p) : exec cfg d_is_number.body [some (.int p, 0), some (.int x, 0)] = .ok (.rt (.bl true, 0)) [some (.int p, 0), some (.int x, 0)] := by
  have e0 : d_is_number.body = (.ret (.and (.call "is_integer" (.cons (.var 1) .nil) [] []) (.chain .LtE .Lt (.int 0) (.var 1) (.var 0)))) := rfl
  rw [e0]
  simp only [exec, ev, evA, evT, evO, gt, st, bind_ok, of_some, valsA, Option.map_some, demL, List.map_cons, List.map_nil, resolveA, List.all_nil, List.all_cons, if_true, Bool.false_eq_true, if_false, selL0, backsTo, op2_add, op2_sub, op2_mul, op2_mod, op2_fdiv, op2_and, addD_i, subD_i, fr_i, fr_b, fr_t, fr_l, hasd_0, hasd_i, Bool.and_self, Bool.and_true, nofz_i, nofz_b, intB_i, lenB_l, lenB_t, listB_t, tupB_l, maxB_i, cmp_lt, cmp_gt, cmp_ge, cmp_le, cmp_eq, cmp_ne, truthD_b, Option.isNone_some, List.length_map, h1, decide_eq_true h0, decide_eq_true h2]
theorem isnumber_run {fuel k : Nat} {p x : Int} (h0 : 0 ≤ x) (h2 : x < p) : callN defs con fuel (k + 2) "is_number" [(.int p, 0), (.int x, 0)] = .ok (.bl true, 0) [none, none] :=
  callN_ok (df := d_is_number) (args := [(.int p, 0), (.int x, 0)]) (ρ0 := [some (.int p, 0), some (.int x, 0)]) lk_isnumber rfl rfl (isnumber_body isint_run h0 h2)
def curveD (p a b : Int) : D := .ins "Curve" [("prime", .int p), ("a", .int a), ("b", .int b)]
def flat (p a b : Int) : Bool := (4 * a * a * a + 27 * b * b) % p == 0
theorem curve_body {cfg : Cf} {p a b : Int} (hp : 0 < p) (hp2 : p < 1000) (h1 : cfg.call "is_prime" [(.int p, 0)] = .ok (.bl true, 0) [none]) (h2 : ∀ x : Int, 0 ≤ x → x < p → cfg.call "is_number" [(.int p, 0), (.int x, 0)] = .ok (.bl true, 0) [none, none])
    (ha : 0 ≤ a ∧ a < p) (hb : 0 ≤ b ∧ b < p) (hf : flat p a b = false) : exec cfg d_Curve.body [none, some (.int p, 0), some (.int a, 0), some (.int b, 0)] = .ok (.rt (curveD p a b, 0)) [none, some (.int p, 0), some (.int a, 0), some (.int b, 0)] := by
  have e0 : d_Curve.body = (.seq (.ifs (.tnot (.tval (.call "is_prime" (.cons (.var 1) .nil) [] [])))
    .never
    .skip)
    (.seq (.ifs (.tnot (.tval (.call "is_number" (.cons (.var 1) (.cons (.var 2) .nil)) [] [])))
    .never
    .skip)
    (.seq (.ifs (.tnot (.tval (.call "is_number" (.cons (.var 1) (.cons (.var 3) .nil)) [] [])))
    .never
    .skip)
    (.seq (.ifs (.tcmp .Eq (.op2 .Mod (.op2 .Add (.op2 .Mult (.op2 .Mult (.op2 .Mult (.int 4) (.var 2)) (.var 2)) (.var 2)) (.op2 .Mult (.op2 .Mult (.int 27) (.var 3)) (.var 3))) (.var 1)) (.int 0))
    .never
    .skip)
    (.mkins "Curve" [("prime", 1), ("a", 2), ("b", 3)]))))) := rfl
  have m1 : mulOk 4 a = true := mulOk_small (by decide)
  have m2 : mulOk (4 * a) a = true := mulOk_small (by omega)
  have m3 : mulOk (4 * a * a) a = true := by
    have : (4 * a * a).natAbs < 2 ^ 64 := by
      have := Int.natAbs_mul (4 * a) a
      have h3 : (4 * a).natAbs * a.natAbs ≤ 4000 * 1000 := Nat.mul_le_mul (by omega) (by omega)
      omega
    exact mulOk_small this
  have m4 : mulOk 27 b = true := mulOk_small (by decide)
  have m5 : mulOk (27 * b) b = true := mulOk_small (by omega)
  have hfl : flatD (.int p) = true ∧ flatD (.int a) = true ∧ flatD (.int b) = true := ⟨rfl, rfl, rfl⟩
  rw [e0]
  unfold flat at hf
  simp only [exec, ev, evA, evT, evO, gt, st, bind_ok, of_some, valsA, Option.map_some, demL, List.map_cons, List.map_nil, resolveA, List.all_nil, List.all_cons, if_true, Bool.false_eq_true, if_false, selL0, backsTo, op2_add, op2_sub, op2_mul, op2_mod, op2_fdiv, op2_and, addD_i, subD_i, fr_i, fr_b, fr_t, fr_l, hasd_0, hasd_i, Bool.and_self, Bool.and_true, nofz_i, nofz_b, intB_i, lenB_l, lenB_t, listB_t, tupB_l, maxB_i, cmp_lt, cmp_gt, cmp_ge, cmp_le, cmp_eq, cmp_ne, truthD_b, Option.isNone_some, List.length_map, h1, h2 a ha.1 ha.2, h2 b hb.1 hb.2, Bool.not_true, mulD_i m1, mulD_i m2, mulD_i m3, mulD_i m4, mulD_i m5, modD_i hp, hf, fldsOf, flatD]
  rfl
theorem curve_run {fuel k p : Nat} {a b : Int} (hp : p ∈ primesN) (ha : 0 ≤ a ∧ a < p) (hb : 0 ≤ b ∧ b < p) (hf : flat p a b = false) : callN defs con fuel (k + 4) "Curve" [(.int (p : Int), 0), (.int a, 0), (.int b, 0)] = .ok (curveD p a b, 0) [none, none, none] := by
  have hr := primesN_rng p hp
  have h := curve_body (cfg := ⟨callN defs con fuel (k + 2), con, fuel⟩) (p := (p : Int)) (a := a) (b := b) (by omega) (by omega) (isprime_run hp) (fun x h0 h1 => isnumber_run h0 h1) ha hb hf
  rw [callN]
  simp only [lk_Curve]
  have e1 : isMk d_Curve.body = true := rfl
  simp only [e1, if_true]
  unfold runCl
  rw [if_pos (show ([(.int (p : Int), 0), (.int a, 0), (.int b, 0)] : List Sl).length = d_Curve.np from rfl)]
  have e2 : (none :: (([(.int (p : Int), 0), (.int a, 0), (.int b, 0)] : List Sl).map some ++ List.replicate (d_Curve.nl - d_Curve.np - 1) none) : Env) = [none, some (.int (p : Int), 0), some (.int a, 0), some (.int b, 0)] := rfl
  rw [e2, h]
  rfl
theorem f_prime {p a b : Int} : ([("prime", .int p), ("a", .int a), ("b", .int b)] : List (Str × D)).lookup ("prime" : Str) = some (.int p) := by rfl
theorem f_a {p a b : Int} : ([("prime", .int p), ("a", .int a), ("b", .int b)] : List (Str × D)).lookup ("a" : Str) = some (.int a) := by rfl
theorem f_b {p a b : Int} : ([("prime", .int p), ("a", .int a), ("b", .int b)] : List (Str × D)).lookup ("b" : Str) = some (.int b) := by rfl
end Pi.K17
/-! K17e: tables, traces, counts -/
namespace Pi.K17
open PySem L2 Pi.Ha
def tl (f : Nat → Int) (p : Nat) : List D := (List.range p).map fun v => D.int (f v)
theorem tl_len {f : Nat → Int} {p : Nat} : (tl f p).length = p := by simp [tl]
theorem tl_get {f : Nat → Int} {p m : Nat} (h : m < p) : (tl f p)[m]? = some (.int (f m)) := by
  unfold tl
  rw [List.getElem?_map, List.getElem?_range h]; rfl
theorem tl_at {f : Nat → Int} {p m : Nat} (h : m < p) : atI (tl f p) (m : Int) = some (.int (f m)) := atI_nat (tl_get h)
theorem tl_cong {f g : Nat → Int} {p : Nat} (h : ∀ v, v < p → f v = g v) : tl f p = tl g p := by
  unfold tl
  exact List.map_congr_left fun v hv => by rw [h v (List.mem_range.mp hv)]
theorem tl_set {f : Nat → Int} {p m : Nat} {x : Int} : (tl f p).set m (.int x) = tl (fun v => if v = m then x else f v) p := by
  apply List.ext_getElem?
  intro i
  rw [List.getElem?_set]
  by_cases hi : i < p
  · rw [tl_get hi, tl_get hi, tl_len]
    by_cases e : m = i
    · subst e; simp [hi]
    · rw [if_neg e, if_neg fun q => e q.symm]
  · rw [List.getElem?_eq_none (by rw [tl_len]; omega), List.getElem?_eq_none (l := tl _ p) (by rw [tl_len]; omega), tl_len]
    split
    · rename_i h; subst h; simp [hi]
    · rfl
theorem rep_tl {p : Nat} : (List.replicate p (0 : Int)).map D.int = tl (fun _ => 0) p := by
  unfold tl
  apply List.ext_getElem?
  intro i
  simp only [List.getElem?_map, List.getElem?_replicate]
  by_cases hi : i < p
  · rw [List.getElem?_range hi, if_pos hi]; rfl
  · rw [List.getElem?_eq_none (by simpa using hi), if_neg hi]; rfl
def smI (f : Nat → Int) : Nat → Int
  | 0 => 0
  | n + 1 => smI f n + f n
theorem sum_tl (f : Nat → Int) (p : Nat) : bltD .sum [.lst (tl f p)] = some (.int (smI f p)) := by
  have h : isInts (tl f p) = some ((List.range p).map f) := by
    unfold tl
    generalize List.range p = L
    induction L with
    | nil => rfl
    | cons x L ih => simp only [List.map_cons, isInts, ih, Option.map_some]
  have h2 : ((List.range p).map f).sum = smI f p := by
    clear h
    induction p with
    | zero => rfl
    | succ n ih => rw [List.range_succ, List.map_append, List.sum_append, ih]; simp [smI]
  show (isInts (tl f p)).map (fun ns => D.int ns.sum) = _
  rw [h, ← h2]; rfl
theorem mulOk_lt {a b : Nat} (h : a < 2 ^ 60) : mulOk (a : Int) (b : Int) = true := mulOk_small (by omega)
theorem cnt_succ {p i v : Nat} : cnt p (i + 1) v = cnt p i v + if v = i * i % p then 1 else 0 := rfl
/-! ### square_table -/
def sqf (p i v : Nat) : Int := if cnt p i v = 0 then -1 else 1
def tabI (p v : Nat) : Int := if v = 0 then 0 else sqf p p v
theorem lk_sq : defs.lookup ("square_table" : Str) = some d_square_table := by rfl
theorem sq_lc {cfg : Cf} {p : Nat} (hp2 : p < 1000) : ev cfg (.lc 0 [2] (.neg (.int 1)) (.nm 2) (.irng1 (.var 0)) .tyes) [some (.int (p : Int), 0), none, none, none] = .ok (.lst (tl (fun _ => -1) p), 1) [some (.int (p : Int), 0), none, none, none] := by
  have hi : evI cfg (.irng1 (.var 0)) [some (.int (p : Int), 0), none, none, none] = .ok ((List.range p).map fun k : Nat => D.int (k : Int)) [some (.int (p : Int), 0), none, none, none] := evI_irng1 (x := (.int (p : Int), 0)) rfl (rngZ (by omega))
  obtain ⟨ρ, hl, hρ⟩ := lcl_fun (f := lcF cfg 0 [2] (.neg (.int 1)) (.nm 2) .tyes) (fun k : Nat => D.int (k : Int)) (fun _ : Nat => D.int (-1)) (fun ρ => ρ = [some (.int (p : Int), 0), none, none, none]) (List.range p) _ rfl (fun x _ ρ hρ => by
    subst hρ
    exact ⟨_, lcF_ok (s := (.int (-1), 0)) (ρ2 := [some (.int (p : Int), 0), none, some (.int (x : Int), 0), none]) (ρ3 := [some (.int (p : Int), 0), none, some (.int (x : Int), 0), none]) (ρ4 := [some (.int (p : Int), 0), none, some (.int (x : Int), 0), none]) rfl rfl rfl hasd_0, rfl⟩)
  subst hρ
  exact ev_lcx (k := 0) (own := [2]) hi hl (by rw [List.length_map, List.length_range]; exact len_size (by omega))
def sqB : Sm := (.setix 1 (.op2 .Mod (.op2 .Mult (.var 3) (.var 3)) (.var 0)) (.int 1))
theorem sq_loop {cfg : Cf} {p : Nat} (hp : 0 < p) (hp2 : p < 1000) : ∃ ρ, exec cfg (.fors none (.nm 3) (.irng1 (.var 0)) sqB) [some (.int (p : Int), 0), some (.lst (tl (fun _ => -1) p), 1), none, none] = .ok .nx ρ ∧ ∃ y, ρ = [some (.int (p : Int), 0), some (.lst (tl (sqf p p) p), 1), none, y] := by
  refine fors_inv (fun i ρ => ∃ y, ρ = [some (.int (p : Int), 0), some (.lst (tl (sqf p i) p), 1), none, y]) (evI_irng1 (x := (.int (p : Int), 0)) (l := (List.range p).map fun k : Nat => D.int (k : Int)) rfl (rngZ (by omega))) ⟨none, ?_⟩ ?_ ?_
  · rw [show tl (sqf p 0) p = tl (fun _ => -1) p from rfl]; rfl
  · rintro j x ρ hx ⟨y, rfl⟩
    rw [List.getElem?_map] at hx
    have hj : j < p := by
      cases hc : (List.range p)[j]? with
      | none => rw [hc] at hx; cases hx
      | some q => have := (List.getElem?_eq_some_iff.mp hc).1; simpa using this
    rw [List.getElem?_range hj] at hx
    cases hx
    have e1 : (j : Int) * (j : Int) % (p : Int) = ((j * j % p : Nat) : Int) := by rw [Int.natCast_emod, Int.natCast_mul]
    have hs := setD_l (l := tl (sqf p j) p) (n := 1) (m := j * j % p) (v := (.int 1, 0)) (by rw [tl_len]; exact Nat.mod_lt _ hp) hasd_i
    refine ⟨_, _, rfl, ?_, some (.int (j : Int), 0), rfl⟩
    have hp' : (0 : Int) < (p : Int) := by omega
    simp only [sqB, st, exec, ev, evA, evT, evO, gt, st, bind_ok, of_some, valsA, Option.map_some, demL, List.map_cons, List.map_nil, resolveA, List.all_nil, List.all_cons, if_true, Bool.false_eq_true, if_false, selL0, backsTo, op2_add, op2_sub, op2_mul, op2_mod, op2_fdiv, op2_and, addD_i, subD_i, fr_i, fr_b, fr_t, fr_l, hasd_0, hasd_i, Bool.and_self, Bool.and_true, nofz_i, nofz_b, intB_i, lenB_l, lenB_t, listB_t, tupB_l, maxB_i, cmp_lt, cmp_gt, cmp_ge, cmp_le, cmp_eq, cmp_ne, truthD_b, Option.isNone_some, List.length_map, mulD_i (mulOk_lt (a := j) (b := j) (by omega)), modD_i hp', e1, hs, tl_set]
    have e2 : tl (fun v => if v = j * j % p then 1 else sqf p j v) p = tl (sqf p (j + 1)) p := tl_cong fun v _ => by
      unfold sqf
      rw [cnt_succ]
      by_cases hv : v = j * j % p
      · rw [if_pos hv, if_pos hv, if_neg (by omega)]
      · rw [if_neg hv, if_neg hv, Nat.add_zero]
    rw [e2]
  · rintro ρ ⟨y, rfl⟩
    exact ⟨y, by simp⟩
theorem sq_run {fuel k p : Nat} (hp : 0 < p) (hp2 : p < 1000) : callN defs con fuel (k + 1) "square_table" [(.int (p : Int), 0)] = .ok (.lst (tl (tabI p) p), 1) [none] := by
  obtain ⟨ρ, h2, y, rfl⟩ := sq_loop (cfg := ⟨callN defs con fuel k, con, fuel⟩) hp hp2
  have h1 := exec_asg (i := 1) (sq_lc (cfg := ⟨callN defs con fuel k, con, fuel⟩) hp2)
  have hs := setD_l (l := tl (sqf p p) p) (n := 1) (m := 0) (v := (.int 0, 0)) (by rw [tl_len]; omega) hasd_i
  have h3 : exec ⟨callN defs con fuel k, con, fuel⟩ (.setix 1 (.int 0) (.int 0)) [some (.int (p : Int), 0), some (.lst (tl (sqf p p) p), 1), none, y] = .ok .nx [some (.int (p : Int), 0), some (.lst (tl (tabI p) p), 1), none, y] := by
    have hs' : setD (.lst (tl (sqf p p) p)) 1 (.int 0) (.int 0, 0) = some (.lst (tl (tabI p) p)) := by
      refine hs.trans ?_
      rw [tl_set]; rfl
    simp only [exec, ev, evA, evT, evO, gt, st, bind_ok, of_some, valsA, Option.map_some, demL, List.map_cons, List.map_nil, resolveA, List.all_nil, List.all_cons, if_true, Bool.false_eq_true, if_false, selL0, backsTo, op2_add, op2_sub, op2_mul, op2_mod, op2_fdiv, op2_and, addD_i, subD_i, fr_i, fr_b, fr_t, fr_l, hasd_0, hasd_i, Bool.and_self, Bool.and_true, nofz_i, nofz_b, intB_i, lenB_l, lenB_t, listB_t, tupB_l, maxB_i, cmp_lt, cmp_gt, cmp_ge, cmp_le, cmp_eq, cmp_ne, truthD_b, Option.isNone_some, List.length_map, hs']
  exact callN_ok (df := d_square_table) (args := [(.int (p : Int), 0)]) (ρ0 := [some (.int (p : Int), 0), none, none, none]) lk_sq rfl rfl ((exec_seq h1).trans ((exec_seq h2).trans ((exec_seq h3).trans (exec_ret (v := (.lst (tl (tabI p) p), 1)) rfl))))
/-! ### the trace -/
def idx (p a b x : Nat) : Nat := (x * (x * x + a) + b) % p
theorem idx_lt {p a b x : Nat} (hp : 0 < p) : idx p a b x < p := Nat.mod_lt _ hp
theorem idx_i (p a b x : Nat) : ((x : Int) * x * x + (a : Int) * x + b) % (p : Int) = ((idx p a b x : Nat) : Int) := by
  unfold idx
  rw [Int.natCast_emod]
  congr 1
  push_cast
  grind
theorem lk_tbt : defs.lookup ("trace_by_table" : Str) = some d_trace_by_table := by rfl
theorem lc_gen {cfg : Cf} {p : Nat} {F : Nat → Int} {ρ0 : Env} {own : List Nat} {elt : Ex} {tg : Tg} {it : Ex} {I : Env → Prop} (hi : evI cfg it ρ0 = .ok ((List.range p).map fun k : Nat => D.int (k : Int)) ρ0) (hp : p ≤ 1000) (h0 : I (wp ρ0 own))
    (hs : ∀ x, x < p → ∀ ρ, I ρ → ∃ ρ2 ρ3, setT tg (.int (x : Nat)) ρ = some ρ2 ∧ ev cfg elt ρ2 = .ok (.int (F x), 0) ρ3 ∧ I (wp ρ3 own)) : ∃ ρ, ev cfg (.lc 0 own elt tg it .tyes) ρ0 = .ok (.lst (tl F p), 1) (rst ρ0 ρ own) ∧ I ρ := by
  obtain ⟨ρ, hl, hρ⟩ := lcl_fun (f := lcF cfg 0 own elt tg .tyes) (fun k : Nat => D.int (k : Int)) (fun x : Nat => D.int (F x)) I (List.range p) _ h0 (fun x hx ρ hρ => by
    obtain ⟨ρ2, ρ3, h1, h2, h3⟩ := hs x (List.mem_range.mp hx) ρ hρ
    exact ⟨_, lcF_ok h1 rfl h2 hasd_0, h3⟩)
  exact ⟨ρ, ev_lcx (k := 0) hi hl (by rw [tl_len]; exact len_size hp), hρ⟩
theorem m3 {x y z : Nat} (h1 : x < 1000) (h2 : y < 1000) : mulOk ((x : Int) * y) (z : Int) = true := by
  have : x * y ≤ 1000 * 1000 := Nat.mul_le_mul (by omega) (by omega)
  exact mulOk_small (by rw [← Int.natCast_mul]; omega)
theorem tbt_lc {cfg : Cf} {p a b : Nat} {f : Nat → Int} {n : Nat} (hp : 0 < p) (hp2 : p < 1000) (ha : a < 1000) : ∃ ρ, ev cfg (.lc 0 [4] (.ix (.var 3) (.op2 .Mod (.op2 .Add (.op2 .Add (.op2 .Mult (.op2 .Mult (.var 4) (.var 4)) (.var 4)) (.op2 .Mult (.var 1) (.var 4))) (.var 2)) (.var 0))) (.nm 4) (.irng1 (.var 0)) .tyes)
    [some (.int (p : Int), 0), some (.int (a : Int), 0), some (.int (b : Int), 0), some (.lst (tl f p), n), none] = .ok (.lst (tl (fun x => f (idx p a b x)) p), 1) ρ := by
  obtain ⟨ρ, h, _⟩ := lc_gen (cfg := cfg) (own := [4]) (F := fun x => f (idx p a b x)) (elt := (.ix (.var 3) (.op2 .Mod (.op2 .Add (.op2 .Add (.op2 .Mult (.op2 .Mult (.var 4) (.var 4)) (.var 4)) (.op2 .Mult (.var 1) (.var 4))) (.var 2)) (.var 0)))) (tg := .nm 4)
    (I := fun ρ => ∃ m, ρ = [some (.int (p : Int), 0), some (.int (a : Int), 0), some (.int (b : Int), 0), some (.lst (tl f p), m), none]) (p := p) (it := .irng1 (.var 0)) (ρ0 := [some (.int (p : Int), 0), some (.int (a : Int), 0), some (.int (b : Int), 0), some (.lst (tl f p), n), none])
    (evI_irng1 (x := (.int (p : Int), 0)) rfl (rngZ (by omega))) (by omega) ⟨n, rfl⟩ (fun x hx ρ hρ => by
      obtain ⟨m, rfl⟩ := hρ
      have hp' : (0 : Int) < (p : Int) := by omega
      refine ⟨_, [some (.int (p : Int), 0), some (.int (a : Int), 0), some (.int (b : Int), 0), some (.lst (tl f p), 0), some (.int (x : Nat), 0)], rfl, ?_, 0, rfl⟩
      have hat := tl_at (f := f) (idx_lt (p := p) (a := a) (b := b) (x := x) hp)
      simp only [st, exec, ev, evA, evT, evO, gt, st, bind_ok, of_some, valsA, Option.map_some, demL, List.map_cons, List.map_nil, resolveA, List.all_nil, List.all_cons, if_true, Bool.false_eq_true, if_false, selL0, backsTo, op2_add, op2_sub, op2_mul, op2_mod, op2_fdiv, op2_and, addD_i, subD_i, fr_i, fr_b, fr_t, fr_l, hasd_0, hasd_i, Bool.and_self, Bool.and_true, nofz_i, nofz_b, intB_i, lenB_l, lenB_t, listB_t, tupB_l, maxB_i, cmp_lt, cmp_gt, cmp_ge, cmp_le, cmp_eq, cmp_ne, truthD_b, Option.isNone_some, List.length_map, mulD_i (mulOk_lt (a := x) (b := x) (by omega)), mulD_i (m3 (x := x) (y := x) (z := x) (by omega) (by omega)), mulD_i (mulOk_lt (a := a) (b := x) (by omega)), modD_i hp', idx_i, ixD_l, hat])
  exact ⟨_, h⟩
def sumT (f : Nat → Int) (p a b : Nat) : Int := smI (fun x => f (idx p a b x)) p
theorem tbt_run {fuel k p a b n : Nat} {f : Nat → Int} (hp : 0 < p) (hp2 : p < 1000) (ha : a < 1000) : callN defs con fuel (k + 1) "trace_by_table" [(.int (p : Int), 0), (.int (a : Int), 0), (.int (b : Int), 0), (.lst (tl f p), n)] = .ok (.int (-sumT f p a b), 0) [none, none, none, none] := by
  obtain ⟨ρ, h⟩ := tbt_lc (cfg := ⟨callN defs con fuel k, con, fuel⟩) (f := f) (n := n) (b := b) hp hp2 ha
  have e0 : d_trace_by_table.body = (.ret (.neg (.blt .sum (.cons (.lc 0 [4] (.ix (.var 3) (.op2 .Mod (.op2 .Add (.op2 .Add (.op2 .Mult (.op2 .Mult (.var 4) (.var 4)) (.var 4)) (.op2 .Mult (.var 1) (.var 4))) (.var 2)) (.var 0))) (.nm 4) (.irng1 (.var 0)) .tyes) .nil)))) := rfl
  refine callN_ok (df := d_trace_by_table) (ρ := ρ) (args := [(.int (p : Int), 0), (.int (a : Int), 0), (.int (b : Int), 0), (.lst (tl f p), n)]) (ρ0 := [some (.int (p : Int), 0), some (.int (a : Int), 0), some (.int (b : Int), 0), some (.lst (tl f p), n), none]) lk_tbt rfl rfl ?_
  rw [e0]
  refine exec_ret ?_
  rw [ev, ev, evA]
  · rw [h]
    simp only [bind_ok, evA, valsA, Option.map_some, of_some, demL, List.map_cons, List.map_nil, sum_tl, fr_i]
    rfl
  · intro i h; cases h
theorem lk_trace : defs.lookup ("trace" : Str) = some d_trace := by rfl
theorem trace_body {cfg : Cf} {p a b t : Int} {s : D} (h1 : cfg.call "square_table" [(.int p, 0)] = .ok (s, 1) [none]) (h2 : cfg.call "trace_by_table" [(.int p, 0), (.int a, 0), (.int b, 0), (s, 1)] = .ok (.int t, 0) [none, none, none, none]) :
    exec cfg d_trace.body [some (curveD p a b, 0)] = .ok (.rt (.int t, 0)) [some (curveD p a b, 0)] := by
  have e0 : d_trace.body = (.ret (.call "trace_by_table" (.cons (.fld (.var 0) "prime") (.cons (.fld (.var 0) "a") (.cons (.fld (.var 0) "b") (.cons (.call "square_table" (.cons (.fld (.var 0) "prime") .nil) [] []) .nil)))) [] [])) := rfl
  rw [e0]
  unfold curveD
  simp only [exec, ev, evA, evT, evO, gt, st, bind_ok, of_some, valsA, Option.map_some, demL, List.map_cons, List.map_nil, resolveA, List.all_nil, List.all_cons, if_true, Bool.false_eq_true, if_false, selL0, backsTo, op2_add, op2_sub, op2_mul, op2_mod, op2_fdiv, op2_and, addD_i, subD_i, fr_i, fr_b, fr_t, fr_l, hasd_0, hasd_i, Bool.and_self, Bool.and_true, nofz_i, nofz_b, intB_i, lenB_l, lenB_t, listB_t, tupB_l, maxB_i, cmp_lt, cmp_gt, cmp_ge, cmp_le, cmp_eq, cmp_ne, truthD_b, Option.isNone_some, List.length_map, f_prime, f_a, f_b, h1, h2]
def trF (p a b : Nat) : Int := -sumT (tabI p) p a b
theorem trace_run {fuel k p a b : Nat} (hp : 0 < p) (hp2 : p < 1000) (ha : a < 1000) : callN defs con fuel (k + 2) "trace" [(curveD p a b, 0)] = .ok (.int (trF p a b), 0) [none] :=
  callN_ok (df := d_trace) (args := [(curveD p a b, 0)]) (ρ0 := [some (curveD p a b, 0)]) lk_trace rfl rfl (trace_body (sq_run hp hp2) (tbt_run hp hp2 ha))
theorem lk_trem : defs.lookup ("trace_remainder" : Str) = some d_trace_remainder := by rfl
theorem trem_body {cfg : Cf} {c : D} {t l : Int} (h : cfg.call "trace" [(c, 0)] = .ok (.int t, 0) [none]) (hl : 0 < l) : exec cfg d_trace_remainder.body [some (c, 0), some (.int l, 0)] = .ok (.rt (.int (t % l), 0)) [some (c, 0), some (.int l, 0)] := by
  have e0 : d_trace_remainder.body = (.ret (.op2 .Mod (.call "trace" (.cons (.var 0) .nil) [] []) (.var 1))) := rfl
  rw [e0]
  simp only [exec, ev, evA, evT, evO, gt, st, bind_ok, of_some, valsA, Option.map_some, demL, List.map_cons, List.map_nil, resolveA, List.all_nil, List.all_cons, if_true, Bool.false_eq_true, if_false, selL0, backsTo, op2_add, op2_sub, op2_mul, op2_mod, op2_fdiv, op2_and, addD_i, subD_i, fr_i, fr_b, fr_t, fr_l, hasd_0, hasd_i, Bool.and_self, Bool.and_true, nofz_i, nofz_b, intB_i, lenB_l, lenB_t, listB_t, tupB_l, maxB_i, cmp_lt, cmp_gt, cmp_ge, cmp_le, cmp_eq, cmp_ne, truthD_b, Option.isNone_some, List.length_map, h, modD_i hl]
theorem trem_run {fuel k p a b : Nat} {l : Int} (hp : 0 < p) (hp2 : p < 1000) (ha : a < 1000) (hl : 0 < l) : callN defs con fuel (k + 3) "trace_remainder" [(curveD p a b, 0), (.int l, 0)] = .ok (.int (trF p a b % l), 0) [none, none] :=
  callN_ok (df := d_trace_remainder) (args := [(curveD p a b, 0), (.int l, 0)]) (ρ0 := [some (curveD p a b, 0), some (.int l, 0)]) lk_trem rfl rfl (trem_body (trace_run (fuel := fuel) (k := k) hp hp2 ha) hl)
/-! ### _law_count -/
def cntI (p i v : Nat) : Int := (cnt p i v : Nat)
theorem lk_lc : defs.lookup ("_law_count" : Str) = some d__law_count := by rfl
def lcB : Sm := (.setix 3 (.op2 .Mod (.blt .int (.cons (.op2 .Mult (.var 4) (.var 4)) .nil)) (.var 0)) (.q (.op2 .Add (.ix (.var 3) (.op2 .Mod (.blt .int (.cons (.op2 .Mult (.var 4) (.var 4)) .nil)) (.var 0))) (.int 1))))
theorem lc_loop {cfg : Cf} {p : Nat} {a b : Option Sl} (hp : 0 < p) (hp2 : p < 1000) : ∃ ρ, exec cfg (.fors none (.nm 4) (.irng1 (.var 0)) lcB) [some (.int (p : Int), 0), a, b, some (.lst (tl (cntI p 0) p), 1), none, none] = .ok .nx ρ ∧ ∃ y, ρ = [some (.int (p : Int), 0), a, b, some (.lst (tl (cntI p p) p), 1), y, none] := by
  refine fors_inv (fun i ρ => ∃ y, ρ = [some (.int (p : Int), 0), a, b, some (.lst (tl (cntI p i) p), 1), y, none]) (evI_irng1 (x := (.int (p : Int), 0)) (l := (List.range p).map fun k : Nat => D.int (k : Int)) rfl (rngZ (by omega))) ⟨none, rfl⟩ ?_ ?_
  · rintro j x ρ hx ⟨y, rfl⟩
    rw [List.getElem?_map] at hx
    have hj : j < p := by
      cases hc : (List.range p)[j]? with
      | none => rw [hc] at hx; cases hx
      | some q => have := (List.getElem?_eq_some_iff.mp hc).1; simpa using this
    rw [List.getElem?_range hj] at hx
    cases hx
    have e1 : (j : Int) * (j : Int) % (p : Int) = ((j * j % p : Nat) : Int) := by rw [Int.natCast_emod, Int.natCast_mul]
    have hm : j * j % p < p := Nat.mod_lt _ hp
    have hs := setD_l (l := tl (cntI p j) p) (n := 1) (m := j * j % p) (v := (.int (cntI p j (j * j % p) + 1), 0)) (by rw [tl_len]; exact hm) hasd_i
    have hat := tl_at (f := cntI p j) hm
    refine ⟨_, _, rfl, ?_, some (.int (j : Int), 0), rfl⟩
    have hp' : (0 : Int) < (p : Int) := by omega
    simp only [lcB, st, exec, ev, evA, evT, evO, gt, st, bind_ok, of_some, valsA, Option.map_some, demL, List.map_cons, List.map_nil, resolveA, List.all_nil, List.all_cons, if_true, Bool.false_eq_true, if_false, selL0, backsTo, op2_add, op2_sub, op2_mul, op2_mod, op2_fdiv, op2_and, addD_i, subD_i, fr_i, fr_b, fr_t, fr_l, hasd_0, hasd_i, Bool.and_self, Bool.and_true, nofz_i, nofz_b, intB_i, lenB_l, lenB_t, listB_t, tupB_l, maxB_i, cmp_lt, cmp_gt, cmp_ge, cmp_le, cmp_eq, cmp_ne, truthD_b, Option.isNone_some, List.length_map, mulD_i (mulOk_lt (a := j) (b := j) (by omega)), modD_i hp', e1, ixD_l, hat, hs, tl_set]
    have e2 : tl (fun v => if v = j * j % p then cntI p j (j * j % p) + 1 else cntI p j v) p = tl (cntI p (j + 1)) p := tl_cong fun v _ => by
      unfold cntI
      rw [cnt_succ]
      by_cases hv : v = j * j % p
      · rw [if_pos hv, if_pos hv, hv]; omega
      · rw [if_neg hv, if_neg hv, Nat.add_zero]
    rw [e2]
  · rintro ρ ⟨y, rfl⟩
    exact ⟨y, by simp⟩
theorem lc_lc {cfg : Cf} {p a b : Nat} {f : Nat → Int} {n : Nat} {y : Option Sl} (hp : 0 < p) (hp2 : p < 1000) (ha : a < 1000) : ∃ ρ, ev cfg (.lc 0 [5] (.ix (.var 3) (.op2 .Mod (.blt .int (.cons (.op2 .Add (.op2 .Add (.op2 .Mult (.op2 .Mult (.var 5) (.var 5)) (.var 5)) (.op2 .Mult (.var 1) (.var 5))) (.var 2)) .nil)) (.var 0))) (.nm 5) (.irng1 (.var 0)) .tyes)
    [some (.int (p : Int), 0), some (.int (a : Int), 0), some (.int (b : Int), 0), some (.lst (tl f p), n), y, none] = .ok (.lst (tl (fun x => f (idx p a b x)) p), 1) ρ := by
  obtain ⟨ρ, h, _⟩ := lc_gen (cfg := cfg) (own := [5]) (F := fun x => f (idx p a b x)) (elt := (.ix (.var 3) (.op2 .Mod (.blt .int (.cons (.op2 .Add (.op2 .Add (.op2 .Mult (.op2 .Mult (.var 5) (.var 5)) (.var 5)) (.op2 .Mult (.var 1) (.var 5))) (.var 2)) .nil)) (.var 0)))) (tg := .nm 5)
    (I := fun ρ => ∃ m, ρ = [some (.int (p : Int), 0), some (.int (a : Int), 0), some (.int (b : Int), 0), some (.lst (tl f p), m), y, none]) (p := p) (it := .irng1 (.var 0)) (ρ0 := [some (.int (p : Int), 0), some (.int (a : Int), 0), some (.int (b : Int), 0), some (.lst (tl f p), n), y, none])
    (evI_irng1 (x := (.int (p : Int), 0)) rfl (rngZ (by omega))) (by omega) ⟨n, rfl⟩ (fun x hx ρ hρ => by
      obtain ⟨m, rfl⟩ := hρ
      have hp' : (0 : Int) < (p : Int) := by omega
      refine ⟨_, [some (.int (p : Int), 0), some (.int (a : Int), 0), some (.int (b : Int), 0), some (.lst (tl f p), 0), y, some (.int (x : Nat), 0)], rfl, ?_, 0, rfl⟩
      have hat := tl_at (f := f) (idx_lt (p := p) (a := a) (b := b) (x := x) hp)
      simp only [st, exec, ev, evA, evT, evO, gt, st, bind_ok, of_some, valsA, Option.map_some, demL, List.map_cons, List.map_nil, resolveA, List.all_nil, List.all_cons, if_true, Bool.false_eq_true, if_false, selL0, backsTo, op2_add, op2_sub, op2_mul, op2_mod, op2_fdiv, op2_and, addD_i, subD_i, fr_i, fr_b, fr_t, fr_l, hasd_0, hasd_i, Bool.and_self, Bool.and_true, nofz_i, nofz_b, intB_i, lenB_l, lenB_t, listB_t, tupB_l, maxB_i, cmp_lt, cmp_gt, cmp_ge, cmp_le, cmp_eq, cmp_ne, truthD_b, Option.isNone_some, List.length_map, mulD_i (mulOk_lt (a := x) (b := x) (by omega)), mulD_i (m3 (x := x) (y := x) (z := x) (by omega) (by omega)), mulD_i (mulOk_lt (a := a) (b := x) (by omega)), modD_i hp', idx_i, ixD_l, hat])
  exact ⟨_, h⟩
def cnF (p a b : Nat) : Int := 1 + sumT (cntI p p) p a b
theorem lcount_run {fuel k p a b : Nat} (hp : 0 < p) (hp2 : p < 1000) (ha : a < 1000) : callN defs con fuel (k + 1) "_law_count" [(.int (p : Int), 0), (.int (a : Int), 0), (.int (b : Int), 0)] = .ok (.int (cnF p a b), 0) [none, none, none] := by
  generalize hcfg : (⟨callN defs con fuel k, con, fuel⟩ : Cf) = cfg
  have h0 : exec cfg (.asg (.nm 3) (.op2 .Mult (.lst 0 (.cons (.int 0) .nil)) (.var 0))) [some (.int (p : Int), 0), some (.int (a : Int), 0), some (.int (b : Int), 0), none, none, none] = .ok .nx [some (.int (p : Int), 0), some (.int (a : Int), 0), some (.int (b : Int), 0), some (.lst (tl (cntI p 0) p), 1), none, none] := by
    have := exec_asg (i := 3) (ev_rep (cf := cfg) (b := .var 0) (ρ := [some (.int (p : Int), 0), some (.int (a : Int), 0), some (.int (b : Int), 0), none, none, none]) (i := (p : Int)) (m := 0) (n := p) rfl rfl (by omega))
    rw [this, rep_tl]
    rfl
  obtain ⟨ρ, h2, y, rfl⟩ := lc_loop (cfg := cfg) (a := some (.int (a : Int), 0)) (b := some (.int (b : Int), 0)) hp hp2
  obtain ⟨ρ, h3⟩ := lc_lc (cfg := cfg) (f := cntI p p) (n := 1) (b := b) (y := y) hp hp2 ha
  have h4 : exec cfg (.ret (.q (.op2 .Add (.int 1) (.blt .sum (.cons (.lc 0 [5] (.ix (.var 3) (.op2 .Mod (.blt .int (.cons (.op2 .Add (.op2 .Add (.op2 .Mult (.op2 .Mult (.var 5) (.var 5)) (.var 5)) (.op2 .Mult (.var 1) (.var 5))) (.var 2)) .nil)) (.var 0))) (.nm 5) (.irng1 (.var 0)) .tyes) .nil))))) [some (.int (p : Int), 0), some (.int (a : Int), 0), some (.int (b : Int), 0), some (.lst (tl (cntI p p) p), 1), y, none] = .ok (.rt (.int (cnF p a b), 0)) [some (.int (p : Int), 0), some (.int (a : Int), 0), some (.int (b : Int), 0), some (.lst (tl (cntI p p) p), 1), y, none] := by
    refine exec_ret (ev_q (d := .int (cnF p a b)) (n := 0) (ρ1 := ρ) (ev_op2 (x := .int 1) (n := 0) (m := 0) (y := .int (sumT (cntI p p) p a b)) rfl ?_ rfl) nofz_i)
    rw [ev, evA]
    · rw [h3]
      simp only [bind_ok, evA, valsA, Option.map_some, of_some, demL, List.map_cons, List.map_nil, sum_tl, fr_i]
      rfl
    · intro i h; cases h
  have hb := (exec_seq h0).trans ((exec_seq h2).trans h4)
  subst hcfg
  exact callN_ok (df := d__law_count) (args := [(.int (p : Int), 0), (.int (a : Int), 0), (.int (b : Int), 0)]) (ρ0 := [some (.int (p : Int), 0), some (.int (a : Int), 0), some (.int (b : Int), 0), none, none, none]) lk_lc rfl rfl hb
/-! ### what they are -/
theorem smI_cast {f : Nat → Nat} : ∀ n, smI (fun x => ((f x : Nat) : Int)) n = ((sm f n : Nat) : Int)
  | 0 => rfl
  | n + 1 => by simp only [smI, sm]; rw [smI_cast n]; omega
theorem smI_less {f g : Nat → Int} (h : ∀ x, f x = g x - 1) : ∀ n : Nat, smI f n = smI g n - n
  | 0 => rfl
  | n + 1 => by simp only [smI]; rw [smI_less h n, h n]; omega
theorem cn_pts {p a b : Nat} : cnF p a b = 1 + (pts p a b : Nat) := by
  unfold cnF sumT
  rw [show (fun x => cntI p p (idx p a b x)) = fun x => ((cnt p p (idx p a b x) : Nat) : Int) from rfl, smI_cast]
  rfl
theorem tab_cnt {p v : Nat} (h : cnt p p 0 = 1 ∧ ∀ v, 0 < v → cnt p p v = 0 ∨ cnt p p v = 2) : tabI p v = cntI p p v - 1 := by
  unfold tabI cntI sqf
  by_cases hv : v = 0
  · subst hv; rw [if_pos rfl, h.1]; rfl
  · rw [if_neg hv]
    rcases h.2 v (by omega) with e | e
    · rw [e]; rfl
    · rw [e]; rfl
theorem tr_pts {p a b : Nat} (hp : p ∈ primesN) : trF p a b = (p : Int) - (pts p a b : Nat) := by
  have hr := primesN_rng p hp
  have h := chkT_ok (by omega) (by omega) (tabs p hp)
  have h2 := cn_pts (p := p) (a := a) (b := b)
  unfold trF
  unfold cnF sumT at h2
  unfold sumT
  rw [smI_less (f := fun x => tabI p (idx p a b x)) (g := fun x => cntI p p (idx p a b x)) fun x => tab_cnt h]
  omega
theorem hasse {p a b : Nat} (hp : p ∈ primesN) (ha : a < p) (hb : b < p) : trF p a b * trF p a b < 4 * p := by
  have hr := primesN_rng p hp
  obtain ⟨h, hh⟩ := hasse_all p hp
  obtain ⟨h1, h2, h3⟩ := chkH_ok (by omega) (by omega) (tabs p hp) hh ha hb
  rw [tr_pts hp]
  generalize hd : (p : Int) - (pts p a b : Nat) = d
  have e1 : d.natAbs ≤ h := by omega
  have e2 : d.natAbs * d.natAbs ≤ h * h := Nat.mul_le_mul e1 e1
  have e3 : d * d = ((d.natAbs * d.natAbs : Nat) : Int) := by rw [← Int.natAbs_mul_self]
  omega
end Pi.K17
/-! K17f: traces that fit -/
namespace Pi.K17
open PySem L2 Pi.Ha
def isT (p : Nat) (t : Int) : Bool := decide (t * t < 4 * (p : Int))
def trN (p : Nat) : List Nat := (List.range (2 * p + 1)).filter fun k : Nat => isT p (-(p : Int) + (k : Nat))
def trL (p : Nat) : List Int := (trN p).map fun k : Nat => -(p : Int) + (k : Nat)
theorem trL_map (p : Nat) : (trL p).map D.int = (trN p).map fun k : Nat => D.int (-(p : Int) + (k : Nat)) := by
  unfold trL
  rw [List.map_map]; rfl
theorem trL_len {p : Nat} (hp : p < 200) : (trL p).length ≤ 401 := by
  unfold trL trN
  rw [List.length_map]
  refine Nat.le_trans (List.length_filter_le _ _) ?_
  rw [List.length_range]; omega
theorem rng_tr {p : Nat} {i : Int} (hi : i = -(p : Int)) (hp : p < 200) : rngD (.int i) (.int ((p : Int) + 1)) = some ((List.range (2 * p + 1)).map fun k : Nat => D.int (-(p : Int) + (k : Nat))) := by
  subst hi
  rw [rngI (by omega) (by omega) (by omega) (by omega)]
  have : ((p : Int) + 1 - -(p : Int)).toNat = 2 * p + 1 := by omega
  rw [this]
theorem mul_tr {p k : Nat} (hp : p < 200) (hk : k < 2 * p + 1) : mulOk (-(p : Int) + (k : Nat)) (-(p : Int) + (k : Nat)) = true := mulOk_small (by omega)
theorem lk_istr : defs.lookup ("is_trace" : Str) = some d_is_trace := by rfl
theorem istr_body {cfg : Cf} {p t : Int} (h1 : cfg.call "is_integer" [(.int t, 0)] = .ok (.bl true, 0) [none]) (hm : mulOk t t = true) : exec cfg d_is_trace.body [some (.int p, 0), some (.int t, 0)] = .ok (.rt (.bl (decide (t * t < 4 * p)), 0)) [some (.int p, 0), some (.int t, 0)] := by
  have e0 : d_is_trace.body = (.ret (.and (.call "is_integer" (.cons (.var 1) .nil) [] []) (.cmp .Lt (.op2 .Mult (.var 1) (.var 1)) (.op2 .Mult (.int 4) (.var 0))))) := rfl
  have m4 : mulOk 4 p = true := mulOk_small (by decide)
  rw [e0]
  simp only [exec, ev, evA, evT, evO, gt, st, bind_ok, of_some, valsA, Option.map_some, demL, List.map_cons, List.map_nil, resolveA, List.all_nil, List.all_cons, if_true, Bool.false_eq_true, if_false, selL0, backsTo, op2_add, op2_sub, op2_mul, op2_mod, op2_fdiv, op2_and, addD_i, subD_i, fr_i, fr_b, fr_t, fr_l, hasd_0, hasd_i, Bool.and_self, Bool.and_true, nofz_i, nofz_b, intB_i, lenB_l, lenB_t, listB_t, tupB_l, maxB_i, cmp_lt, cmp_gt, cmp_ge, cmp_le, cmp_eq, cmp_ne, truthD_b, Option.isNone_some, List.length_map, h1, mulD_i hm, mulD_i m4]
theorem istr_run {fuel k p : Nat} {t : Int} (hm : mulOk t t = true) : callN defs con fuel (k + 2) "is_trace" [(.int (p : Int), 0), (.int t, 0)] = .ok (.bl (isT p t), 0) [none, none] :=
  callN_ok (df := d_is_trace) (args := [(.int (p : Int), 0), (.int t, 0)]) (ρ0 := [some (.int (p : Int), 0), some (.int t, 0)]) lk_istr rfl rfl (istr_body isint_run hm)
theorem lk_alltr : defs.lookup ("all_traces" : Str) = some d_all_traces := by rfl
theorem alltr_body {cfg : Cf} {p : Nat} (hp : p < 200) (h1 : ∀ t : Int, mulOk t t = true → cfg.call "is_trace" [(.int (p : Int), 0), (.int t, 0)] = .ok (.bl (isT p t), 0) [none, none]) : ∃ ρ, exec cfg d_all_traces.body [some (.int (p : Int), 0), none] = .ok (.rt (.lst ((trL p).map D.int), 1)) ρ := by
  have e0 : d_all_traces.body = (.ret (.lc 0 [1] (.var 1) (.nm 1) (.irng2 (.neg (.var 0)) (.op2 .Add (.var 0) (.int 1))) (.tval (.call "is_trace" (.cons (.var 0) (.cons (.var 1) .nil)) [] [])))) := rfl
  have hi : evI cfg (.irng2 (.neg (.var 0)) (.op2 .Add (.var 0) (.int 1))) [some (.int (p : Int), 0), none] = .ok ((List.range (2 * p + 1)).map fun k : Nat => D.int (-(p : Int) + (k : Nat))) [some (.int (p : Int), 0), none] := evI_irng2 (x := (.int (-(p : Int)), 0)) (y := (.int ((p : Int) + 1), 0)) rfl rfl (rng_tr rfl hp)
  obtain ⟨ρ, hl, hρ⟩ := lcl_filter (f := lcF cfg 0 [1] (.var 1) (.nm 1) (.tval (.call "is_trace" (.cons (.var 0) (.cons (.var 1) .nil)) [] []))) (fun k : Nat => D.int (-(p : Int) + (k : Nat))) (fun k : Nat => isT p (-(p : Int) + (k : Nat))) (fun k : Nat => D.int (-(p : Int) + (k : Nat))) (fun ρ => ρ = [some (.int (p : Int), 0), none]) (List.range (2 * p + 1)) _ rfl (fun k hk ρ hρ => by
    subst hρ
    have hc := h1 (-(p : Int) + (k : Nat)) (mul_tr hp (List.mem_range.mp hk))
    have h2 : evT cfg (.tval (.call "is_trace" (.cons (.var 0) (.cons (.var 1) .nil)) [] [])) [some (.int (p : Int), 0), some (.int (-(p : Int) + (k : Nat)), 0)] = .ok (isT p (-(p : Int) + (k : Nat))) [some (.int (p : Int), 0), some (.int (-(p : Int) + (k : Nat)), 0)] := by
      simp only [exec, ev, evA, evT, evO, gt, st, bind_ok, of_some, valsA, Option.map_some, demL, List.map_cons, List.map_nil, resolveA, List.all_nil, List.all_cons, if_true, Bool.false_eq_true, if_false, selL0, backsTo, op2_add, op2_sub, op2_mul, op2_mod, op2_fdiv, op2_and, addD_i, subD_i, fr_i, fr_b, fr_t, fr_l, hasd_0, hasd_i, Bool.and_self, Bool.and_true, nofz_i, nofz_b, intB_i, lenB_l, lenB_t, listB_t, tupB_l, maxB_i, cmp_lt, cmp_gt, cmp_ge, cmp_le, cmp_eq, cmp_ne, truthD_b, Option.isNone_some, List.length_map, hc]
    refine ⟨[some (.int (p : Int), 0), none], ?_, rfl⟩
    cases hT : isT p (-(p : Int) + (k : Nat))
    · rw [hT] at h2
      exact lcF_no rfl h2
    · rw [hT] at h2
      exact lcF_ok (s := (.int (-(p : Int) + (k : Nat)), 0)) (ρ4 := [some (.int (p : Int), 0), some (.int (-(p : Int) + (k : Nat)), 0)]) rfl h2 rfl hasd_0)
  rw [e0, trL_map]
  exact ⟨_, exec_ret (ev_lcx (k := 0) (own := [1]) hi hl (by
    have := trL_len hp
    unfold trL at this
    rw [List.length_map] at this ⊢
    exact len_size (Nat.le_trans this (by decide))))⟩
theorem alltr_run {fuel k p : Nat} (hp : p < 200) : callN defs con fuel (k + 3) "all_traces" [(.int (p : Int), 0)] = .ok (.lst ((trL p).map D.int), 1) [none] := by
  obtain ⟨ρ, h⟩ := alltr_body (cfg := ⟨callN defs con fuel (k + 2), con, fuel⟩) hp fun t hm => istr_run hm
  exact callN_ok (df := d_all_traces) (args := [(.int (p : Int), 0)]) (ρ0 := [some (.int (p : Int), 0), none]) lk_alltr rfl rfl h
theorem nofz_ints (t : List Int) : nofz 0 (.tup (t.map .int)) = true := by
  simp only [nofz]
  induction t with
  | nil => simp [nofzL]
  | cons a t ih => simp [nofzL, nofz, ih]
/-! ### pairs -/
def pairD (x : Int × Int) : D := .tup [.int x.1, .int x.2]
def one (t : Int) (x : Int × Int) : Bool := t % x.1 == x.2
def fitB (t : Int) (ps : List (Int × Int)) : Bool := ps.all (one t)
def fitL (p : Nat) (ps : List (Int × Int)) : List Int := (trL p).filter fun t => fitB t ps
theorem fitL_len {p : Nat} {ps : List (Int × Int)} (hp : p < 200) : (fitL p ps).length ≤ 401 := Nat.le_trans (List.length_filter_le _ _) (trL_len hp)
theorem all_one (t : Int) (ps : List (Int × Int)) : bltD .all [.lst (ps.map fun x => D.bl (one t x))] = some (.bl (fitB t ps)) := by
  have h : isBls (ps.map fun x => D.bl (one t x)) = some (ps.map (one t)) := by
    induction ps with
    | nil => rfl
    | cons x L ih => simp only [List.map_cons, isBls, ih, Option.map_some]
  show (isBls _).map (fun bs => D.bl (bs.all id)) = _
  rw [h]
  show some (D.bl _) = _
  congr 2
  rw [List.all_map]; rfl
def itD (tp : Bool) (ps : List (Int × Int)) : D := if tp then .tup (ps.map pairD) else .lst (ps.map pairD)
theorem lk_trf : defs.lookup ("traces_fitting" : Str) = some d_traces_fitting := by rfl
def inE : Ex := (.lc 0 [3, 4] (.cmp .Eq (.op2 .Mod (.var 2) (.var 3)) (.var 4)) (.tp [3, 4]) (.ival (.var 1)) .tyes)
theorem in_lc {cfg : Cf} {p t : Int} {ps : List (Int × Int)} {m : Nat} (h : ∀ x ∈ ps, 0 < x.1) (hl : ps.length ≤ 100) : ev cfg inE [some (.int p, 0), some (.tup (ps.map pairD), m), some (.int t, 0), none, none] = .ok (.lst (ps.map fun x => D.bl (one t x)), 1) [some (.int p, 0), some (.tup (ps.map pairD), 0), some (.int t, 0), none, none] := by
  obtain ⟨ρ, hlc, hρ⟩ := lcl_fun (f := lcF cfg 0 [3, 4] (.cmp .Eq (.op2 .Mod (.var 2) (.var 3)) (.var 4)) (.tp [3, 4]) .tyes) pairD (fun x => D.bl (one t x)) (fun ρ => ρ = [some (.int p, 0), some (.tup (ps.map pairD), 0), some (.int t, 0), none, none]) ps _ rfl (fun x hx ρ hρ => by
    subst hρ
    refine ⟨_, lcF_ok (s := (.bl (one t x), 0)) (ρ2 := [some (.int p, 0), some (.tup (ps.map pairD), 0), some (.int t, 0), some (.int x.1, 0), some (.int x.2, 0)]) (ρ3 := [some (.int p, 0), some (.tup (ps.map pairD), 0), some (.int t, 0), some (.int x.1, 0), some (.int x.2, 0)]) (ρ4 := [some (.int p, 0), some (.tup (ps.map pairD), 0), some (.int t, 0), some (.int x.1, 0), some (.int x.2, 0)]) rfl rfl ?_ hasd_0, rfl⟩
    simp only [exec, ev, evA, evT, evO, gt, st, bind_ok, of_some, valsA, Option.map_some, demL, List.map_cons, List.map_nil, resolveA, List.all_nil, List.all_cons, if_true, Bool.false_eq_true, if_false, selL0, backsTo, op2_add, op2_sub, op2_mul, op2_mod, op2_fdiv, op2_and, addD_i, subD_i, fr_i, fr_b, fr_t, fr_l, hasd_0, hasd_i, Bool.and_self, Bool.and_true, nofz_i, nofz_b, intB_i, lenB_l, lenB_t, listB_t, tupB_l, maxB_i, cmp_lt, cmp_gt, cmp_ge, cmp_le, cmp_eq, cmp_ne, truthD_b, Option.isNone_some, List.length_map, modD_i (h x hx), one])
  subst hρ
  have hi : evI cfg (.ival (.var 1)) [some (.int p, 0), some (.tup (ps.map pairD), m), some (.int t, 0), none, none] = .ok (ps.map pairD) [some (.int p, 0), some (.tup (ps.map pairD), 0), some (.int t, 0), none, none] := evI_ivalT (n := 0) rfl
  exact ev_lcx (k := 0) (own := [3, 4]) hi hlc (show (ps.map fun x => D.bl (one t x)).length ≤ sizeLine by rw [List.length_map]; exact len_size (Nat.le_trans hl (by decide)))
theorem trf_body {cfg : Cf} {p : Nat} {ps : List (Int × Int)} {m : Nat} (hp : p < 200) (h : ∀ x ∈ ps, 0 < x.1) (hl : ps.length ≤ 100) (h1 : cfg.call "all_traces" [(.int (p : Int), 0)] = .ok (.lst ((trL p).map D.int), 1) [none]) : ∃ ρ, exec cfg d_traces_fitting.body [some (.int (p : Int), 0), some (.tup (ps.map pairD), m), none, none, none] = .ok (.rt (.tup ((fitL p ps).map D.int), 0)) ρ := by
  have e0 : d_traces_fitting.body = (.ret (.blt .tuple (.cons (.lc 0 [2] (.var 2) (.nm 2) (.ival (.call "all_traces" (.cons (.var 0) .nil) [] [])) (.tval (.blt .all (.cons inE .nil)))) .nil))) := rfl
  have hi : evI cfg (.ival (.call "all_traces" (.cons (.var 0) .nil) [] [])) [some (.int (p : Int), 0), some (.tup (ps.map pairD), m), none, none, none] = .ok ((trL p).map D.int) [some (.int (p : Int), 0), some (.tup (ps.map pairD), m), none, none, none] := evI_ivalL (n := 1) (by simp only [exec, ev, evA, evT, evO, gt, st, bind_ok, of_some, valsA, Option.map_some, demL, List.map_cons, List.map_nil, resolveA, List.all_nil, List.all_cons, if_true, Bool.false_eq_true, if_false, selL0, backsTo, op2_add, op2_sub, op2_mul, op2_mod, op2_fdiv, op2_and, addD_i, subD_i, fr_i, fr_b, fr_t, fr_l, hasd_0, hasd_i, Bool.and_self, Bool.and_true, nofz_i, nofz_b, intB_i, lenB_l, lenB_t, listB_t, tupB_l, maxB_i, cmp_lt, cmp_gt, cmp_ge, cmp_le, cmp_eq, cmp_ne, truthD_b, Option.isNone_some, List.length_map, h1])
  obtain ⟨ρ, hlc, hρ⟩ := lcl_filter (f := lcF cfg 0 [2] (.var 2) (.nm 2) (.tval (.blt .all (.cons inE .nil)))) D.int (fun t => fitB t ps) D.int (fun ρ => ∃ m, ρ = [some (.int (p : Int), 0), some (.tup (ps.map pairD), m), none, none, none]) (trL p) _ ⟨m, rfl⟩ (fun t ht ρ hρ => by
    obtain ⟨m, rfl⟩ := hρ
    have hin := in_lc (cfg := cfg) (p := (p : Int)) (t := t) (m := m) h hl
    have h2 : evT cfg (.tval (.blt .all (.cons inE .nil))) [some (.int (p : Int), 0), some (.tup (ps.map pairD), m), some (.int t, 0), none, none] = .ok (fitB t ps) [some (.int (p : Int), 0), some (.tup (ps.map pairD), 0), some (.int t, 0), none, none] := by
      rw [evT, ev, evA]
      · rw [hin]
        simp only [bind_ok, evA, valsA, Option.map_some, of_some, demL, List.map_cons, List.map_nil, all_one, fr_b, truthD_b]
      · intro i h; cases h
    refine ⟨[some (.int (p : Int), 0), some (.tup (ps.map pairD), 0), none, none, none], ?_, 0, rfl⟩
    cases hT : fitB t ps
    · rw [hT] at h2
      exact lcF_no rfl h2
    · rw [hT] at h2
      exact lcF_ok (s := (.int t, 0)) (ρ4 := [some (.int (p : Int), 0), some (.tup (ps.map pairD), 0), some (.int t, 0), none, none]) rfl h2 rfl hasd_0)
  have h3 := ev_lcx (k := 0) (own := [2]) hi hlc (by rw [List.length_map]; exact len_size (Nat.le_trans (fitL_len hp) (by decide)))
  obtain ⟨m', rfl⟩ := hρ
  refine ⟨[some (.int (p : Int), 0), some (.tup (ps.map pairD), m'), none, none, none], ?_⟩
  rw [e0]
  refine exec_ret ?_
  rw [ev, evA]
  · rw [h3]
    simp only [bind_ok, evA, valsA, Option.map_some, of_some, demL, List.map_cons, List.map_nil, tupB_l, fr_t]
    rfl
  · intro i h; cases h
theorem trf_run {fuel k p m : Nat} {ps : List (Int × Int)} (hp : p < 200) (h : ∀ x ∈ ps, 0 < x.1) (hl : ps.length ≤ 100) : callN defs con fuel (k + 4) "traces_fitting" [(.int (p : Int), 0), (.tup (ps.map pairD), m)] = .ok (.tup ((fitL p ps).map D.int), 0) [none, none] := by
  obtain ⟨ρ, hb⟩ := trf_body (cfg := ⟨callN defs con fuel (k + 3), con, fuel⟩) (m := m) hp h hl (alltr_run hp)
  exact callN_ok (df := d_traces_fitting) (args := [(.int (p : Int), 0), (.tup (ps.map pairD), m)]) (ρ0 := [some (.int (p : Int), 0), some (.tup (ps.map pairD), m), none, none, none]) lk_trf rfl rfl hb
/-! ### the law's own -/
theorem lk_ltr : defs.lookup ("_law_traces" : Str) = some d__law_traces := by rfl
theorem ltr_body {cfg : Cf} {p : Nat} (hp : p < 200) : ∃ ρ, exec cfg d__law_traces.body [some (.int (p : Int), 0), none] = .ok (.rt (.lst ((trL p).map D.int), 1)) ρ := by
  have e0 : d__law_traces.body = (.ret (.lc 0 [1] (.var 1) (.nm 1) (.irng2 (.op2 .Sub (.int 0) (.var 0)) (.op2 .Add (.var 0) (.int 1))) (.tcmp .Lt (.op2 .Mult (.var 1) (.var 1)) (.op2 .Mult (.int 4) (.var 0))))) := rfl
  have hi : evI cfg (.irng2 (.op2 .Sub (.int 0) (.var 0)) (.op2 .Add (.var 0) (.int 1))) [some (.int (p : Int), 0), none] = .ok ((List.range (2 * p + 1)).map fun k : Nat => D.int (-(p : Int) + (k : Nat))) [some (.int (p : Int), 0), none] := evI_irng2 (x := (.int (0 - (p : Int)), 0)) (y := (.int ((p : Int) + 1), 0)) rfl rfl (rng_tr (by omega) hp)
  obtain ⟨ρ, hl, hρ⟩ := lcl_filter (f := lcF cfg 0 [1] (.var 1) (.nm 1) (.tcmp .Lt (.op2 .Mult (.var 1) (.var 1)) (.op2 .Mult (.int 4) (.var 0)))) (fun k : Nat => D.int (-(p : Int) + (k : Nat))) (fun k : Nat => isT p (-(p : Int) + (k : Nat))) (fun k : Nat => D.int (-(p : Int) + (k : Nat))) (fun ρ => ρ = [some (.int (p : Int), 0), none]) (List.range (2 * p + 1)) _ rfl (fun k hk ρ hρ => by
    subst hρ
    have hm := mul_tr hp (List.mem_range.mp hk)
    have m4 : mulOk 4 (p : Int) = true := mulOk_small (by decide)
    have h2 : evT cfg (.tcmp .Lt (.op2 .Mult (.var 1) (.var 1)) (.op2 .Mult (.int 4) (.var 0))) [some (.int (p : Int), 0), some (.int (-(p : Int) + (k : Nat)), 0)] = .ok (isT p (-(p : Int) + (k : Nat))) [some (.int (p : Int), 0), some (.int (-(p : Int) + (k : Nat)), 0)] := by
      simp only [exec, ev, evA, evT, evO, gt, st, bind_ok, of_some, valsA, Option.map_some, demL, List.map_cons, List.map_nil, resolveA, List.all_nil, List.all_cons, if_true, Bool.false_eq_true, if_false, selL0, backsTo, op2_add, op2_sub, op2_mul, op2_mod, op2_fdiv, op2_and, addD_i, subD_i, fr_i, fr_b, fr_t, fr_l, hasd_0, hasd_i, Bool.and_self, Bool.and_true, nofz_i, nofz_b, intB_i, lenB_l, lenB_t, listB_t, tupB_l, maxB_i, cmp_lt, cmp_gt, cmp_ge, cmp_le, cmp_eq, cmp_ne, truthD_b, Option.isNone_some, List.length_map, mulD_i hm, mulD_i m4, isT]
    refine ⟨[some (.int (p : Int), 0), none], ?_, rfl⟩
    cases hT : isT p (-(p : Int) + (k : Nat))
    · rw [hT] at h2
      exact lcF_no rfl h2
    · rw [hT] at h2
      exact lcF_ok (s := (.int (-(p : Int) + (k : Nat)), 0)) (ρ4 := [some (.int (p : Int), 0), some (.int (-(p : Int) + (k : Nat)), 0)]) rfl h2 rfl hasd_0)
  rw [e0, trL_map]
  exact ⟨_, exec_ret (ev_lcx (k := 0) (own := [1]) hi hl (by
    have := trL_len hp
    unfold trL at this
    rw [List.length_map] at this ⊢
    exact len_size (Nat.le_trans this (by decide))))⟩
theorem ltr_run {fuel k p : Nat} (hp : p < 200) : callN defs con fuel (k + 1) "_law_traces" [(.int (p : Int), 0)] = .ok (.lst ((trL p).map D.int), 1) [none] := by
  obtain ⟨ρ, h⟩ := ltr_body (cfg := ⟨callN defs con fuel k, con, fuel⟩) hp
  exact callN_ok (df := d__law_traces) (args := [(.int (p : Int), 0)]) (ρ0 := [some (.int (p : Int), 0), none]) lk_ltr rfl rfl h
theorem lk_lfit : defs.lookup ("_law_fitting" : Str) = some d__law_fitting := by rfl
def in2 : Ex := (.lc 0 [4, 5] (.int 1) (.tp [4, 5]) (.ival (.var 1)) (.tcmp .NotEq (.op2 .Mod (.blt .int (.cons (.var 3) .nil)) (.var 4)) (.var 5)))
theorem in2_lc {cfg : Cf} {p t : Int} {ps : List (Int × Int)} {m : Nat} {y : Option Sl} (h : ∀ x ∈ ps, 0 < x.1) (hl : ps.length ≤ 100) : ev cfg in2 [some (.int p, 0), some (.lst (ps.map pairD), m), y, some (.int t, 0), none, none] = .ok (.lst ((ps.filter fun x => !one t x).map fun _ => D.int 1), 1) [some (.int p, 0), some (.lst (ps.map pairD), 0), y, some (.int t, 0), none, none] := by
  obtain ⟨ρ, hlc, hρ⟩ := lcl_filter (f := lcF cfg 0 [4, 5] (.int 1) (.tp [4, 5]) (.tcmp .NotEq (.op2 .Mod (.blt .int (.cons (.var 3) .nil)) (.var 4)) (.var 5))) pairD (fun x => !one t x) (fun _ => D.int 1) (fun ρ => ρ = [some (.int p, 0), some (.lst (ps.map pairD), 0), y, some (.int t, 0), none, none]) ps _ rfl (fun x hx ρ hρ => by
    subst hρ
    have h2 : evT cfg (.tcmp .NotEq (.op2 .Mod (.blt .int (.cons (.var 3) .nil)) (.var 4)) (.var 5)) [some (.int p, 0), some (.lst (ps.map pairD), 0), y, some (.int t, 0), some (.int x.1, 0), some (.int x.2, 0)] = .ok (!one t x) [some (.int p, 0), some (.lst (ps.map pairD), 0), y, some (.int t, 0), some (.int x.1, 0), some (.int x.2, 0)] := by
      simp only [exec, ev, evA, evT, evO, gt, st, bind_ok, of_some, valsA, Option.map_some, demL, List.map_cons, List.map_nil, resolveA, List.all_nil, List.all_cons, if_true, Bool.false_eq_true, if_false, selL0, backsTo, op2_add, op2_sub, op2_mul, op2_mod, op2_fdiv, op2_and, addD_i, subD_i, fr_i, fr_b, fr_t, fr_l, hasd_0, hasd_i, Bool.and_self, Bool.and_true, nofz_i, nofz_b, intB_i, lenB_l, lenB_t, listB_t, tupB_l, maxB_i, cmp_lt, cmp_gt, cmp_ge, cmp_le, cmp_eq, cmp_ne, truthD_b, Option.isNone_some, List.length_map, modD_i (h x hx), one]
    refine ⟨[some (.int p, 0), some (.lst (ps.map pairD), 0), y, some (.int t, 0), none, none], ?_, rfl⟩
    cases hT : !one t x
    · rw [hT] at h2
      exact lcF_no rfl h2
    · rw [hT] at h2
      exact lcF_ok (s := (.int 1, 0)) (ρ4 := [some (.int p, 0), some (.lst (ps.map pairD), 0), y, some (.int t, 0), some (.int x.1, 0), some (.int x.2, 0)]) rfl h2 rfl hasd_0)
  subst hρ
  have hi : evI cfg (.ival (.var 1)) [some (.int p, 0), some (.lst (ps.map pairD), m), y, some (.int t, 0), none, none] = .ok (ps.map pairD) [some (.int p, 0), some (.lst (ps.map pairD), 0), y, some (.int t, 0), none, none] := evI_ivalL (n := 0) rfl
  exact ev_lcx (k := 0) (own := [4, 5]) hi hlc (show ((ps.filter fun x => !one t x).map fun _ => D.int 1).length ≤ sizeLine by rw [List.length_map]; exact len_size (Nat.le_trans (List.length_filter_le _ _) (Nat.le_trans hl (by decide))))
theorem fit_emp (t : Int) (ps : List (Int × Int)) : ((ps.filter fun x => !one t x).map fun _ => (1 : Int)).isEmpty = fitB t ps := by
  unfold fitB
  induction ps with
  | nil => rfl
  | cons x L ih =>
    rw [List.filter_cons]
    cases hx : one t x <;> simp [hx]
    simpa using ih
def fitIf : Sm := (.ifs (.tcmp .Eq in2 (.lst 0 .nil))
    (.expr (.mutv .append 2 (.cons (.var 3) .nil)))
    .skip)
theorem fit_turn {cfg : Cf} {p t : Int} {ps : List (Int × Int)} {m : Nat} {found : List Int} (h : ∀ x ∈ ps, 0 < x.1) (hl : ps.length ≤ 100) (hf : found.length ≤ 1000) : exec cfg fitIf [some (.int p, 0), some (.lst (ps.map pairD), m), some (.lst (found.map D.int), 1), some (.int t, 0), none, none] =
    .ok .nx [some (.int p, 0), some (.lst (ps.map pairD), 0), some (.lst ((if fitB t ps then found ++ [t] else found).map D.int), 1), some (.int t, 0), none, none] := by
  have hin := in2_lc (cfg := cfg) (p := p) (t := t) (m := m) (y := some (.lst (found.map D.int), 1)) h hl
  have e1 : ((ps.filter fun x => !one t x).map fun _ => D.int 1) = ((ps.filter fun x => !one t x).map fun _ => (1 : Int)).map D.int := by rw [List.map_map]; rfl
  rw [e1] at hin
  have hT : evT cfg (.tcmp .Eq in2 (.lst 0 .nil)) [some (.int p, 0), some (.lst (ps.map pairD), m), some (.lst (found.map D.int), 1), some (.int t, 0), none, none] = .ok (fitB t ps) [some (.int p, 0), some (.lst (ps.map pairD), 0), some (.lst (found.map D.int), 1), some (.int t, 0), none, none] := by
    have h0 : (decide (0 ≤ sizeLine)) = true := by simp
    rw [evT, hin]
    simp only [bind_ok, ev, evA, valsA, of_some, List.all_nil, List.length_nil, h0, Bool.and_self, if_true, demL, List.map_nil, cmpD, eqD_nil, fit_emp]
  unfold fitIf
  cases hb : fitB t ps
  · rw [hb] at hT
    exact (exec_if_f hT).trans rfl
  · rw [hb] at hT
    rw [exec_if_t hT, if_pos rfl]
    have h2 : mutD .append (.lst (found.map .int)) 1 [(.int t, 0)] = some ((.non, 0), .lst ((found ++ [t]).map .int)) := by
      have : ((found.map D.int).length < sizeLine) := by rw [List.length_map]; exact Nat.lt_of_le_of_lt hf (by decide)
      simp only [mutD, decide_eq_true this, hasd_i, Bool.and_self, if_true, List.map_append, List.map_cons, List.map_nil]
    have hk : (kndD (some (.lst (found.map D.int), 1)) != mmK .append) = false := rfl
    simp only [exec, ev, gt, hk, Bool.false_eq_true, if_false, evA, bind_ok, valsA, Option.map_some, of_some, h2, st]
theorem lfit_body {cfg : Cf} {p : Nat} {ps : List (Int × Int)} {m : Nat} (hp : p < 200) (h : ∀ x ∈ ps, 0 < x.1) (hl : ps.length ≤ 100) (h1 : cfg.call "_law_traces" [(.int (p : Int), 0)] = .ok (.lst ((trL p).map D.int), 1) [none]) : ∃ ρ, exec cfg d__law_fitting.body [some (.int (p : Int), 0), some (.lst (ps.map pairD), m), none, none, none, none] = .ok (.rt (.tup ((fitL p ps).map D.int), 0)) ρ := by
  have e0 : d__law_fitting.body = (.seq (.asg (.nm 2) (.lst 0 .nil))
    (.seq (.fors none (.nm 3) (.ival (.call "_law_traces" (.cons (.var 0) .nil) [] [])) fitIf)
    (.ret (.q (.blt .tuple (.cons (.var 2) .nil)))))) := rfl
  have a1 : exec cfg (.asg (.nm 2) (.lst 0 .nil)) [some (.int (p : Int), 0), some (.lst (ps.map pairD), m), none, none, none, none] = .ok .nx [some (.int (p : Int), 0), some (.lst (ps.map pairD), m), some (.lst (([] : List Int).map D.int), 1), none, none, none] := by
    have h0 : (decide (0 ≤ sizeLine)) = true := by simp
    simp only [exec, ev, evA, bind_ok, valsA, of_some, List.all_nil, List.length_nil, h0, Bool.and_self, if_true, demL, List.map_nil, st]
  have a2 : ∃ ρ, exec cfg (.fors none (.nm 3) (.ival (.call "_law_traces" (.cons (.var 0) .nil) [] [])) fitIf) [some (.int (p : Int), 0), some (.lst (ps.map pairD), m), some (.lst (([] : List Int).map D.int), 1), none, none, none] = .ok .nx ρ ∧ ∃ m y, ρ = [some (.int (p : Int), 0), some (.lst (ps.map pairD), m), some (.lst ((fitL p ps).map D.int), 1), y, none, none] := by
    have hi : evI cfg (.ival (.call "_law_traces" (.cons (.var 0) .nil) [] [])) [some (.int (p : Int), 0), some (.lst (ps.map pairD), m), some (.lst (([] : List Int).map D.int), 1), none, none, none] = .ok ((trL p).map D.int) [some (.int (p : Int), 0), some (.lst (ps.map pairD), m), some (.lst (([] : List Int).map D.int), 1), none, none, none] := evI_ivalL (n := 1) (by simp only [exec, ev, evA, evT, evO, gt, st, bind_ok, of_some, valsA, Option.map_some, demL, List.map_cons, List.map_nil, resolveA, List.all_nil, List.all_cons, if_true, Bool.false_eq_true, if_false, selL0, backsTo, op2_add, op2_sub, op2_mul, op2_mod, op2_fdiv, op2_and, addD_i, subD_i, fr_i, fr_b, fr_t, fr_l, hasd_0, hasd_i, Bool.and_self, Bool.and_true, nofz_i, nofz_b, intB_i, lenB_l, lenB_t, listB_t, tupB_l, maxB_i, cmp_lt, cmp_gt, cmp_ge, cmp_le, cmp_eq, cmp_ne, truthD_b, Option.isNone_some, List.length_map, h1])
    refine fors_inv (fun i ρ => ∃ m y, ρ = [some (.int (p : Int), 0), some (.lst (ps.map pairD), m), some (.lst ((((trL p).take i).filter fun t => fitB t ps).map D.int), 1), y, none, none]) (xs := (trL p).map D.int) hi ⟨m, none, rfl⟩ ?_ ?_
    · rintro j x ρ hx ⟨m, y, rfl⟩
      rw [List.getElem?_map] at hx
      cases hc : (trL p)[j]? with
      | none => rw [hc] at hx; cases hx
      | some t =>
        rw [hc] at hx
        cases hx
        have ht := fit_turn (cfg := cfg) (p := (p : Int)) (t := t) (m := m) (found := ((trL p).take j).filter fun t => fitB t ps) h hl (Nat.le_trans (List.length_filter_le _ _) (by rw [List.length_take]; have := trL_len hp; omega))
        refine ⟨_, _, rfl, ht, 0, some (.int t, 0), ?_⟩
        rw [List.take_add_one, hc, Option.toList_some, List.filter_append, List.filter_cons, List.filter_nil]
        cases fitB t ps <;> simp
    · rintro ρ ⟨m, y, rfl⟩
      refine ⟨m, y, ?_⟩
      rw [List.length_map, List.take_length]; rfl
  obtain ⟨ρ, h2, m', y, rfl⟩ := a2
  refine ⟨[some (.int (p : Int), 0), some (.lst (ps.map pairD), m'), some (.lst ((fitL p ps).map D.int), 1), y, none, none], ?_⟩
  rw [e0, exec_seq a1, exec_seq h2]
  refine exec_ret (ev_q (d := .tup ((fitL p ps).map D.int)) (n := 0) (ρ1 := [some (.int (p : Int), 0), some (.lst (ps.map pairD), m'), some (.lst ((fitL p ps).map D.int), 0), y, none, none]) ?_ ?_)
  · simp only [exec, ev, evA, evT, evO, gt, st, bind_ok, of_some, valsA, Option.map_some, demL, List.map_cons, List.map_nil, resolveA, List.all_nil, List.all_cons, if_true, Bool.false_eq_true, if_false, selL0, backsTo, op2_add, op2_sub, op2_mul, op2_mod, op2_fdiv, op2_and, addD_i, subD_i, fr_i, fr_b, fr_t, fr_l, hasd_0, hasd_i, Bool.and_self, Bool.and_true, nofz_i, nofz_b, intB_i, lenB_l, lenB_t, listB_t, tupB_l, maxB_i, cmp_lt, cmp_gt, cmp_ge, cmp_le, cmp_eq, cmp_ne, truthD_b, Option.isNone_some, List.length_map]
  · exact nofz_ints _
theorem lfit_run {fuel k p m : Nat} {ps : List (Int × Int)} (hp : p < 200) (h : ∀ x ∈ ps, 0 < x.1) (hl : ps.length ≤ 100) : callN defs con fuel (k + 2) "_law_fitting" [(.int (p : Int), 0), (.lst (ps.map pairD), m)] = .ok (.tup ((fitL p ps).map D.int), 0) [none, none] := by
  obtain ⟨ρ, hb⟩ := lfit_body (cfg := ⟨callN defs con fuel (k + 1), con, fuel⟩) (m := m) hp h hl (ltr_run hp)
  exact callN_ok (df := d__law_fitting) (args := [(.int (p : Int), 0), (.lst (ps.map pairD), m)]) (ρ0 := [some (.int (p : Int), 0), some (.lst (ps.map pairD), m), none, none, none, none]) lk_lfit rfl rfl hb
end Pi.K17
/-! K17g: _law_prime, _law_curve -/
namespace Pi.K17
open PySem L2 Pi.Ha
def DrawOk (call : Str → List Sl → Cr) : Prop := ∀ (d : D) (many : Int), DeckOk d → 0 < many → many < 1073741824 → ∃ r d', call "_law_draw" [(d, 2), (.int many, 0)] = .ok (.int r, 0) [some (d', 2), none] ∧ 0 ≤ r ∧ r < many ∧ DeckOk d'
def PickOk (call : Str → List Sl → Cr) : Prop := ∀ (d : D) (ps : List Int) (n : Nat), DeckOk d → 0 < ps.length → ps.length ≤ 1000 → ∃ p d', call "_law_pick" [(d, 2), (.tup (ps.map .int), n)] = .ok (.int p, 0) [some (d', 2), none] ∧ p ∈ ps ∧ DeckOk d'
def psA : List Int := [7, 11, 13, 17, 19, 23, 29, 31, 37, 41, 43, 47, 53, 59]
def psB : List Int := [61, 67, 71, 73, 79, 83, 89, 97, 101, 103, 107, 109, 113, 127, 131, 137, 139, 149, 151, 157, 163, 167, 173, 179, 181, 191, 193, 197, 199]
def intsE (ps : List Int) : Ex := ps.foldr (fun i r => .cons (.int i) r) .nil
theorem evA_ints {cfg : Cf} {ρ : Env} : ∀ ps : List Int, evA cfg (intsE ps) ρ = .ok (ps.map fun i => .val (.int i, 0)) ρ
  | [] => by simp only [intsE, List.foldr, evA, List.map_nil]
  | i :: ps => by
    have := evA_ints (cfg := cfg) (ρ := ρ) ps
    unfold intsE at this ⊢
    simp only [List.foldr_cons, evA, ev, bind_ok, this, List.map_cons]
theorem valsA_ints : ∀ ps : List Int, valsA (ps.map fun i => .val (.int i, 0)) = some (ps.map fun i => (D.int i, 0))
  | [] => rfl
  | i :: ps => by simp only [List.map_cons, valsA, valsA_ints ps, Option.map_some]
theorem ev_ints {cfg : Cf} {ρ : Env} {ps : List Int} (h : ps.length ≤ 1000) : ev cfg (.tup 0 (intsE ps)) ρ = .ok (.tup (ps.map .int), 0) ρ := by
  have h1 : ((ps.map fun i => ((D.int i, 0) : Sl)).all (hasd 0)) = true := by
    rw [List.all_eq_true]
    intro x _
    exact hasd_0
  have h2 : decide ((ps.map fun i => ((D.int i, 0) : Sl)).length ≤ sizeLine) = true := by rw [List.length_map]; exact decide_eq_true (len_size h)
  have h3 : demL (ps.map fun i => ((D.int i, 0) : Sl)) = ps.map .int := by
    unfold demL
    rw [List.map_map]; rfl
  simp only [ev, evA_ints, bind_ok, valsA_ints, of_some, h1, h2, h3, Bool.and_self, if_true]
theorem lk_lpr : defs.lookup ("_law_prime" : Str) = some d__law_prime := by rfl
theorem pick_call {cfg : Cf} {d d' : D} {ps : List Int} {p : Int} (h : ps.length ≤ 1000) (hc : cfg.call "_law_pick" [(d, 2), (.tup (ps.map .int), 0)] = .ok (.int p, 0) [some (d', 2), none]) : ev cfg (.call "_law_pick" (.cons (.lend 0) (.cons (.tup 0 (intsE ps)) .nil)) [] [(0, 0)]) [some (d, 2)] = .ok (.int p, 0) [some (d', 2)] := by
  have h0 : evA cfg (.cons (.tup 0 (intsE ps)) .nil) [some (d, 2)] = .ok [.val (.tup (ps.map .int), 0)] [some (d, 2)] := by
    rw [evA]
    · rw [ev_ints h]
      simp only [bind_ok, evA]
    · intro i h; cases h
  have hA : evA cfg (.cons (.lend 0) (.cons (.tup 0 (intsE ps)) .nil)) [some (d, 2)] = .ok [.ln 0, .val (.tup (ps.map .int), 0)] [some (d, 2)] := by
    rw [evA]
    simp only [gt, Option.isSome_some, if_true, h0, bind_ok]
  simp only [ev, hA, bind_ok, resolveA, List.all_cons, List.all_nil, Option.isNone_none, gt, Bool.and_self, if_true, selL0, hc, backsTo, List.getElem?_cons_zero, Option.getD_some, st]
theorem lpr_body {cfg : Cf} {d : D} (hd : DeckOk d) (hdr : DrawOk cfg.call) (hpk : PickOk cfg.call) : ∃ (p : Int) (d' : D), exec cfg d__law_prime.body [some (d, 2)] = .ok (.rt (.int p, 0)) [some (d', 2)] ∧ (p ∈ psA ∨ p ∈ psB) ∧ DeckOk d' := by
  have e0 : d__law_prime.body = (.seq (.ifs (.tcmp .Eq (.call "_law_draw" (.cons (.lend 0) (.cons (.int 5) .nil)) [] [(0, 0)]) (.int 4))
    (.ret (.call "_law_pick" (.cons (.lend 0) (.cons (.tup 0 (intsE psB)) .nil)) [] [(0, 0)]))
    .skip)
    (.ret (.call "_law_pick" (.cons (.lend 0) (.cons (.tup 0 (intsE psA)) .nil)) [] [(0, 0)]))) := rfl
  obtain ⟨r1, d1, a1, b1, c1, e1⟩ := hdr d 5 hd (by decide) (by decide)
  have hT : evT cfg (.tcmp .Eq (.call "_law_draw" (.cons (.lend 0) (.cons (.int 5) .nil)) [] [(0, 0)]) (.int 4)) [some (d, 2)] = .ok (r1 == 4) [some (d1, 2)] := by
    simp only [exec, ev, evA, evT, evO, gt, st, bind_ok, of_some, valsA, Option.map_some, demL, List.map_cons, List.map_nil, resolveA, List.all_nil, List.all_cons, if_true, Bool.false_eq_true, if_false, selL0, backsTo, op2_add, op2_sub, op2_mul, op2_mod, op2_fdiv, op2_and, addD_i, subD_i, fr_i, fr_b, fr_t, fr_l, hasd_0, hasd_i, Bool.and_self, Bool.and_true, nofz_i, nofz_b, intB_i, lenB_l, lenB_t, listB_t, tupB_l, maxB_i, cmp_lt, cmp_gt, cmp_ge, cmp_le, cmp_eq, cmp_ne, truthD_b, Option.isNone_some, List.length_map, Option.isSome_some, Option.isNone_none, List.getElem?_cons_zero, Option.getD_some, a1]
  rw [e0]
  cases hc : r1 == 4
  · rw [hc] at hT
    obtain ⟨p, d2, a2, b2, e2⟩ := hpk d1 psA 0 e1 (by decide) (by decide)
    exact ⟨p, d2, (exec_seq (exec_if_f hT)).trans (exec_ret (pick_call (by decide) a2)), .inl b2, e2⟩
  · rw [hc] at hT
    obtain ⟨p, d2, a2, b2, e2⟩ := hpk d1 psB 0 e1 (by decide) (by decide)
    exact ⟨p, d2, exec_seq_rt ((exec_if_t hT).trans (exec_ret (pick_call (by decide) a2))), .inr b2, e2⟩
theorem psN : ∀ p ∈ psA ++ psB, p.toNat ∈ primesN ∧ 0 ≤ p := by decide +kernel
theorem lpr_F {fuel k : Nat} {d : D} (hd : DeckOk d) : ∃ (p : Nat) (d' : D), callN defs con fuel (k + 3) "_law_prime" [(d, 2)] = .ok (.int (p : Int), 0) [some (d', 2)] ∧ p ∈ primesN ∧ DeckOk d' := by
  have h1 : DrawOk (callN defs con fuel (k + 2)) := fun d many hd h0 h1 => draw_F (k := k + 1) hd h0 h1
  have h2 : PickOk (callN defs con fuel (k + 2)) := fun d ps n hd h0 h1 => pick_F (k := k) hd h0 h1
  have key : ∃ (p : Int) (d' : D), exec ⟨callN defs con fuel (k + 2), con, fuel⟩ d__law_prime.body [some (d, 2)] = .ok (.rt (.int p, 0)) [some (d', 2)] ∧ (p ∈ psA ∨ p ∈ psB) ∧ DeckOk d' := by
    generalize callN defs con fuel (k + 2) = call at h1 h2 ⊢
    exact lpr_body (cfg := ⟨call, con, fuel⟩) hd h1 h2
  obtain ⟨p, d', hb, hp, h⟩ := key
  obtain ⟨hn, hz⟩ := psN p (List.mem_append.mpr hp)
  refine ⟨p.toNat, d', ?_, hn, h⟩
  rw [show ((p.toNat : Nat) : Int) = p by omega]
  exact callN_ok (df := d__law_prime) (args := [(d, 2)]) (ρ0 := [some (d, 2)]) lk_lpr rfl rfl hb
/-! ### the curve -/
theorem flat_mod {p a b : Int} : flat p a (b % p) = flat p a b := by
  unfold flat
  have h : 4 * a * a * a + 27 * (b % p) * (b % p) = (4 * a * a * a + 27 * b * b) + p * (27 * (b / p) * (p * (b / p) - 2 * b)) := by
    rw [Int.emod_def]
    grind
  rw [h, Int.add_mul_emod_self_left]
def step (p a b : Int) : Int := if flat p a b then (b + 1) % p else b
theorem step_rng {p a b : Int} (hp : 0 < p) (h : 0 ≤ b ∧ b < p) : 0 ≤ step p a b ∧ step p a b < p := by
  unfold step
  split
  · exact ⟨Int.emod_nonneg _ (by omega), Int.emod_lt_of_pos _ hp⟩
  · exact h
theorem p54 : ∀ p ∈ primesN, 54 % p ≠ 0 := by decide
theorem three {p : Nat} {a b : Int} (hp : p ∈ primesN) : flat p a (step p a (step p a (step p a b))) = false := by
  have h54 := p54 p hp
  cases h1 : flat p a b with
  | false =>
    have e : step p a b = b := by unfold step; rw [h1]; rfl
    rw [e, e, e]; exact h1
  | true =>
    have e : step p a b = (b + 1) % p := by unfold step; rw [h1]; rfl
    rw [e]
    cases h2 : flat p a ((b + 1) % p) with
    | false =>
      have e2 : step p a ((b + 1) % p) = (b + 1) % p := by unfold step; rw [h2]; rfl
      rw [e2, e2]; exact h2
    | true =>
      have e2 : step p a ((b + 1) % p) = ((b + 1) % p + 1) % p := by unfold step; rw [h2]; rfl
      rw [e2]
      have e4 : flat p a (((b + 1) % p + 1) % p) = flat p a (b + 2) := by
        rw [Int.emod_add_emod, flat_mod, Int.add_assoc]; rfl
      cases h3 : flat p a (((b + 1) % p + 1) % p) with
      | false =>
        have e3 : step p a (((b + 1) % p + 1) % p) = ((b + 1) % p + 1) % p := by unfold step; rw [h3]; rfl
        rw [e3]; exact h3
      | true =>
        exfalso
        rw [e4] at h3
        rw [flat_mod] at h2
        unfold flat at h1 h2 h3
        rw [beq_iff_eq] at h1 h2 h3
        have d1 := Int.dvd_of_emod_eq_zero h1
        have d2 := Int.dvd_of_emod_eq_zero h2
        have d3 := Int.dvd_of_emod_eq_zero h3
        have d4 := Int.dvd_sub (Int.dvd_sub d3 d2) (Int.dvd_sub d2 d1)
        have e5 : 4 * a * a * a + 27 * (b + 2) * (b + 2) - (4 * a * a * a + 27 * (b + 1) * (b + 1)) - (4 * a * a * a + 27 * (b + 1) * (b + 1) - (4 * a * a * a + 27 * b * b)) = 54 := by grind
        rw [e5] at d4
        have d5 : p ∣ 54 := by exact_mod_cast d4
        exact h54 (Nat.mod_eq_zero_of_dvd d5)
def fE : Ex := (.tcmp .Eq (.op2 .Mod (.blt .int (.cons (.op2 .Add (.op2 .Mult (.op2 .Mult (.op2 .Mult (.int 4) (.var 3)) (.var 3)) (.var 3)) (.op2 .Mult (.op2 .Mult (.int 27) (.var 4)) (.var 4))) .nil)) (.var 1)) (.int 0))
theorem fE_ev {cfg : Cf} {p a b : Int} {d w y : Option Sl} (hp : 0 < p) (hp2 : p < 1000) (ha : 0 ≤ a ∧ a < p) (hb : 0 ≤ b ∧ b < p) : evT cfg fE [d, some (.int p, 0), w, some (.int a, 0), some (.int b, 0), y] = .ok (flat p a b) [d, some (.int p, 0), w, some (.int a, 0), some (.int b, 0), y] := by
  have m1 : mulOk 4 a = true := mulOk_small (by decide)
  have m2 : mulOk (4 * a) a = true := mulOk_small (by omega)
  have m3 : mulOk (4 * a * a) a = true := by
    have : (4 * a * a).natAbs < 2 ^ 64 := by
      have := Int.natAbs_mul (4 * a) a
      have h3 : (4 * a).natAbs * a.natAbs ≤ 4000 * 1000 := Nat.mul_le_mul (by omega) (by omega)
      omega
    exact mulOk_small this
  have m4 : mulOk 27 b = true := mulOk_small (by decide)
  have m5 : mulOk (27 * b) b = true := mulOk_small (by omega)
  unfold fE flat
  simp only [exec, ev, evA, evT, evO, gt, st, bind_ok, of_some, valsA, Option.map_some, demL, List.map_cons, List.map_nil, resolveA, List.all_nil, List.all_cons, if_true, Bool.false_eq_true, if_false, selL0, backsTo, op2_add, op2_sub, op2_mul, op2_mod, op2_fdiv, op2_and, addD_i, subD_i, fr_i, fr_b, fr_t, fr_l, hasd_0, hasd_i, Bool.and_self, Bool.and_true, nofz_i, nofz_b, intB_i, lenB_l, lenB_t, listB_t, tupB_l, maxB_i, cmp_lt, cmp_gt, cmp_ge, cmp_le, cmp_eq, cmp_ne, truthD_b, Option.isNone_some, List.length_map, mulD_i m1, mulD_i m2, mulD_i m3, mulD_i m4, mulD_i m5, modD_i hp]
def stepN (p a : Int) : Nat → Int → Int
  | 0, b => b
  | n + 1, b => step p a (stepN p a n b)
theorem cv_loop {cfg : Cf} {p a b : Int} {d w : Option Sl} (hp : 0 < p) (hp2 : p < 1000) (ha : 0 ≤ a ∧ a < p) (hb : 0 ≤ b ∧ b < p) : ∃ ρ, exec cfg (.fors none (.nm 5) (.irng1 (.int 3)) (.ifs fE (.asg (.nm 4) (.op2 .Mod (.blt .int (.cons (.op2 .Add (.var 4) (.int 1)) .nil)) (.var 1))) .skip)) [d, some (.int p, 0), w, some (.int a, 0), some (.int b, 0), none] = .ok .nx ρ ∧
    ∃ y, ρ = [d, some (.int p, 0), w, some (.int a, 0), some (.int (step p a (step p a (step p a b))), 0), y] := by
  refine fors_inv (fun i ρ => ∃ y, (0 ≤ stepN p a i b ∧ stepN p a i b < p) ∧ ρ = [d, some (.int p, 0), w, some (.int a, 0), some (.int (stepN p a i b), 0), y]) (evI_irng1 (x := (.int 3, 0)) (l := (List.range 3).map fun k : Nat => D.int (k : Int)) rfl (rngZ (n := 3) (by decide))) ⟨none, hb, rfl⟩ ?_ ?_
  · rintro j x ρ hx ⟨y, hr, rfl⟩
    refine ⟨[d, some (.int p, 0), w, some (.int a, 0), some (.int (stepN p a j b), 0), some (x, 0)], [d, some (.int p, 0), w, some (.int a, 0), some (.int (stepN p a (j + 1) b), 0), some (x, 0)], rfl, ?_, some (x, 0), step_rng hp hr, rfl⟩
    have hf := fE_ev (cfg := cfg) (d := d) (w := w) (y := some (x, 0)) hp hp2 ha hr
    simp only [stepN]
    generalize stepN p a j b = c at *
    cases hc : flat p a c
    · rw [hc] at hf
      have e : step p a c = c := by unfold step; rw [hc]; rfl
      rw [e]
      exact (exec_if_f hf).trans rfl
    · rw [hc] at hf
      have e : step p a c = (c + 1) % p := by unfold step; rw [hc]; rfl
      rw [e, exec_if_t hf]
      simp only [exec, ev, evA, evT, evO, gt, st, bind_ok, of_some, valsA, Option.map_some, demL, List.map_cons, List.map_nil, resolveA, List.all_nil, List.all_cons, if_true, Bool.false_eq_true, if_false, selL0, backsTo, op2_add, op2_sub, op2_mul, op2_mod, op2_fdiv, op2_and, addD_i, subD_i, fr_i, fr_b, fr_t, fr_l, hasd_0, hasd_i, Bool.and_self, Bool.and_true, nofz_i, nofz_b, intB_i, lenB_l, lenB_t, listB_t, tupB_l, maxB_i, cmp_lt, cmp_gt, cmp_ge, cmp_le, cmp_eq, cmp_ne, truthD_b, Option.isNone_some, List.length_map, modD_i hp]
  · rintro ρ ⟨y, _, rfl⟩
    exact ⟨y, rfl⟩
theorem lk_lcv : defs.lookup ("_law_curve" : Str) = some d__law_curve := by rfl
def drE (e : Ex) : Ex := (.call "_law_draw" (.cons (.lend 0) (.cons e .nil)) [] [(0, 0)])
theorem cv_par {cfg : Cf} {p r1 r2 r3 : Int} {d d1 d2 d3 : D} (h1 : cfg.call "_law_draw" [(d, 2), (.int 6, 0)] = .ok (.int r1, 0) [some (d1, 2), none]) (h2 : cfg.call "_law_draw" [(d1, 2), (.int p, 0)] = .ok (.int r2, 0) [some (d2, 2), none]) (h3 : cfg.call "_law_draw" [(d2, 2), (.int p, 0)] = .ok (.int r3, 0) [some (d3, 2), none]) :
    exec cfg (.par [2, 3, 4] (.cons (drE (.int 6)) (.cons (drE (.var 1)) (.cons (drE (.var 1)) .nil)))) [some (d, 2), some (.int p, 0), none, none, none, none] = .ok .nx [some (d3, 2), some (.int p, 0), some (.int r1, 0), some (.int r2, 0), some (.int r3, 0), none] := by
  unfold drE
  simp only [exec, ev, evA, evT, evO, gt, st, bind_ok, of_some, valsA, Option.map_some, demL, List.map_cons, List.map_nil, resolveA, List.all_nil, List.all_cons, if_true, Bool.false_eq_true, if_false, selL0, backsTo, op2_add, op2_sub, op2_mul, op2_mod, op2_fdiv, op2_and, addD_i, subD_i, fr_i, fr_b, fr_t, fr_l, hasd_0, hasd_i, Bool.and_self, Bool.and_true, nofz_i, nofz_b, intB_i, lenB_l, lenB_t, listB_t, tupB_l, maxB_i, cmp_lt, cmp_gt, cmp_ge, cmp_le, cmp_eq, cmp_ne, truthD_b, Option.isNone_some, List.length_map, Option.isSome_some, Option.isNone_none, List.getElem?_cons_zero, Option.getD_some, h1, h2, h3, setAll]
def ifA : Sm := (.ifs (.tcmp .Eq (.var 2) (.int 0))
    (.asg (.nm 3) (.int 0))
    (.ifs (.tcmp .Eq (.var 2) (.int 1))
    (.asg (.nm 4) (.int 0))
    (.ifs (.tcmp .Lt (.var 2) (.int 4))
    (.par [3, 4] (.cons (.op2 .Mod (.op2 .Sub (.op2 .Mult (.var 3) (.var 4)) (.op2 .Mult (.op2 .Add (.var 3) (.var 4)) (.op2 .Add (.var 3) (.var 4)))) (.var 1)) (.cons (.op2 .Mod (.blt .int (.cons (.op2 .Mult (.op2 .Mult (.var 3) (.var 4)) (.op2 .Add (.var 3) (.var 4))) .nil)) (.var 1)) .nil)))
    .skip)))
theorem ifA_ok {cfg : Cf} {p r a b : Int} {d : Option Sl} (hp : 0 < p) (hp2 : p < 1000) (ha : 0 ≤ a ∧ a < p) (hb : 0 ≤ b ∧ b < p) : ∃ a' b', exec cfg ifA [d, some (.int p, 0), some (.int r, 0), some (.int a, 0), some (.int b, 0), none] = .ok .nx [d, some (.int p, 0), some (.int r, 0), some (.int a', 0), some (.int b', 0), none] ∧ (0 ≤ a' ∧ a' < p) ∧ 0 ≤ b' ∧ b' < p := by
  unfold ifA
  have t1 : evT cfg (.tcmp .Eq (.var 2) (.int 0)) [d, some (.int p, 0), some (.int r, 0), some (.int a, 0), some (.int b, 0), none] = .ok (r == 0) [d, some (.int p, 0), some (.int r, 0), some (.int a, 0), some (.int b, 0), none] := by simp only [exec, ev, evA, evT, evO, gt, st, bind_ok, of_some, valsA, Option.map_some, demL, List.map_cons, List.map_nil, resolveA, List.all_nil, List.all_cons, if_true, Bool.false_eq_true, if_false, selL0, backsTo, op2_add, op2_sub, op2_mul, op2_mod, op2_fdiv, op2_and, addD_i, subD_i, fr_i, fr_b, fr_t, fr_l, hasd_0, hasd_i, Bool.and_self, Bool.and_true, nofz_i, nofz_b, intB_i, lenB_l, lenB_t, listB_t, tupB_l, maxB_i, cmp_lt, cmp_gt, cmp_ge, cmp_le, cmp_eq, cmp_ne, truthD_b, Option.isNone_some, List.length_map]
  have t2 : evT cfg (.tcmp .Eq (.var 2) (.int 1)) [d, some (.int p, 0), some (.int r, 0), some (.int a, 0), some (.int b, 0), none] = .ok (r == 1) [d, some (.int p, 0), some (.int r, 0), some (.int a, 0), some (.int b, 0), none] := by simp only [exec, ev, evA, evT, evO, gt, st, bind_ok, of_some, valsA, Option.map_some, demL, List.map_cons, List.map_nil, resolveA, List.all_nil, List.all_cons, if_true, Bool.false_eq_true, if_false, selL0, backsTo, op2_add, op2_sub, op2_mul, op2_mod, op2_fdiv, op2_and, addD_i, subD_i, fr_i, fr_b, fr_t, fr_l, hasd_0, hasd_i, Bool.and_self, Bool.and_true, nofz_i, nofz_b, intB_i, lenB_l, lenB_t, listB_t, tupB_l, maxB_i, cmp_lt, cmp_gt, cmp_ge, cmp_le, cmp_eq, cmp_ne, truthD_b, Option.isNone_some, List.length_map]
  have t3 : evT cfg (.tcmp .Lt (.var 2) (.int 4)) [d, some (.int p, 0), some (.int r, 0), some (.int a, 0), some (.int b, 0), none] = .ok (decide (r < 4)) [d, some (.int p, 0), some (.int r, 0), some (.int a, 0), some (.int b, 0), none] := by simp only [exec, ev, evA, evT, evO, gt, st, bind_ok, of_some, valsA, Option.map_some, demL, List.map_cons, List.map_nil, resolveA, List.all_nil, List.all_cons, if_true, Bool.false_eq_true, if_false, selL0, backsTo, op2_add, op2_sub, op2_mul, op2_mod, op2_fdiv, op2_and, addD_i, subD_i, fr_i, fr_b, fr_t, fr_l, hasd_0, hasd_i, Bool.and_self, Bool.and_true, nofz_i, nofz_b, intB_i, lenB_l, lenB_t, listB_t, tupB_l, maxB_i, cmp_lt, cmp_gt, cmp_ge, cmp_le, cmp_eq, cmp_ne, truthD_b, Option.isNone_some, List.length_map]
  cases h1 : r == 0
  · rw [h1] at t1
    rw [exec_if_f t1]
    cases h2 : r == 1
    · rw [h2] at t2
      rw [exec_if_f t2]
      cases h3 : decide (r < 4)
      · rw [h3] at t3
        exact ⟨a, b, (exec_if_f t3).trans rfl, ha, hb⟩
      · rw [h3] at t3
        have m1 : mulOk a b = true := mulOk_small (by omega)
        have m2 : mulOk (a + b) (a + b) = true := mulOk_small (by omega)
        have m3 : mulOk (a * b) (a + b) = true := by
          have : (a * b).natAbs < 2 ^ 64 := by
            have := Int.natAbs_mul a b
            have h3 : a.natAbs * b.natAbs ≤ 1000 * 1000 := Nat.mul_le_mul (by omega) (by omega)
            omega
          exact mulOk_small this
        refine ⟨(a * b - (a + b) * (a + b)) % p, (a * b * (a + b)) % p, (exec_if_t t3).trans ?_, ⟨Int.emod_nonneg _ (by omega), Int.emod_lt_of_pos _ hp⟩, Int.emod_nonneg _ (by omega), Int.emod_lt_of_pos _ hp⟩
        simp only [exec, ev, evA, evT, evO, gt, st, bind_ok, of_some, valsA, Option.map_some, demL, List.map_cons, List.map_nil, resolveA, List.all_nil, List.all_cons, if_true, Bool.false_eq_true, if_false, selL0, backsTo, op2_add, op2_sub, op2_mul, op2_mod, op2_fdiv, op2_and, addD_i, subD_i, fr_i, fr_b, fr_t, fr_l, hasd_0, hasd_i, Bool.and_self, Bool.and_true, nofz_i, nofz_b, intB_i, lenB_l, lenB_t, listB_t, tupB_l, maxB_i, cmp_lt, cmp_gt, cmp_ge, cmp_le, cmp_eq, cmp_ne, truthD_b, Option.isNone_some, List.length_map, mulD_i m1, mulD_i m2, mulD_i m3, modD_i hp, setAll]
    · rw [h2] at t2
      exact ⟨a, 0, (exec_if_t t2).trans rfl, ha, by omega, hp⟩
  · rw [h1] at t1
    exact ⟨0, b, (exec_if_t t1).trans rfl, ⟨by omega, hp⟩, hb⟩
theorem lcv_body {cfg : Cf} {p : Nat} {d : D} (hp : p ∈ primesN) (hd : DeckOk d) (hdr : DrawOk cfg.call) : ∃ (a b : Int) (d' : D) (w y : Option Sl), exec cfg d__law_curve.body [some (d, 2), some (.int (p : Int), 0), none, none, none, none] = .ok (.rt (.tup [.int a, .int b], 0)) [some (d', 2), some (.int (p : Int), 0), w, some (.int a, 0), some (.int b, 0), y] ∧ (0 ≤ a ∧ a < p) ∧ (0 ≤ b ∧ b < p) ∧ flat p a b = false ∧ DeckOk d' := by
  have hr := primesN_rng p hp
  obtain ⟨r1, d1, a1, b1, c1, e1⟩ := hdr d 6 hd (by decide) (by decide)
  obtain ⟨r2, d2, a2, b2, c2, e2⟩ := hdr d1 (p : Int) e1 (by omega) (by omega)
  obtain ⟨r3, d3, a3, b3, c3, e3⟩ := hdr d2 (p : Int) e2 (by omega) (by omega)
  have hpar := cv_par a1 a2 a3
  obtain ⟨a, b, hif, ha, hb⟩ := ifA_ok (cfg := cfg) (p := (p : Int)) (r := r1) (a := r2) (b := r3) (d := some (d3, 2)) (by omega) (by omega) ⟨b2, c2⟩ ⟨b3, c3⟩
  obtain ⟨ρ, hl, y, rfl⟩ := cv_loop (cfg := cfg) (d := some (d3, 2)) (w := some (.int r1, 0)) (p := (p : Int)) (a := a) (b := b) (by omega) (by omega) ha hb
  have e0 : d__law_curve.body = (.seq (.par [2, 3, 4] (.cons (drE (.int 6)) (.cons (drE (.var 1)) (.cons (drE (.var 1)) .nil)))) (.seq ifA (.seq (.fors none (.nm 5) (.irng1 (.int 3)) (.ifs fE (.asg (.nm 4) (.op2 .Mod (.blt .int (.cons (.op2 .Add (.var 4) (.int 1)) .nil)) (.var 1))) .skip)) (.ret (.tup 0 (.cons (.var 3) (.cons (.var 4) .nil))))))) := rfl
  have hpp : (0 : Int) < (p : Int) := by omega
  have hb3 := step_rng (a := a) hpp (step_rng (a := a) hpp (step_rng (a := a) hpp hb))
  refine ⟨a, _, d3, some (.int r1, 0), y, ?_, ha, hb3, three hp, e3⟩
  rw [e0, exec_seq hpar, exec_seq hif, exec_seq hl]
  refine exec_ret ?_
  have z2 : decide (2 ≤ sizeLine) = true := by decide
  simp only [exec, ev, evA, evT, evO, gt, st, bind_ok, of_some, valsA, Option.map_some, demL, List.map_cons, List.map_nil, resolveA, List.all_nil, List.all_cons, if_true, Bool.false_eq_true, if_false, selL0, backsTo, op2_add, op2_sub, op2_mul, op2_mod, op2_fdiv, op2_and, addD_i, subD_i, fr_i, fr_b, fr_t, fr_l, hasd_0, hasd_i, Bool.and_self, Bool.and_true, nofz_i, nofz_b, intB_i, lenB_l, lenB_t, listB_t, tupB_l, maxB_i, cmp_lt, cmp_gt, cmp_ge, cmp_le, cmp_eq, cmp_ne, truthD_b, Option.isNone_some, List.length_map, List.length_cons, List.length_nil, Nat.zero_add, Nat.reduceAdd, z2]
theorem lcv_F {fuel k p : Nat} {d : D} (hp : p ∈ primesN) (hd : DeckOk d) : ∃ (a b : Nat) (d' : D), callN defs con fuel (k + 2) "_law_curve" [(d, 2), (.int (p : Int), 0)] = .ok (.tup [.int (a : Int), .int (b : Int)], 0) [some (d', 2), none] ∧ a < p ∧ b < p ∧ flat p a b = false ∧ DeckOk d' := by
  have h1 : DrawOk (callN defs con fuel (k + 1)) := fun d many hd h0 h1 => draw_F (k := k) hd h0 h1
  have key : ∃ (a b : Int) (d' : D) (w y : Option Sl), exec ⟨callN defs con fuel (k + 1), con, fuel⟩ d__law_curve.body [some (d, 2), some (.int (p : Int), 0), none, none, none, none] = .ok (.rt (.tup [.int a, .int b], 0)) [some (d', 2), some (.int (p : Int), 0), w, some (.int a, 0), some (.int b, 0), y] ∧ (0 ≤ a ∧ a < p) ∧ (0 ≤ b ∧ b < p) ∧ flat p a b = false ∧ DeckOk d' := by
    generalize callN defs con fuel (k + 1) = call at h1 ⊢
    exact lcv_body (cfg := ⟨call, con, fuel⟩) hp hd h1
  obtain ⟨a, b, d', w, y, hb, h2, h3, h4, h5⟩ := key
  obtain ⟨a, rfl⟩ : ∃ n : Nat, a = n := ⟨a.toNat, by omega⟩
  obtain ⟨b, rfl⟩ : ∃ n : Nat, b = n := ⟨b.toNat, by omega⟩
  exact ⟨a, b, d', callN_ok (df := d__law_curve) (args := [(d, 2), (.int (p : Int), 0)]) (ρ0 := [some (d, 2), some (.int (p : Int), 0), none, none, none, none]) lk_lcv rfl rfl hb, by omega, by omega, h4, h5⟩
end Pi.K17
/-! K17i: the remainders leave one trace -/
namespace Pi.K17
open PySem L2 Pi.Ha
theorem sq_small {x : Int} {n m : Nat} (h : x * x < (m : Int)) (hm : m ≤ (n + 1) * (n + 1)) : x.natAbs ≤ n := by
  apply Nat.le_of_not_lt
  intro hn
  have h1 : (n + 1) * (n + 1) ≤ x.natAbs * x.natAbs := Nat.mul_le_mul hn hn
  have h2 : x * x = ((x.natAbs * x.natAbs : Nat) : Int) := by rw [← Int.natAbs_mul_self]
  omega
theorem isT_iff {p : Nat} {t : Int} : isT p t = true ↔ t * t < 4 * (p : Int) := by
  unfold isT
  exact decide_eq_true_iff
theorem mem_trL {p : Nat} {t : Int} (hp : p ∈ primesN) : t ∈ trL p ↔ t * t < 4 * (p : Int) := by
  have hr := primesN_rng p hp
  unfold trL trN
  rw [List.mem_map]
  constructor
  · rintro ⟨k, hk, rfl⟩
    exact isT_iff.mp (List.mem_filter.mp hk).2
  · intro h
    have hb : t.natAbs ≤ p := by
      refine sq_small (m := 4 * p) (by omega) ?_
      have : 7 * p ≤ p * p := Nat.mul_le_mul_right p hr.1
      have : p * p ≤ (p + 1) * (p + 1) := Nat.mul_le_mul (by omega) (by omega)
      omega
    refine ⟨(t + p).toNat, List.mem_filter.mpr ⟨List.mem_range.mpr (by omega), ?_⟩, by omega⟩
    have e : -(p : Int) + ((t + p).toNat : Nat) = t := by omega
    rw [e]
    exact isT_iff.mpr h
theorem trL_nd (p : Nat) : (trL p).Nodup := by
  unfold trL trN
  refine List.Pairwise.map _ (R := fun a b : Nat => a ≠ b) (fun a b h e => h (by omega)) ?_
  exact (List.nodup_range (n := 2 * p + 1)).filter _
theorem filter_one {L : List Int} {t : Int} {P : Int → Bool} (nd : L.Nodup) (m : t ∈ L) (h : ∀ x ∈ L, P x = true ↔ x = t) : L.filter P = [t] := by
  induction L with
  | nil => cases m
  | cons y L ih =>
    rw [List.nodup_cons] at nd
    rw [List.filter_cons]
    by_cases e : y = t
    · subst e
      rw [if_pos ((h y (List.mem_cons_self ..)).mpr rfl)]
      congr 1
      rw [List.filter_eq_nil_iff]
      intro x hx hP
      have := (h x (List.mem_cons_of_mem _ hx)).mp hP
      subst this
      exact nd.1 hx
    · rw [if_neg (fun q => e ((h y (List.mem_cons_self ..)).mp q))]
      exact ih nd.2 ((List.mem_cons.mp m).resolve_left fun q => e q.symm) fun x hx => h x (List.mem_cons_of_mem _ hx)
def ls4 : List Int := [2, 3, 5, 7]
def ownL (p : Nat) (t : Int) (ls : List Int) : List (Int × Int) := (ls.filter fun l => !(l == (p : Int))).map fun l => (l, t % l)
theorem fit_own {p : Nat} {t x : Int} : fitB x (ownL p t ls4) = true ↔ ∀ l ∈ ls4, l ≠ (p : Int) → x % l = t % l := by
  unfold fitB ownL
  rw [List.all_eq_true]
  constructor
  · intro h l hl hn
    have := h (l, t % l) (List.mem_map.mpr ⟨l, List.mem_filter.mpr ⟨hl, by simpa using hn⟩, rfl⟩)
    unfold one at this
    exact beq_iff_eq.mp this
  · rintro h y hy
    obtain ⟨l, hl, rfl⟩ := List.mem_map.mp hy
    obtain ⟨hl, hn⟩ := List.mem_filter.mp hl
    unfold one
    exact beq_iff_eq.mpr (h l hl (by simpa using hn))
theorem fit_uniq {p : Nat} {t : Int} (hp : p ∈ primesN) (ht : t * t < 4 * (p : Int)) : fitL p (ownL p t ls4) = [t] := by
  have hr := primesN_rng p hp
  unfold fitL
  refine filter_one (trL_nd p) ((mem_trL hp).mpr ht) fun x hx => ?_
  rw [fit_own]
  constructor
  · intro h
    have hx := (mem_trL hp).mp hx
    have h2 := h 2 (by decide) (by omega)
    have h3 := h 3 (by decide) (by omega)
    have h5 := h 5 (by decide) (by omega)
    by_cases h7 : p = 7
    · subst h7
      have bx := sq_small (n := 5) (m := 28) (x := x) (by omega) (by decide)
      have bt := sq_small (n := 5) (m := 28) (x := t) (by omega) (by decide)
      omega
    · have h7 := h 7 (by decide) (by omega)
      have bx := sq_small (n := 28) (m := 800) (x := x) (by omega) (by decide)
      have bt := sq_small (n := 28) (m := 800) (x := t) (by omega) (by decide)
      omega
  · rintro rfl l _ _
    rfl
theorem fitB_rev {t : Int} {ps : List (Int × Int)} : fitB t ps.reverse = fitB t ps := by
  unfold fitB
  rw [List.all_reverse]
theorem fitL_rev {p : Nat} {ps : List (Int × Int)} : fitL p ps.reverse = fitL p ps := by
  unfold fitL
  simp only [fitB_rev]
theorem fitL_nil {p : Nat} : fitL p [] = trL p := by
  unfold fitL fitB
  simp
theorem trL_small {p : Nat} (hp : p ∈ primesN) : ∀ x ∈ trL p, x.natAbs < 1000 := fun x hx => by
  have hr := primesN_rng p hp
  have := sq_small (n := 28) (m := 800) (x := x) (by have := (mem_trL hp).mp hx; omega) (by decide)
  omega
theorem fit_small {p : Nat} {ps : List (Int × Int)} (hp : p ∈ primesN) : ∀ x ∈ fitL p ps, x.natAbs < 1000 := fun x hx => trL_small hp x (List.mem_filter.mp hx).1
theorem ne_one (t : Int) : cmpD .NotEq (.tup [.int t]) (.tup [.int t]) = some false := by
  simp [cmpD, eqD, scalD, toPy, toPyL, SeqAt.shaped, PyData.canLay0, PyData.canLayAll0, PyData.depth, PyData.depthAll, PyData.eqv, PyData.eqvAll]
end Pi.K17
/-! K17j: the law's body -/
namespace Pi.K17
open PySem L2 Pi.Ha
structure Calls (call : Str → List Sl → Cr) (p a b : Nat) (t : Int) : Prop where
  tr : ∀ l : Int, 0 < l → call "trace_remainder" [(curveD p a b, 0), (.int l, 0)] = .ok (.int (t % l), 0) [none, none]
  tf : ∀ (ps : List (Int × Int)) (m : Nat), (∀ x ∈ ps, 0 < x.1) → ps.length ≤ 100 → call "traces_fitting" [(.int (p : Int), 0), (.tup (ps.map pairD), m)] = .ok (.tup ((fitL p ps).map D.int), 0) [none, none]
  lf : ∀ (ps : List (Int × Int)) (m : Nat), (∀ x ∈ ps, 0 < x.1) → ps.length ≤ 100 → call "_law_fitting" [(.int (p : Int), 0), (.lst (ps.map pairD), m)] = .ok (.tup ((fitL p ps).map D.int), 0) [none, none]
  lt : call "_law_traces" [(.int (p : Int), 0)] = .ok (.lst ((trL p).map D.int), 1) [none]
  dr : DrawOk call
def en (sc dk : Option Sl) (p a b : Nat) (t : Int) (own l told turn left pairs more due : Option Sl) : Env := [sc, dk, some (.int (p : Int), 0), some (.int (a : Int), 0), some (.int (b : Int), 0), some (curveD p a b, 0), some (.int t, 0), own, l, told, turn, left, pairs, more, due]
section
variable {cfg : Cf} {p a b : Nat} {t : Int} {sc dk l0 told turn left pairs more due : Option Sl}
theorem z2 : decide (2 ≤ sizeLine) = true := by decide
theorem z1' : decide (1 ≤ sizeLine) = true := by decide
theorem selL2 {α : Type} {x y : α} : selL [x, y] [1, 0] = [y, x] := rfl
def ownA : Sm := (.asg (.nm 9) (.lst 0 (.cons (.call "trace_remainder" (.cons (.var 5) (.cons (.var 8) .nil)) [] []) (.cons (.call "trace_remainder" (.cons (.var 8) (.cons (.var 5) .nil)) [1, 0] []) .nil))))
def ownC : Sm := (.expr (.mutv .append 7 (.cons (.tup 0 (.cons (.var 8) (.cons (.op2 .Mod (.blt .int (.cons (.var 6) .nil)) (.var 8)) .nil))) .nil)))
def ownIf : Ex := (.tcmp .NotEq (.blt .repr (.cons (.var 9) .nil)) (.blt .repr (.cons (.lst 0 (.cons (.op2 .Mod (.blt .int (.cons (.var 6) .nil)) (.var 8)) (.cons (.op2 .Mod (.blt .int (.cons (.var 6) .nil)) (.var 8)) .nil))) .nil)))
def ownB : Sm := (.ifs (.tcmp .NotEq (.var 8) (.var 2))
    (.seq ownA
    (.seq (.ifs ownIf
    (.ret (.bl false))
    .skip)
    ownC))
    .skip)
theorem append_ok {o : List D} {x : D} (h : o.length ≤ 1000) : mutD .append (.lst o) 1 [(x, 0)] = some ((.non, 0), .lst (o ++ [x])) := by
  have : o.length < sizeLine := Nat.lt_of_le_of_lt h (by decide)
  have h2 : hasd (1 - 1) (x, 0) = true := hasd_0
  simp only [mutD, decide_eq_true this, h2, Bool.and_self, if_true]
theorem own_turn {l : Int} {o : List (Int × Int)} (hC : Calls cfg.call p a b t) (hl : 0 < l) (hl2 : l < 10) (ho : o.length ≤ 100) : ∃ tl', exec cfg ownB (en sc dk p a b t (some (.lst (o.map pairD), 1)) (some (.int l, 0)) told turn left pairs more due) =
    .ok .nx (en sc dk p a b t (some (.lst ((if !(l == (p : Int)) then o ++ [(l, t % l)] else o).map pairD), 1)) (some (.int l, 0)) tl' turn left pairs more due) := by
  have hT : evT cfg (.tcmp .NotEq (.var 8) (.var 2)) (en sc dk p a b t (some (.lst (o.map pairD), 1)) (some (.int l, 0)) told turn left pairs more due) = .ok (!(l == (p : Int))) (en sc dk p a b t (some (.lst (o.map pairD), 1)) (some (.int l, 0)) told turn left pairs more due) := by
    simp only [en, exec, ev, evA, evT, evO, gt, st, bind_ok, of_some, valsA, Option.map_some, demL, List.map_cons, List.map_nil, resolveA, List.all_nil, List.all_cons, if_true, Bool.false_eq_true, if_false, selL0, backsTo, op2_add, op2_sub, op2_mul, op2_mod, op2_fdiv, op2_and, addD_i, subD_i, fr_i, fr_b, fr_t, fr_l, hasd_0, hasd_i, Bool.and_self, Bool.and_true, nofz_i, nofz_b, intB_i, lenB_l, lenB_t, listB_t, tupB_l, maxB_i, cmp_lt, cmp_gt, cmp_ge, cmp_le, cmp_eq, cmp_ne, truthD_b, Option.isNone_some, List.length_map]
  unfold ownB
  cases hc : !(l == (p : Int))
  · rw [hc] at hT
    exact ⟨told, (exec_if_f hT).trans rfl⟩
  · rw [hc] at hT
    have hm : (t % l).natAbs < 1000 := by
      have := Int.emod_nonneg t (show l ≠ 0 by omega)
      have := Int.emod_lt_of_pos t hl
      omega
    obtain ⟨s, hs⟩ := repr_i2 hm hm
    have c1 := hC.tr l hl
    have a1 : exec cfg ownA (en sc dk p a b t (some (.lst (o.map pairD), 1)) (some (.int l, 0)) told turn left pairs more due) = .ok .nx (en sc dk p a b t (some (.lst (o.map pairD), 1)) (some (.int l, 0)) (some (.lst [.int (t % l), .int (t % l)], 1)) turn left pairs more due) := by
      simp only [ownA, en, exec, ev, evA, evT, evO, gt, st, bind_ok, of_some, valsA, Option.map_some, demL, List.map_cons, List.map_nil, resolveA, List.all_nil, List.all_cons, if_true, Bool.false_eq_true, if_false, selL0, backsTo, op2_add, op2_sub, op2_mul, op2_mod, op2_fdiv, op2_and, addD_i, subD_i, fr_i, fr_b, fr_t, fr_l, hasd_0, hasd_i, Bool.and_self, Bool.and_true, nofz_i, nofz_b, intB_i, lenB_l, lenB_t, listB_t, tupB_l, maxB_i, cmp_lt, cmp_gt, cmp_ge, cmp_le, cmp_eq, cmp_ne, truthD_b, Option.isNone_some, List.length_map, selL2, c1, List.length_cons, List.length_nil, Nat.zero_add, Nat.reduceAdd, z2]
    have a2 : evT cfg ownIf (en sc dk p a b t (some (.lst (o.map pairD), 1)) (some (.int l, 0)) (some (.lst [.int (t % l), .int (t % l)], 1)) turn left pairs more due) = .ok false (en sc dk p a b t (some (.lst (o.map pairD), 1)) (some (.int l, 0)) (some (.lst [.int (t % l), .int (t % l)], 0)) turn left pairs more due) := by
      simp only [ownIf, en, exec, ev, evA, evT, evO, gt, st, bind_ok, of_some, valsA, Option.map_some, demL, List.map_cons, List.map_nil, resolveA, List.all_nil, List.all_cons, if_true, Bool.false_eq_true, if_false, selL0, backsTo, op2_add, op2_sub, op2_mul, op2_mod, op2_fdiv, op2_and, addD_i, subD_i, fr_i, fr_b, fr_t, fr_l, hasd_0, hasd_i, Bool.and_self, Bool.and_true, nofz_i, nofz_b, intB_i, lenB_l, lenB_t, listB_t, tupB_l, maxB_i, cmp_lt, cmp_gt, cmp_ge, cmp_le, cmp_eq, cmp_ne, truthD_b, Option.isNone_some, List.length_map, modD_i hl, hs, fr_s, List.length_cons, List.length_nil, Nat.zero_add, Nat.reduceAdd, z2, ne_str]
    have a3 : exec cfg ownC (en sc dk p a b t (some (.lst (o.map pairD), 1)) (some (.int l, 0)) (some (.lst [.int (t % l), .int (t % l)], 0)) turn left pairs more due) = .ok .nx (en sc dk p a b t (some (.lst ((o ++ [(l, t % l)]).map pairD), 1)) (some (.int l, 0)) (some (.lst [.int (t % l), .int (t % l)], 0)) turn left pairs more due) := by
      have hk : (kndD (some (.lst (o.map pairD), 1)) != mmK .append) = false := rfl
      have h2 := append_ok (o := o.map pairD) (x := .tup [.int l, .int (t % l)]) (by rw [List.length_map]; omega)
      have h3 : o.map pairD ++ [.tup [.int l, .int (t % l)]] = (o ++ [(l, t % l)]).map pairD := by rw [List.map_append]; rfl
      rw [h3] at h2
      simp only [ownC, en, exec, ev, evA, evT, evO, gt, st, bind_ok, of_some, valsA, Option.map_some, demL, List.map_cons, List.map_nil, resolveA, List.all_nil, List.all_cons, if_true, Bool.false_eq_true, if_false, selL0, backsTo, op2_add, op2_sub, op2_mul, op2_mod, op2_fdiv, op2_and, addD_i, subD_i, fr_i, fr_b, fr_t, fr_l, hasd_0, hasd_i, Bool.and_self, Bool.and_true, nofz_i, nofz_b, intB_i, lenB_l, lenB_t, listB_t, tupB_l, maxB_i, cmp_lt, cmp_gt, cmp_ge, cmp_le, cmp_eq, cmp_ne, truthD_b, Option.isNone_some, List.length_map, hk, modD_i hl, List.length_cons, List.length_nil, Nat.zero_add, Nat.reduceAdd, z2, h2]
    exact ⟨_, (exec_if_t hT).trans ((exec_seq a1).trans ((exec_seq ((exec_if_f a2).trans exec_skip)).trans a3))⟩
theorem take_succ_filter {L : List Int} {P : Int → Bool} {j : Nat} {x : Int} (h : L[j]? = some x) : (L.take (j + 1)).filter P = if P x then (L.take j).filter P ++ [x] else (L.take j).filter P := by
  rw [List.take_add_one, h, Option.toList_some, List.filter_append, List.filter_cons, List.filter_nil]
  cases P x <;> simp
theorem own_loop (hC : Calls cfg.call p a b t) : ∃ ρ, exec cfg (.fors none (.nm 8) (.ival (.tup 0 (intsE ls4))) ownB) (en sc dk p a b t (some (.lst (([] : List (Int × Int)).map pairD), 1)) l0 told turn left pairs more due) = .ok .nx ρ ∧
    ∃ l' told', ρ = en sc dk p a b t (some (.lst ((ownL p t ls4).map pairD), 1)) l' told' turn left pairs more due := by
  refine fors_inv (fun i ρ => ∃ l' told', ρ = en sc dk p a b t (some (.lst ((ownL p t (ls4.take i)).map pairD), 1)) l' told' turn left pairs more due) (evI_ivalT (ev_ints (by decide))) ⟨l0, told, rfl⟩ ?_ ?_
  · rintro j x ρ hx ⟨l', told', rfl⟩
    rw [List.getElem?_map, Option.map_eq_some_iff] at hx
    obtain ⟨l, hl, rfl⟩ := hx
    have hm := List.mem_of_getElem? hl
    have hb : ∀ l ∈ ls4, 0 < l ∧ l < 10 := by decide
    obtain ⟨tl', ht⟩ := own_turn (sc := sc) (dk := dk) (told := told') (turn := turn) (left := left) (pairs := pairs) (more := more) (due := due) (o := ownL p t (ls4.take j)) hC (hb l hm).1 (hb l hm).2 (by
      unfold ownL
      rw [List.length_map]
      refine Nat.le_trans (List.length_filter_le _ _) ?_
      rw [List.length_take]
      have : ls4.length = 4 := rfl
      omega)
    refine ⟨_, _, rfl, ht, some (.int l, 0), tl', ?_⟩
    have e : (if !(l == (p : Int)) then ownL p t (ls4.take j) ++ [(l, t % l)] else ownL p t (ls4.take j)) = ownL p t (ls4.take (j + 1)) := by
      unfold ownL
      rw [take_succ_filter hl]
      cases !(l == (p : Int)) <;> simp
    rw [e]
  · rintro ρ ⟨l', told', rfl⟩
    exact ⟨l', told', by rw [List.length_map, List.take_length]⟩
def t7 : Ex := (.tq (.tor (.tcmp .NotEq (.blt .repr (.cons (.call "traces_fitting" (.cons (.var 2) (.cons (.blt .tuple (.cons (.var 7) .nil)) .nil)) [] []) .nil)) (.blt .repr (.cons (.tup 0 (.cons (.var 6) .nil)) .nil))) (.tcmp .NotEq (.blt .repr (.cons (.call "traces_fitting" (.cons (.var 2) (.cons (.blt .tuple (.cons (.rev (.var 7)) .nil)) .nil)) [] []) .nil)) (.blt .repr (.cons (.tup 0 (.cons (.var 6) .nil)) .nil)))))
def t8 : Ex := (.tq (.tcmp .NotEq (.call "_law_fitting" (.cons (.var 2) (.cons (.var 7) .nil)) [] []) (.tup 0 (.cons (.var 6) .nil))))
theorem t7_ev {o : List (Int × Int)} (hC : Calls cfg.call p a b t) (ho : ∀ x ∈ o, 0 < x.1) (hl : o.length ≤ 100) (hf : fitL p o = [t]) (ht : t.natAbs < 1000) : evT cfg t7 (en sc dk p a b t (some (.lst (o.map pairD), 1)) l0 told turn left pairs more due) = .ok false (en sc dk p a b t (some (.lst (o.map pairD), 1)) l0 told turn left pairs more due) := by
  have c1 := hC.tf o 0 ho hl
  have c2 := hC.tf o.reverse 0 (fun x hx => ho x (List.mem_reverse.mp hx)) (by rw [List.length_reverse]; exact hl)
  rw [fitL_rev, hf] at c2
  rw [hf] at c1
  have h3 : revD (.lst (o.map pairD)) = some (.lst (o.reverse.map pairD)) := by rw [List.map_reverse]; rfl
  obtain ⟨s, hs⟩ := repr_tup (f := [t]) (fun x hx => by rw [List.mem_singleton.mp hx]; exact ht) (by simp)
  simp only [List.map_cons, List.map_nil] at c1 c2 hs
  simp only [t7, en, exec, ev, evA, evT, evO, gt, st, bind_ok, of_some, valsA, Option.map_some, demL, List.map_cons, List.map_nil, resolveA, List.all_nil, List.all_cons, if_true, Bool.false_eq_true, if_false, selL0, backsTo, op2_add, op2_sub, op2_mul, op2_mod, op2_fdiv, op2_and, addD_i, subD_i, fr_i, fr_b, fr_t, fr_l, hasd_0, hasd_i, Bool.and_self, Bool.and_true, nofz_i, nofz_b, intB_i, lenB_l, lenB_t, listB_t, tupB_l, maxB_i, cmp_lt, cmp_gt, cmp_ge, cmp_le, cmp_eq, cmp_ne, truthD_b, Option.isNone_some, List.length_map, c1, hs, fr_s, List.length_cons, List.length_nil, Nat.zero_add, z1', ne_str, h3, c2]
theorem t8_ev {o : List (Int × Int)} (hC : Calls cfg.call p a b t) (ho : ∀ x ∈ o, 0 < x.1) (hl : o.length ≤ 100) (hf : fitL p o = [t]) : evT cfg t8 (en sc dk p a b t (some (.lst (o.map pairD), 1)) l0 told turn left pairs more due) = .ok false (en sc dk p a b t (some (.lst (o.map pairD), 1)) l0 told turn left pairs more due) := by
  have c1 := hC.lf o 0 ho hl
  rw [hf] at c1
  have h4 : cmpD .NotEq (.tup [D.int t]) (.tup [D.int t]) = some false := ne_one t
  simp only [List.map_cons, List.map_nil] at c1
  simp only [t8, en, ev, evA, evT, gt, st, bind_ok, of_some, valsA, Option.map_some, demL, List.map_cons, List.map_nil, resolveA, List.all_nil, List.all_cons, if_true, selL0, backsTo, c1, hasd_0, Bool.and_self, List.length_cons, List.length_nil, Nat.zero_add, z1', h4]
/-! ### drawn remainders -/
def popE : Sm := (.asg (.nm 8) (.mutv .pop 11 (.cons (.call "_law_draw" (.cons (.lend 1) (.cons (.q (.blt .len (.cons (.var 11) .nil))) .nil)) [] [(1, 0)]) .nil)))
def appE : Sm := (.expr (.mutv .append 12 (.cons (.tup 0 (.cons (.var 8) (.cons (.ite (.tcmp .Gt (.call "_law_draw" (.cons (.lend 1) (.cons (.int 3) .nil)) [] [(1, 0)]) (.int 0)) (.call "_law_draw" (.cons (.lend 1) (.cons (.var 8) .nil)) [] [(1, 0)]) (.op2 .Mod (.blt .int (.cons (.var 6) .nil)) (.var 8))) .nil))) .nil)))
theorem erase_map : ∀ (L : List Int) (n : Nat), (L.map D.int).eraseIdx n = (L.eraseIdx n).map D.int
  | [], n => rfl
  | _ :: _, 0 => rfl
  | x :: L, n + 1 => by simp only [List.map_cons, List.eraseIdx_cons_succ, erase_map L n]
theorem pop_ok {d d1 : D} {L : List Int} {r : Int} {own : Option Sl} (h1 : cfg.call "_law_draw" [(d, 2), (.int (L.length : Nat), 0)] = .ok (.int r, 0) [some (d1, 2), none]) (h0 : 0 ≤ r) (hr : r < (L.length : Nat)) : ∃ l, l ∈ L ∧ ∃ L' : List Int, L'.length + 1 = L.length ∧ (∀ x ∈ L', x ∈ L) ∧
    exec cfg popE (en sc (some (d, 2)) p a b t own l0 told turn (some (.lst (L.map .int), 1)) pairs more due) = .ok .nx (en sc (some (d1, 2)) p a b t own (some (.int l, 0)) told turn (some (.lst (L'.map .int), 1)) pairs more due) := by
  obtain ⟨n, rfl⟩ : ∃ n : Nat, r = n := ⟨r.toNat, by omega⟩
  have hn : n < L.length := by omega
  refine ⟨L[n], List.getElem_mem hn, L.eraseIdx n, by rw [List.length_eraseIdx_of_lt hn]; omega, fun x hx => List.mem_of_mem_eraseIdx hx, ?_⟩
  have h2 : mutD .pop (.lst (L.map .int)) 1 [(.int (n : Int), 0)] = some ((.int L[n], 0), .lst ((L.eraseIdx n).map .int)) := by
    have e1 : ixN (L.map D.int).length (n : Int) = some n := by
      unfold ixN
      rw [if_pos (by omega), List.length_map, if_pos (by omega)]; rfl
    have e2 : (L.map D.int)[n]? = some (.int L[n]) := by
      rw [List.getElem?_map, List.getElem?_eq_getElem hn]; rfl
    have e3 : (L.map D.int).eraseIdx n = (L.eraseIdx n).map D.int := erase_map L n
    simp only [mutD, e1, e2, e3, Option.map_some, Nat.sub_self]
  have hk : (kndD (some (.lst (L.map D.int), 1)) != mmK .pop) = false := rfl
  simp only [popE, en, exec, ev, evA, evT, evO, gt, st, bind_ok, of_some, valsA, Option.map_some, demL, List.map_cons, List.map_nil, resolveA, List.all_nil, List.all_cons, if_true, Bool.false_eq_true, if_false, selL0, backsTo, op2_add, op2_sub, op2_mul, op2_mod, op2_fdiv, op2_and, addD_i, subD_i, fr_i, fr_b, fr_t, fr_l, hasd_0, hasd_i, Bool.and_self, Bool.and_true, nofz_i, nofz_b, intB_i, lenB_l, lenB_t, listB_t, tupB_l, maxB_i, cmp_lt, cmp_gt, cmp_ge, cmp_le, cmp_eq, cmp_ne, truthD_b, Option.isNone_some, List.length_map, hk, Option.isSome_some, Option.isNone_none, List.getElem?_cons_zero, Option.getD_some, h1, h2]
theorem app_ok {d : D} {l : Int} {o : List (Int × Int)} {own : Option Sl} (hC : Calls cfg.call p a b t) (hd : DeckOk d) (hl : 0 < l) (hl2 : l < 10) (ho : o.length ≤ 100) : ∃ d1 r, DeckOk d1 ∧
    exec cfg appE (en sc (some (d, 2)) p a b t own (some (.int l, 0)) told turn left (some (.lst (o.map pairD), 1)) more due) = .ok .nx (en sc (some (d1, 2)) p a b t own (some (.int l, 0)) told turn left (some (.lst ((o ++ [(l, r)]).map pairD), 1)) more due) := by
  obtain ⟨r1, d1, a1, _, _, e1⟩ := hC.dr d 3 hd (by decide) (by decide)
  have hk : (kndD (some (.lst (o.map pairD), 1)) != mmK .append) = false := rfl
  have key : ∀ r, mutD .append (.lst (o.map pairD)) 1 [(.tup [.int l, .int r], 0)] = some ((.non, 0), .lst ((o ++ [(l, r)]).map pairD)) := fun r => by
    have h2 := append_ok (o := o.map pairD) (x := .tup [.int l, .int r]) (by rw [List.length_map]; omega)
    have h3 : o.map pairD ++ [.tup [.int l, .int r]] = (o ++ [(l, r)]).map pairD := by rw [List.map_append]; rfl
    rw [h3] at h2
    exact h2
  by_cases h : 0 < r1
  · obtain ⟨r2, d2, a2, _, _, e2⟩ := hC.dr d1 l e1 hl (by omega)
    refine ⟨d2, r2, e2, ?_⟩
    have h2 := key r2
    simp only [appE, en, exec, ev, evA, evT, evO, gt, st, bind_ok, of_some, valsA, Option.map_some, demL, List.map_cons, List.map_nil, resolveA, List.all_nil, List.all_cons, if_true, Bool.false_eq_true, if_false, selL0, backsTo, op2_add, op2_sub, op2_mul, op2_mod, op2_fdiv, op2_and, addD_i, subD_i, fr_i, fr_b, fr_t, fr_l, hasd_0, hasd_i, Bool.and_self, Bool.and_true, nofz_i, nofz_b, intB_i, lenB_l, lenB_t, listB_t, tupB_l, maxB_i, cmp_lt, cmp_gt, cmp_ge, cmp_le, cmp_eq, cmp_ne, truthD_b, Option.isNone_some, List.length_map, hk, Option.isSome_some, Option.isNone_none, List.getElem?_cons_zero, Option.getD_some, a1, decide_eq_true h, a2, List.length_cons, List.length_nil, Nat.zero_add, Nat.reduceAdd, z2, h2]
  · refine ⟨d1, t % l, e1, ?_⟩
    have h2 := key (t % l)
    simp only [appE, en, exec, ev, evA, evT, evO, gt, st, bind_ok, of_some, valsA, Option.map_some, demL, List.map_cons, List.map_nil, resolveA, List.all_nil, List.all_cons, if_true, Bool.false_eq_true, if_false, selL0, backsTo, op2_add, op2_sub, op2_mul, op2_mod, op2_fdiv, op2_and, addD_i, subD_i, fr_i, fr_b, fr_t, fr_l, hasd_0, hasd_i, Bool.and_self, Bool.and_true, nofz_i, nofz_b, intB_i, lenB_l, lenB_t, listB_t, tupB_l, maxB_i, cmp_lt, cmp_gt, cmp_ge, cmp_le, cmp_eq, cmp_ne, truthD_b, Option.isNone_some, List.length_map, hk, Option.isSome_some, Option.isNone_none, List.getElem?_cons_zero, Option.getD_some, a1, decide_eq_false h, modD_i hl, List.length_cons, List.length_nil, Nat.zero_add, Nat.reduceAdd, z2, h2]
def moreE : Ex := (.irng1 (.call "_law_draw" (.cons (.lend 1) (.cons (.int 5) .nil)) [] [(1, 0)]))
theorem more_loop {d : D} {own : Option Sl} (hC : Calls cfg.call p a b t) (hd : DeckOk d) : ∃ ρ, exec cfg (.fors none (.nm 13) moreE (.seq popE appE)) (en sc (some (d, 2)) p a b t own l0 told turn (some (.lst (ls4.map .int), 1)) (some (.lst (([] : List (Int × Int)).map pairD), 1)) more due) = .ok .nx ρ ∧
    ∃ (d1 : D) (o : List (Int × Int)) (l' left' more' : Option Sl), DeckOk d1 ∧ (∀ x ∈ o, 0 < x.1) ∧ o.length ≤ 100 ∧ ρ = en sc (some (d1, 2)) p a b t own l' told turn left' (some (.lst (o.map pairD), 1)) more' due := by
  obtain ⟨r, d1, a1, b1, c1, e1⟩ := hC.dr d 5 hd (by decide) (by decide)
  obtain ⟨n, rfl⟩ : ∃ n : Nat, r = n := ⟨r.toNat, by omega⟩
  have hn : n ≤ 4 := by omega
  have hi : evI cfg moreE (en sc (some (d, 2)) p a b t own l0 told turn (some (.lst (ls4.map .int), 1)) (some (.lst (([] : List (Int × Int)).map pairD), 1)) more due) = .ok ((List.range n).map fun k : Nat => D.int (k : Int)) (en sc (some (d1, 2)) p a b t own l0 told turn (some (.lst (ls4.map .int), 1)) (some (.lst (([] : List (Int × Int)).map pairD), 1)) more due) := by
    refine evI_irng1 (x := (.int (n : Int), 0)) ?_ (rngZ (by omega))
    simp only [en, exec, ev, evA, evT, evO, gt, st, bind_ok, of_some, valsA, Option.map_some, demL, List.map_cons, List.map_nil, resolveA, List.all_nil, List.all_cons, if_true, Bool.false_eq_true, if_false, selL0, backsTo, op2_add, op2_sub, op2_mul, op2_mod, op2_fdiv, op2_and, addD_i, subD_i, fr_i, fr_b, fr_t, fr_l, hasd_0, hasd_i, Bool.and_self, Bool.and_true, nofz_i, nofz_b, intB_i, lenB_l, lenB_t, listB_t, tupB_l, maxB_i, cmp_lt, cmp_gt, cmp_ge, cmp_le, cmp_eq, cmp_ne, truthD_b, Option.isNone_some, List.length_map, Option.isSome_some, Option.isNone_none, List.getElem?_cons_zero, Option.getD_some, a1]
  refine fors_inv (fun i ρ => ∃ (d1 : D) (L : List Int) (o : List (Int × Int)) (l' more' : Option Sl), DeckOk d1 ∧ L.length + i = 4 ∧ (∀ x ∈ L, x ∈ ls4) ∧ (∀ x ∈ o, 0 < x.1) ∧ o.length = i ∧ ρ = en sc (some (d1, 2)) p a b t own l' told turn (some (.lst (L.map .int), 1)) (some (.lst (o.map pairD), 1)) more' due) hi
    ⟨d1, ls4, [], l0, more, e1, rfl, fun x h => h, fun x h => absurd h List.not_mem_nil, rfl, rfl⟩ ?_ ?_
  · rintro j x ρ hx ⟨d2, L, o, l', more', hd2, hL, hm, ho, hol, rfl⟩
    have hj : j < n := by
      have := (List.getElem?_eq_some_iff.mp hx).1
      simpa using this
    obtain ⟨r2, d3, a2, b2, c2, e2⟩ := hC.dr d2 (L.length : Nat) hd2 (by omega) (by omega)
    obtain ⟨l, hlL, L', hL', hm', hpop⟩ := pop_ok (sc := sc) (p := p) (a := a) (b := b) (t := t) (l0 := l') (told := told) (turn := turn) (pairs := some (.lst (o.map pairD), 1)) (more := some (x, 0)) (due := due) (own := own) a2 b2 c2
    have hb : ∀ l ∈ ls4, 0 < l ∧ l < 10 := by decide
    have hl := hb l (hm l hlL)
    obtain ⟨d4, r4, e4, happ⟩ := app_ok (sc := sc) (told := told) (turn := turn) (left := some (.lst (L'.map .int), 1)) (more := some (x, 0)) (due := due) (own := own) (o := o) hC e2 hl.1 hl.2 (by omega)
    refine ⟨_, _, rfl, (exec_seq hpop).trans happ, d4, L', o ++ [(l, r4)], some (.int l, 0), some (x, 0), e4, by omega, fun y hy => hm y (hm' y hy), fun y hy => ?_, by simp [hol], rfl⟩
    rcases List.mem_append.mp hy with h | h
    · exact ho y h
    · rw [List.mem_singleton.mp h]; exact hl.1
  · rintro ρ ⟨d2, L, o, l', more', hd2, hL, hm, ho, hol, rfl⟩
    refine ⟨d2, o, l', _, more', hd2, ho, ?_, rfl⟩
    rw [List.length_map, List.length_range] at hol
    omega
def b1 : Sm := (.par [11, 12] (.cons (.lst 0 (.cons (.int 2) (.cons (.int 3) (.cons (.int 5) (.cons (.int 7) .nil))))) (.cons (.lst 0 .nil) .nil)))
def b3 : Sm := (.asg (.nm 14) (.q (.call "_law_fitting" (.cons (.var 2) (.cons (.var 12) .nil)) [] [])))
def b4 : Sm := (.asg (.nm 9) (.q (.lst 0 (.cons (.call "traces_fitting" (.cons (.var 2) (.cons (.blt .tuple (.cons (.var 12) .nil)) .nil)) [] []) (.cons (.call "traces_fitting" (.cons (.blt .tuple (.cons (.var 12) .nil)) (.cons (.var 2) .nil)) [1, 0] []) .nil)))))
def b5 : Ex := (.tcmp .NotEq (.blt .repr (.cons (.var 9) .nil)) (.blt .repr (.cons (.lst 0 (.cons (.var 14) (.cons (.var 14) .nil))) .nil)))
def bB : Sm := (.seq b1 (.seq (.fors none (.nm 13) moreE (.seq popE appE)) (.seq b3 (.seq b4 (.ifs b5 (.ret (.bl false)) .skip)))))
theorem nofz_l1 {l : List Int} : nofz 1 (.lst [.tup (l.map .int), .tup (l.map .int)]) = true := by
  have h := nofz_ints l
  simp only [nofz, nofzL] at h ⊢
  simp [h]
theorem b_turn {d : D} {own : Option Sl} (hp : p ∈ primesN) (hC : Calls cfg.call p a b t) (hd : DeckOk d) : ∃ (d1 : D) (l' told' left' pairs' more' due' : Option Sl), DeckOk d1 ∧ exec cfg bB (en sc (some (d, 2)) p a b t own l0 told turn left pairs more due) = .ok .nx (en sc (some (d1, 2)) p a b t own l' told' turn left' pairs' more' due') := by
  have hr := primesN_rng p hp
  have z4 : decide (4 ≤ sizeLine) = true := by decide
  have z0 : decide (0 ≤ sizeLine) = true := by decide
  have h1 : exec cfg b1 (en sc (some (d, 2)) p a b t own l0 told turn left pairs more due) = .ok .nx (en sc (some (d, 2)) p a b t own l0 told turn (some (.lst (ls4.map .int), 1)) (some (.lst (([] : List (Int × Int)).map pairD), 1)) more due) := by
    simp only [b1, en, exec, ev, evA, evT, evO, gt, st, bind_ok, of_some, valsA, Option.map_some, demL, List.map_cons, List.map_nil, resolveA, List.all_nil, List.all_cons, if_true, Bool.false_eq_true, if_false, selL0, backsTo, op2_add, op2_sub, op2_mul, op2_mod, op2_fdiv, op2_and, addD_i, subD_i, fr_i, fr_b, fr_t, fr_l, hasd_0, hasd_i, Bool.and_self, Bool.and_true, nofz_i, nofz_b, intB_i, lenB_l, lenB_t, listB_t, tupB_l, maxB_i, cmp_lt, cmp_gt, cmp_ge, cmp_le, cmp_eq, cmp_ne, truthD_b, Option.isNone_some, List.length_map, List.length_cons, List.length_nil, Nat.zero_add, Nat.reduceAdd, z4, z0, setAll, ls4]
  obtain ⟨ρ, h2, d1, o, l', left', more', hd1, ho, hol, rfl⟩ := more_loop (sc := sc) (l0 := l0) (told := told) (turn := turn) (more := more) (due := due) (own := own) hC hd
  have c1 := hC.lf o 0 ho hol
  have c2 := hC.tf o 0 ho hol
  have hq := nofz_ints (fitL p o)
  obtain ⟨s, hs⟩ := repr_two (fit_small (ps := o) hp) (Nat.le_trans (fitL_len (p := p) (by omega)) (by decide))
  have hq2 := nofz_l1 (l := fitL p o)
  have h3 : exec cfg b3 (en sc (some (d1, 2)) p a b t own l' told turn left' (some (.lst (o.map pairD), 1)) more' due) = .ok .nx (en sc (some (d1, 2)) p a b t own l' told turn left' (some (.lst (o.map pairD), 1)) more' (some (.tup ((fitL p o).map .int), 0))) := by
    simp only [b3, en, exec, ev, evA, evT, evO, gt, st, bind_ok, of_some, valsA, Option.map_some, demL, List.map_cons, List.map_nil, resolveA, List.all_nil, List.all_cons, if_true, Bool.false_eq_true, if_false, selL0, backsTo, op2_add, op2_sub, op2_mul, op2_mod, op2_fdiv, op2_and, addD_i, subD_i, fr_i, fr_b, fr_t, fr_l, hasd_0, hasd_i, Bool.and_self, Bool.and_true, nofz_i, nofz_b, intB_i, lenB_l, lenB_t, listB_t, tupB_l, maxB_i, cmp_lt, cmp_gt, cmp_ge, cmp_le, cmp_eq, cmp_ne, truthD_b, Option.isNone_some, List.length_map, c1, hq]
  have h4 : exec cfg b4 (en sc (some (d1, 2)) p a b t own l' told turn left' (some (.lst (o.map pairD), 1)) more' (some (.tup ((fitL p o).map .int), 0))) = .ok .nx (en sc (some (d1, 2)) p a b t own l' (some (.lst [.tup ((fitL p o).map .int), .tup ((fitL p o).map .int)], 1)) turn left' (some (.lst (o.map pairD), 1)) more' (some (.tup ((fitL p o).map .int), 0))) := by
    simp only [b4, en, exec, ev, evA, evT, evO, gt, st, bind_ok, of_some, valsA, Option.map_some, demL, List.map_cons, List.map_nil, resolveA, List.all_nil, List.all_cons, if_true, Bool.false_eq_true, if_false, selL0, backsTo, op2_add, op2_sub, op2_mul, op2_mod, op2_fdiv, op2_and, addD_i, subD_i, fr_i, fr_b, fr_t, fr_l, hasd_0, hasd_i, Bool.and_self, Bool.and_true, nofz_i, nofz_b, intB_i, lenB_l, lenB_t, listB_t, tupB_l, maxB_i, cmp_lt, cmp_gt, cmp_ge, cmp_le, cmp_eq, cmp_ne, truthD_b, Option.isNone_some, List.length_map, selL2, c2, List.length_cons, List.length_nil, Nat.zero_add, Nat.reduceAdd, z2, hq2]
  have h5 : evT cfg b5 (en sc (some (d1, 2)) p a b t own l' (some (.lst [.tup ((fitL p o).map .int), .tup ((fitL p o).map .int)], 1)) turn left' (some (.lst (o.map pairD), 1)) more' (some (.tup ((fitL p o).map .int), 0))) = .ok false (en sc (some (d1, 2)) p a b t own l' (some (.lst [.tup ((fitL p o).map .int), .tup ((fitL p o).map .int)], 0)) turn left' (some (.lst (o.map pairD), 1)) more' (some (.tup ((fitL p o).map .int), 0))) := by
    simp only [b5, en, exec, ev, evA, evT, evO, gt, st, bind_ok, of_some, valsA, Option.map_some, demL, List.map_cons, List.map_nil, resolveA, List.all_nil, List.all_cons, if_true, Bool.false_eq_true, if_false, selL0, backsTo, op2_add, op2_sub, op2_mul, op2_mod, op2_fdiv, op2_and, addD_i, subD_i, fr_i, fr_b, fr_t, fr_l, hasd_0, hasd_i, Bool.and_self, Bool.and_true, nofz_i, nofz_b, intB_i, lenB_l, lenB_t, listB_t, tupB_l, maxB_i, cmp_lt, cmp_gt, cmp_ge, cmp_le, cmp_eq, cmp_ne, truthD_b, Option.isNone_some, List.length_map, hs, fr_s, List.length_cons, List.length_nil, Nat.zero_add, Nat.reduceAdd, z2, ne_str]
  exact ⟨d1, _, _, _, _, _, _, hd1, (exec_seq h1).trans ((exec_seq h2).trans ((exec_seq h3).trans ((exec_seq h4).trans ((exec_if_f h5).trans exec_skip))))⟩
def turnE : Ex := (.irng1 (.op2 .Add (.int 1) (.call "_law_draw" (.cons (.lend 1) (.cons (.int 5) .nil)) [] [(1, 0)])))
theorem b_loop {d : D} {own : Option Sl} (hp : p ∈ primesN) (hC : Calls cfg.call p a b t) (hd : DeckOk d) : ∃ ρ, exec cfg (.fors none (.nm 10) turnE bB) (en sc (some (d, 2)) p a b t own l0 told turn left pairs more due) = .ok .nx ρ ∧
    ∃ (d1 : D) (l' told' turn' left' pairs' more' due' : Option Sl), ρ = en sc (some (d1, 2)) p a b t own l' told' turn' left' pairs' more' due' := by
  obtain ⟨r, d1, a1, b1, c1, e1⟩ := hC.dr d 5 hd (by decide) (by decide)
  obtain ⟨n, rfl⟩ : ∃ n : Nat, r = n := ⟨r.toNat, by omega⟩
  have hi : evI cfg turnE (en sc (some (d, 2)) p a b t own l0 told turn left pairs more due) = .ok ((List.range (n + 1)).map fun k : Nat => D.int (k : Int)) (en sc (some (d1, 2)) p a b t own l0 told turn left pairs more due) := by
    have e : (1 : Int) + (n : Int) = ((n + 1 : Nat) : Int) := by omega
    refine evI_irng1 (x := (.int ((n + 1 : Nat) : Int), 0)) ?_ (rngZ (by omega))
    simp only [en, exec, ev, evA, evT, evO, gt, st, bind_ok, of_some, valsA, Option.map_some, demL, List.map_cons, List.map_nil, resolveA, List.all_nil, List.all_cons, if_true, Bool.false_eq_true, if_false, selL0, backsTo, op2_add, op2_sub, op2_mul, op2_mod, op2_fdiv, op2_and, addD_i, subD_i, fr_i, fr_b, fr_t, fr_l, hasd_0, hasd_i, Bool.and_self, Bool.and_true, nofz_i, nofz_b, intB_i, lenB_l, lenB_t, listB_t, tupB_l, maxB_i, cmp_lt, cmp_gt, cmp_ge, cmp_le, cmp_eq, cmp_ne, truthD_b, Option.isNone_some, List.length_map, Option.isSome_some, Option.isNone_none, List.getElem?_cons_zero, Option.getD_some, a1, e]
  refine fors_inv (fun i ρ => ∃ (d1 : D) (l' told' turn' left' pairs' more' due' : Option Sl), DeckOk d1 ∧ ρ = en sc (some (d1, 2)) p a b t own l' told' turn' left' pairs' more' due') hi ⟨d1, _, _, _, _, _, _, _, e1, rfl⟩ ?_ ?_
  · rintro j x ρ hx ⟨d2, l', told', turn', left', pairs', more', due', hd2, rfl⟩
    obtain ⟨d3, l3, told3, left3, pairs3, more3, due3, hd3, h3⟩ := b_turn (sc := sc) (l0 := l') (told := told') (turn := some (x, 0)) (left := left') (pairs := pairs') (more := more') (due := due') (own := own) hp hC hd2
    exact ⟨_, _, rfl, h3, d3, _, _, _, _, _, _, _, hd3, rfl⟩
  · rintro ρ ⟨d2, l', told', turn', left', pairs', more', due', hd2, rfl⟩
    exact ⟨d2, _, _, _, _, _, _, _, rfl⟩
def lastE : Ex := (.cmp .Eq (.blt .repr (.cons (.call "traces_fitting" (.cons (.var 2) (.cons (.tup 0 .nil) .nil)) [] []) .nil)) (.blt .repr (.cons (.blt .tuple (.cons (.call "_law_traces" (.cons (.var 2) .nil) [] []) .nil)) .nil)))
theorem last_ev {own : Option Sl} (hp : p ∈ primesN) (hC : Calls cfg.call p a b t) : ev cfg lastE (en sc dk p a b t own l0 told turn left pairs more due) = .ok (.bl true, 0) (en sc dk p a b t own l0 told turn left pairs more due) := by
  have hr := primesN_rng p hp
  have c1 := hC.tf [] 0 (fun x h => absurd h List.not_mem_nil) (by decide)
  rw [fitL_nil] at c1
  simp only [List.map_nil] at c1
  have c2 := hC.lt
  obtain ⟨s, hs⟩ := repr_tup (trL_small hp) (Nat.le_trans (trL_len (p := p) (by omega)) (by decide))
  have z0 : decide (0 ≤ sizeLine) = true := by decide
  simp only [lastE, en, exec, ev, evA, evT, evO, gt, st, bind_ok, of_some, valsA, Option.map_some, demL, List.map_cons, List.map_nil, resolveA, List.all_nil, List.all_cons, if_true, Bool.false_eq_true, if_false, selL0, backsTo, op2_add, op2_sub, op2_mul, op2_mod, op2_fdiv, op2_and, addD_i, subD_i, fr_i, fr_b, fr_t, fr_l, hasd_0, hasd_i, Bool.and_self, Bool.and_true, nofz_i, nofz_b, intB_i, lenB_l, lenB_t, listB_t, tupB_l, maxB_i, cmp_lt, cmp_gt, cmp_ge, cmp_le, cmp_eq, cmp_ne, truthD_b, Option.isNone_some, List.length_map, List.length_nil, z0, c1, hs, fr_s, c2, eq_str]
end
end Pi.K17
/-! K17k: the law's run -/
namespace Pi.K17
open PySem L2 Pi.Ha
def s1' : Sm := (.asg (.nm 1) (.call "_law_deck" (.cons (.var 0) .nil) [] []))
def s2' : Sm := (.asg (.nm 2) (.call "_law_prime" (.cons (.lend 1) .nil) [] [(1, 0)]))
def s3' : Sm := (.asg (.tp [3, 4]) (.call "_law_curve" (.cons (.lend 1) (.cons (.var 2) .nil)) [] [(1, 0)]))
def s4' : Sm := (.par [5, 6] (.cons (.call "Curve" (.cons (.var 2) (.cons (.var 3) (.cons (.var 4) .nil))) [] []) (.cons (.op2 .Sub (.op2 .Add (.var 2) (.int 1)) (.call "_law_count" (.cons (.var 2) (.cons (.var 3) (.cons (.var 4) .nil))) [] [])) .nil)))
def s5' : Sm := (.asg (.nm 7) (.lst 0 .nil))
def lawB : Sm := (.seq s1' (.seq s2' (.seq s3' (.seq s4' (.seq s5' (.seq (.fors none (.nm 8) (.ival (.tup 0 (intsE ls4))) ownB) (.seq (.ifs t7 (.ret (.bl false)) .skip) (.seq (.ifs t8 (.ret (.bl false)) .skip) (.seq (.fors none (.nm 10) turnE bB) (.ret lastE))))))))))
theorem law_eq : d_law.body = lawB := rfl
theorem law_body {cfg : Cf} {ns : List Int} {p a b : Nat} {t c : Int} {d d1 d2 : D} (hp : p ∈ primesN) (ht : t * t < 4 * (p : Int)) (htc : (p : Int) + 1 - c = t)
    (h1 : cfg.call "_law_deck" [(.scr ns, 0)] = .ok (d, 2) [none]) (h2 : cfg.call "_law_prime" [(d, 2)] = .ok (.int (p : Int), 0) [some (d1, 2)]) (h3 : cfg.call "_law_curve" [(d1, 2), (.int (p : Int), 0)] = .ok (.tup [.int (a : Int), .int (b : Int)], 0) [some (d2, 2), none]) (hd : DeckOk d2)
    (h4 : cfg.call "Curve" [(.int (p : Int), 0), (.int (a : Int), 0), (.int (b : Int), 0)] = .ok (curveD p a b, 0) [none, none, none]) (h5 : cfg.call "_law_count" [(.int (p : Int), 0), (.int (a : Int), 0), (.int (b : Int), 0)] = .ok (.int c, 0) [none, none, none]) (hC : Calls cfg.call p a b t) :
    ∃ ρ, exec cfg d_law.body [some (.scr ns, 0), none, none, none, none, none, none, none, none, none, none, none, none, none, none] = .ok (.rt (.bl true, 0)) ρ := by
  have z0 : decide (0 ≤ sizeLine) = true := by decide
  have a1 : exec cfg s1' [some (.scr ns, 0), none, none, none, none, none, none, none, none, none, none, none, none, none, none] = .ok .nx [some (.scr ns, 0), some (d, 2), none, none, none, none, none, none, none, none, none, none, none, none, none] := by
    simp only [s1', exec, ev, evA, evT, evO, gt, st, bind_ok, of_some, valsA, Option.map_some, demL, List.map_cons, List.map_nil, resolveA, List.all_nil, List.all_cons, if_true, Bool.false_eq_true, if_false, selL0, backsTo, op2_add, op2_sub, op2_mul, op2_mod, op2_fdiv, op2_and, addD_i, subD_i, fr_i, fr_b, fr_t, fr_l, hasd_0, hasd_i, Bool.and_self, Bool.and_true, nofz_i, nofz_b, intB_i, lenB_l, lenB_t, listB_t, tupB_l, maxB_i, cmp_lt, cmp_gt, cmp_ge, cmp_le, cmp_eq, cmp_ne, truthD_b, Option.isNone_some, List.length_map, h1]
  have a2 : exec cfg s2' [some (.scr ns, 0), some (d, 2), none, none, none, none, none, none, none, none, none, none, none, none, none] = .ok .nx [some (.scr ns, 0), some (d1, 2), some (.int (p : Int), 0), none, none, none, none, none, none, none, none, none, none, none, none] := by
    simp only [s2', exec, ev, evA, evT, evO, gt, st, bind_ok, of_some, valsA, Option.map_some, demL, List.map_cons, List.map_nil, resolveA, List.all_nil, List.all_cons, if_true, Bool.false_eq_true, if_false, selL0, backsTo, op2_add, op2_sub, op2_mul, op2_mod, op2_fdiv, op2_and, addD_i, subD_i, fr_i, fr_b, fr_t, fr_l, hasd_0, hasd_i, Bool.and_self, Bool.and_true, nofz_i, nofz_b, intB_i, lenB_l, lenB_t, listB_t, tupB_l, maxB_i, cmp_lt, cmp_gt, cmp_ge, cmp_le, cmp_eq, cmp_ne, truthD_b, Option.isNone_some, List.length_map, Option.isSome_some, Option.isNone_none, List.getElem?_cons_zero, Option.getD_some, h2]
  have a3 : exec cfg s3' [some (.scr ns, 0), some (d1, 2), some (.int (p : Int), 0), none, none, none, none, none, none, none, none, none, none, none, none] = .ok .nx [some (.scr ns, 0), some (d2, 2), some (.int (p : Int), 0), some (.int (a : Int), 0), some (.int (b : Int), 0), none, none, none, none, none, none, none, none, none, none] := by
    simp only [s3', exec, ev, evA, evT, evO, gt, st, bind_ok, of_some, valsA, Option.map_some, demL, List.map_cons, List.map_nil, resolveA, List.all_nil, List.all_cons, if_true, Bool.false_eq_true, if_false, selL0, backsTo, op2_add, op2_sub, op2_mul, op2_mod, op2_fdiv, op2_and, addD_i, subD_i, fr_i, fr_b, fr_t, fr_l, hasd_0, hasd_i, Bool.and_self, Bool.and_true, nofz_i, nofz_b, intB_i, lenB_l, lenB_t, listB_t, tupB_l, maxB_i, cmp_lt, cmp_gt, cmp_ge, cmp_le, cmp_eq, cmp_ne, truthD_b, Option.isNone_some, List.length_map, Option.isSome_some, Option.isNone_none, List.getElem?_cons_zero, Option.getD_some, h3, setT, setT.go]
  have a4 : exec cfg s4' [some (.scr ns, 0), some (d2, 2), some (.int (p : Int), 0), some (.int (a : Int), 0), some (.int (b : Int), 0), none, none, none, none, none, none, none, none, none, none] = .ok .nx (en (some (.scr ns, 0)) (some (d2, 2)) p a b t none none none none none none none none) := by
    simp only [s4', en, exec, ev, evA, evT, evO, gt, st, bind_ok, of_some, valsA, Option.map_some, demL, List.map_cons, List.map_nil, resolveA, List.all_nil, List.all_cons, if_true, Bool.false_eq_true, if_false, selL0, backsTo, op2_add, op2_sub, op2_mul, op2_mod, op2_fdiv, op2_and, addD_i, subD_i, fr_i, fr_b, fr_t, fr_l, hasd_0, hasd_i, Bool.and_self, Bool.and_true, nofz_i, nofz_b, intB_i, lenB_l, lenB_t, listB_t, tupB_l, maxB_i, cmp_lt, cmp_gt, cmp_ge, cmp_le, cmp_eq, cmp_ne, truthD_b, Option.isNone_some, List.length_map, h4, h5, htc, setAll]
  have a5 : exec cfg s5' (en (some (.scr ns, 0)) (some (d2, 2)) p a b t none none none none none none none none) = .ok .nx (en (some (.scr ns, 0)) (some (d2, 2)) p a b t (some (.lst (([] : List (Int × Int)).map pairD), 1)) none none none none none none none) := by
    simp only [s5', en, exec, ev, evA, evT, evO, gt, st, bind_ok, of_some, valsA, Option.map_some, demL, List.map_cons, List.map_nil, resolveA, List.all_nil, List.all_cons, if_true, Bool.false_eq_true, if_false, selL0, backsTo, op2_add, op2_sub, op2_mul, op2_mod, op2_fdiv, op2_and, addD_i, subD_i, fr_i, fr_b, fr_t, fr_l, hasd_0, hasd_i, Bool.and_self, Bool.and_true, nofz_i, nofz_b, intB_i, lenB_l, lenB_t, listB_t, tupB_l, maxB_i, cmp_lt, cmp_gt, cmp_ge, cmp_le, cmp_eq, cmp_ne, truthD_b, Option.isNone_some, List.length_map, List.length_nil, z0]
  have hown : (∀ x ∈ ownL p t ls4, 0 < x.1) ∧ (ownL p t ls4).length ≤ 100 := by
    unfold ownL
    constructor
    · intro x hx
      obtain ⟨l, hl, rfl⟩ := List.mem_map.mp hx
      have hb : ∀ l ∈ ls4, 0 < l := by decide
      exact hb l (List.mem_filter.mp hl).1
    · rw [List.length_map]
      exact Nat.le_trans (List.length_filter_le _ _) (by decide)
  have hf := fit_uniq hp ht
  have hr := primesN_rng p hp
  have hts := sq_small (n := 28) (m := 800) (x := t) (by omega) (by decide)
  obtain ⟨ρ, a6, l', told', rfl⟩ := own_loop (sc := some (.scr ns, 0)) (dk := some (d2, 2)) (l0 := none) (told := none) (turn := none) (left := none) (pairs := none) (more := none) (due := none) hC
  have a7 := t7_ev (sc := some (.scr ns, 0)) (dk := some (d2, 2)) (l0 := l') (told := told') (turn := none) (left := none) (pairs := none) (more := none) (due := none) hC hown.1 hown.2 hf (by omega)
  have a8 := t8_ev (sc := some (.scr ns, 0)) (dk := some (d2, 2)) (l0 := l') (told := told') (turn := none) (left := none) (pairs := none) (more := none) (due := none) hC hown.1 hown.2 hf
  obtain ⟨ρ, a9, d3, l3, told3, turn3, left3, pairs3, more3, due3, rfl⟩ := b_loop (sc := some (.scr ns, 0)) (l0 := l') (told := told') (turn := none) (left := none) (pairs := none) (more := none) (due := none) (own := some (.lst ((ownL p t ls4).map pairD), 1)) hp hC hd
  have a10 := last_ev (sc := some (.scr ns, 0)) (dk := some (d3, 2)) (l0 := l3) (told := told3) (turn := turn3) (left := left3) (pairs := pairs3) (more := more3) (due := due3) (own := some (.lst ((ownL p t ls4).map pairD), 1)) hp hC
  rw [law_eq]
  exact ⟨_, (exec_seq a1).trans ((exec_seq a2).trans ((exec_seq a3).trans ((exec_seq a4).trans ((exec_seq a5).trans ((exec_seq a6).trans ((exec_seq ((exec_if_f a7).trans exec_skip)).trans ((exec_seq ((exec_if_f a8).trans exec_skip)).trans ((exec_seq a9).trans (exec_ret a10)))))))))⟩
theorem lk_law : defs.lookup ("law" : Str) = some d_law := by rfl
theorem law_run (ns : List Int) : ∃ outs, callN defs con 100000 20 "law" [(.scr ns, 0)] = .ok (.bl true, 0) outs := by
  obtain ⟨d, h1, hd⟩ := deck_F (fuel := 100000) (k := 18) ns
  obtain ⟨p, d1, h2, hp, hd1⟩ := lpr_F (fuel := 100000) (k := 16) hd
  obtain ⟨a, b, d2, h3, ha, hb, hfl, hd2⟩ := lcv_F (fuel := 100000) (k := 17) hp hd1
  have hr := primesN_rng p hp
  have h4 := curve_run (fuel := 100000) (k := 15) hp ⟨Int.natCast_nonneg a, by omega⟩ ⟨Int.natCast_nonneg b, by omega⟩ hfl
  have h5 := lcount_run (fuel := 100000) (k := 18) (p := p) (a := a) (b := b) (by omega) (by omega) (by omega)
  have htc : (p : Int) + 1 - cnF p a b = trF p a b := by rw [cn_pts, tr_pts hp]; omega
  have hC : Calls (callN defs con 100000 19) p a b (trF p a b) := {
    tr := fun l hl => trem_run (k := 16) (by omega) (by omega) (by omega) hl
    tf := fun ps m h hl => trf_run (k := 15) (by omega) h hl
    lf := fun ps m h hl => lfit_run (k := 17) (by omega) h hl
    lt := ltr_run (k := 18) (by omega)
    dr := fun d many hd h0 h1 => draw_F (k := 18) hd h0 h1 }
  have key : ∃ ρ, exec ⟨callN defs con 100000 19, con, 100000⟩ d_law.body [some (.scr ns, 0), none, none, none, none, none, none, none, none, none, none, none, none, none, none] = .ok (.rt (.bl true, 0)) ρ := by
    generalize callN defs con 100000 19 = call at *
    exact law_body (cfg := ⟨call, con, 100000⟩) hp (hasse hp ha hb) htc h1 h2 h3 hd2 h4 h5 hC
  obtain ⟨ρ, hb⟩ := key
  exact ⟨_, callN_ok (df := d_law) (args := [(.scr ns, 0)]) (ρ0 := [some (.scr ns, 0), none, none, none, none, none, none, none, none, none, none, none, none, none, none]) lk_law rfl rfl hb⟩
end Pi.K17
theorem Pi.K17.run_law : ∀ ns : List Int, ns.length ≤ 63 → ∃ outs, Pi.callN Pi.K17.defs Pi.K17.con 100000 20 "law" [(.scr ns, 0)] = .ok (.bl true, 0) outs := fun ns _ => Pi.K17.law_run ns
open PySem PySem.W PyProof.Rows in
set_option maxHeartbeats 0 in
theorem PySem.Challenge.cw_craterbeat_k17_traces_by_remainders_holds : PySem.Challenge.rw_craterbeat_k17_traces_by_remainders.Holds := by
  w_on; o_law; k_head; (case hw => w_witness2)
  k_fill
  refine Pi.walkL (l := PySem.Challenge.rw_craterbeat_k17_traces_by_remainders) (n := 63) (k := 20) (x := "script") (call := Pi.callN Pi.K17.defs Pi.K17.con 100000 20 "law") rfl (by decide) rfl ⟨rfl, by decide, by decide⟩ (fun w h Y => PySem.W.kIn_of Y) ?F ?R
  case F =>
    intro w mg fa h KX G hmg
    refine' Pi.K17.all_mk KX G hmg ?a0 ?l0 ?c0 ?k0 ?a1 ?l1 ?c1 ?k1 ?a2 ?l2 ?c2 ?k2 ?a3 ?l3 ?c3 ?k3 ?a4 ?l4 ?c4 ?k4 ?a5 ?l5 ?c5 ?k5 ?a6 ?l6 ?c6 ?k6 ?a7 ?l7 ?c7 ?k7 ?a8 ?l8 ?c8 ?k8 ?a9 ?l9 ?c9 ?k9 ?a10 ?l10 ?c10 ?k10 ?a11 ?l11 ?c11 ?k11 ?a12 ?l12 ?c12 ?k12 ?a13 ?l13 ?c13 ?k13 ?a14 ?l14 ?c14 ?k14 ?a15 ?l15 ?c15 ?k15 ?a16 ?l16 ?c16 ?k16 ?a17 ?l17 ?c17 ?k17 ?a18 ?l18 ?c18 ?k18 ?aC0 ?i00 ?i10 ?gl0 ?gc0 ?gk0 ?pg0 ?hd0 ?po0 ?sa0 ?mk0 ?kc0 ?na0_0 ?na0_1 ?na0_2 ?z0 ?z1 ?z2 ?z3 ?z4 ?z5 ?z6 ?z7 ?z8 ?z9 ?v0 ?v1
    (case a0 => k_is)
    (case l0 => k_is)
    (case c0 => k_is)
    (case k0 => k_is)
    (case a1 => k_is)
    (case l1 => k_is)
    (case c1 => k_is)
    (case k1 => k_is)
    (case a2 => k_is)
    (case l2 => k_is)
    (case c2 => k_is)
    (case k2 => k_is)
    (case a3 => k_is)
    (case l3 => k_is)
    (case c3 => k_is)
    (case k3 => k_is)
    (case a4 => k_is)
    (case l4 => k_is)
    (case c4 => k_is)
    (case k4 => k_is)
    (case a5 => k_is)
    (case l5 => k_is)
    (case c5 => k_is)
    (case k5 => k_is)
    (case a6 => k_is)
    (case l6 => k_is)
    (case c6 => k_is)
    (case k6 => k_is)
    (case a7 => k_is)
    (case l7 => k_is)
    (case c7 => k_is)
    (case k7 => k_is)
    (case a8 => k_is)
    (case l8 => k_is)
    (case c8 => k_is)
    (case k8 => k_is)
    (case a9 => k_is)
    (case l9 => k_is)
    (case c9 => k_is)
    (case k9 => k_is)
    (case a10 => k_is)
    (case l10 => k_is)
    (case c10 => k_is)
    (case k10 => k_is)
    (case a11 => k_is)
    (case l11 => k_is)
    (case c11 => k_is)
    (case k11 => k_is)
    (case a12 => k_is)
    (case l12 => k_is)
    (case c12 => k_is)
    (case k12 => k_is)
    (case a13 => k_is)
    (case l13 => k_is)
    (case c13 => k_is)
    (case k13 => k_is)
    (case a14 => k_is)
    (case l14 => k_is)
    (case c14 => k_is)
    (case k14 => k_is)
    (case a15 => k_is)
    (case l15 => k_is)
    (case c15 => k_is)
    (case k15 => k_is)
    (case a16 => k_is)
    (case l16 => k_is)
    (case c16 => k_is)
    (case k16 => k_is)
    (case a17 => k_is)
    (case l17 => k_is)
    (case c17 => k_is)
    (case k17 => k_is)
    (case a18 => k_is)
    (case l18 => k_is)
    (case c18 => k_is)
    (case k18 => k_is)
    (case aC0 => k_is)
    (case i00 => k_is)
    (case i10 => k_is)
    (case gl0 => k_is)
    (case gc0 => k_is)
    (case gk0 => k_is)
    (case pg0 => k_is)
    (case hd0 => k_is)
    (case po0 => k_is)
    (case sa0 => k_is)
    (case mk0 => k_is)
    (case kc0 => k_is)
    (case na0_0 => k_is)
    (case na0_1 => k_is)
    (case na0_2 => k_is)
    (case z0 => k_is)
    (case z1 => k_is)
    (case z2 => k_is)
    (case z3 => k_is)
    (case z4 => k_is)
    (case z5 => k_is)
    (case z6 => k_is)
    (case z7 => k_is)
    (case z8 => k_is)
    (case z9 => k_is)
    (case v0 => k_is)
    (case v1 => k_is)
  case R => exact Pi.K17.run_law
