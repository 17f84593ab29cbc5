import PyProof.Rows.All
import HandS.ForMost
import KE.LtData
import KE.DataEq
import KE.SortData
import KE.KDictKeyed
import KE.KDictLaw
import KE.DataFind
import KE.DataMinMax
import HandS.DeepEq
import HandS.ForExc
import HandS.TupAny
import HandS.Wide
import HandS.Text
import HandS.Deep
import HandS.Style
import HandS.IsInst
import HandS.RaiseMore
import PyProof.Rows.ReprR
import PyProof.StrOps2
import HandS.Conv
import PyProof.ListStr
import HandS.Comp
import HandS.HotCalls
import HandS.Hot
import KE.KRevSl
import HandS.Iter
import HandS.Rev
import KE.GoesMore
import PyProof.EnumMake
import HandS.ExcIs
import HandS.ExcOwn
import HandS.HeadHook1
import HandS.Ends
import HandS.HeadEnd
import HandS.Head2
import HandS.Words
import PySem.Challenge.RW_knockpurse_k32_rows_of_deeds
import PyProof.Rows.RegReprOcc
import PyProof.StrLawsOccR
section
set_option Elab.async false
set_option linter.all false
/-! EvDef: a small evaluator. Values D (tuples deep, lists, dicts and instances as cells of a heap), an IR, and what it computes. -/
namespace Ev
open PySem

/-- a value: tuples are deep, lists, dicts and instances are cells; fl: a list that is only read (the script) -/
inductive D where
  | non | bl (b : Bool) | int (i : Int) | str (s : Str) | tup (xs : List D) | fl (xs : List D) | ref (c : Nat) | glob (x : Str) | ty (n : String)
  deriving Inhabited
/-- what stands in a cell -/
inductive Cell where
  | lst (xs : List D) | dct (kvs : List (D × D)) | ins (c : Str) (fs : List (Str × D))
  deriving Inhabited
abbrev Hd := List Cell
abbrev Sl := List (Option D)
inductive R (α : Type) where
  | bad
  | ok (a : α) (h : Hd)
  | exc (c : Str) (fs : List (Str × D)) (h : Hd)
namespace R
variable {α β : Type}
def bind (r : R α) (f : α → Hd → R β) : R β := match r with
  | bad => bad
  | ok a h => f a h
  | exc c fs h => exc c fs h
/-- an answer that leaves the heap -/
def of (o : Option α) (h : Hd) : R α := match o with
  | some a => ok a h
  | none => bad
@[simp] theorem bind_ok (a : α) (h : Hd) (f : α → Hd → R β) : (ok a h).bind f = f a h := rfl
@[simp] theorem bind_bad (f : α → Hd → R β) : (bad : R α).bind f = bad := rfl
@[simp] theorem bind_exc (c : Str) (fs : List (Str × D)) (h : Hd) (f : α → Hd → R β) : (exc c fs h : R α).bind f = exc c fs h := rfl
@[simp] theorem of_some (a : α) (h : Hd) : of (some a) h = ok a h := rfl
@[simp] theorem of_none (h : Hd) : of (none : Option α) h = bad := rfl
end R
/-- how a statement ends -/
inductive RS where
  | bad
  | nx (σ : Sl) (h : Hd)
  | ret (d : D) (h : Hd)
  | exc (c : Str) (fs : List (Str × D)) (h : Hd)
def R.st {α : Type} (r : R α) (f : α → Hd → RS) : RS := match r with
  | .bad => .bad
  | .ok a h => f a h
  | .exc c fs h => .exc c fs h
@[simp] theorem R.st_ok {α : Type} (a : α) (h : Hd) (f : α → Hd → RS) : (R.ok a h).st f = f a h := rfl
@[simp] theorem R.st_bad {α : Type} (f : α → Hd → RS) : (R.bad : R α).st f = .bad := rfl
@[simp] theorem R.st_exc {α : Type} (c : Str) (fs : List (Str × D)) (h : Hd) (f : α → Hd → RS) : (R.exc c fs h : R α).st f = .exc c fs h := rfl

def LIM : Nat := 1048576
/-- built-in functions, by what they are given -/
inductive BI where
  | len | min2 | max2 | min1 | max1 | sum | any | all | sorted | sortedSet | lenSet | sortedLen | list | listValues | tuple | dict | int | str | isinst | repr
  deriving DecidableEq
/-- built-in methods -/
inductive BM where
  | append | extend | pop | popAt | insert | count | index | reverse | get | join | split | replace | replace1 | upper
  deriving DecidableEq
mutual
inductive E where
  | c (d : D) | v (i : Nat) | gl (x : Str)
  | bin (o : Operator) (a b : E) | neg (a : E) | nt (a : E)
  | bool (o : BoolOp) (xs : List E)
  | cmp (a : E) (os : List CmpOp) (bs : List E)
  | ife (t : B) (a b : E)
  | tup (xs : List E) | lst (xs : List E) | dct (kvs : List (D × D))
  | call (x : Str) (xs : List E)
  | callv (f : E) (xs : List E)
  | bi (b : BI) (xs : List E)
  | bm (m : BM) (o : E) (xs : List E)
  | meth (o : E) (m : Str) (xs : List E)
  | att (o : E) (m : Str)
  | ix (o i : E) | sl (o : E) (lo hi : Option E) | rev (o : E)
  | lc (elt : E) (tg : T) (it : IE) (ifs : Option B) (own : List Nat)
  | isE (t : E) | attE (m : Str)
/-- a test -/
inductive B where
  | val (e : E) | nt (a : B) | bool (o : BoolOp) (xs : List B) | ife (t a b : B) | cmp (a : E) (os : List CmpOp) (bs : List E)
/-- a target -/
inductive T where
  | nm (i : Nat) | tup (ts : List T) | att (o : E) (m : Str) | ix (o i : E)
/-- what is walked -/
inductive IE where
  | val (e : E) | enm (e : E) | zip (a b : E) | rng1 (a : E) | rng2 (a b : E) | rng3 (a b c : E) | rvd (e : E)
end
inductive S where
  | asg (t : T) (e : E) | exp (e : E) | ife (t : B) (a b : List S) | for (t : T) (it : IE) (body : List S) | whl (t : B) (body : List S) | ret (e : Option E)
  | raise (c : Str) (args : List E) | tryRet (e : E) (cls : Str) (i : Nat) (g : Str) | pass
structure Fn where
  np : Nat
  ns : Nat
  body : List S
/-- the program: its defs by class and name, its constants, its dicts of texts, its classes of errors with their fields (all under ValueError) and their bases -/
structure Prog where
  fn : Str → Str → Option Fn
  con : Str → Option D
  gl : Str → Bool
  hot : Str → Bool
  mdict : Str → Option (List (Str × D))
  cls : Str → Bool
  fld : Str → Str → Bool
  exc : Str → Option (List Str)
  sub : Str → Str → Bool

/-! ### data -/
def toP (h : Hd) : Nat → D → Option PyData
  | 0, _ => none
  | n + 1, d => match d with
    | .non => some .none
    | .bl b => some (.bool b)
    | .int i => some (.int i)
    | .str s => some (.str s)
    | .tup ds => (ds.mapM (toP h n)).map .tuple
    | .fl ds => (ds.mapM (toP h n)).map .list
    | .ref c => match h[c]? with
      | some (.lst ds) => (ds.mapM (toP h n)).map .list
      | _ => none
    | _ => none
def DEPTH : Nat := 12
def evEq (h : Hd) (a b : D) : Option Bool := (toP h DEPTH a).bind fun x => (toP h DEPTH b).map fun y => PyData.eqv x y
/-- what repr may show -/
def fits (x : PyData) : Bool := x.showable && decide ((PyData.shown x).length ≤ sizeLine)
def evRepr (h : Hd) (a : D) : Option D := (toP h DEPTH a).bind fun x => if fits x then some (.str (PyData.shown x)) else none
/-- a < b: ints, or data that are alike -/
def evLt (h : Hd) (a b : D) : Option Bool := match a, b with
  | .int i, .int j => some (decide (i < j))
  | _, _ => none

/-! ### lists and places -/
def items (h : Hd) : D → Option (List D)
  | .tup xs => some xs
  | .fl xs => some xs
  | .ref c => match h[c]? with
    | some (.lst xs) => some xs
    | _ => none
  | _ => none
/-- a list's items -/
def lstOf (h : Hd) : D → Option (List D)
  | .ref c => match h[c]? with
    | some (.lst xs) => some xs
    | _ => none
  | _ => none
def cut {α : Type} (xs : List α) (lo hi : Option Int) : List α := (xs.drop (HT.sIx xs.length 0 lo)).take (HT.sIx xs.length xs.length hi - HT.sIx xs.length 0 lo)
def new (c : Cell) (h : Hd) : R D := .ok (.ref h.length) (h ++ [c])
/-- keys that are one by Python's == -/
def keyEq : D → D → Bool := fun a b => ((evEq [] a b).getD false)
def dGet (k : D) : List (D × D) → Option D
  | [] => none
  | (a, v) :: r => if keyEq a k then some v else dGet k r
def dPut (k v : D) : List (D × D) → List (D × D)
  | [] => [(k, v)]
  | (a, w) :: r => if keyEq a k then (a, v) :: r else (a, w) :: dPut k v r
/-- may be a key: numbers, truths, texts, tuples of such -/
def keyOk : Nat → D → Bool
  | 0, _ => false
  | _ + 1, .int _ => true
  | _ + 1, .bl _ => true
  | _ + 1, .str _ => true
  | _ + 1, .non => true
  | n + 1, .tup xs => xs.all (keyOk n)
  | _ + 1, _ => false
def KDEPTH : Nat := 6

/-! ### operations -/
def evBin (o : Operator) (a b : D) (h : Hd) : R D := match o, a, b with
  | .Add, .int i, .int j => .ok (.int (i + j)) h
  | .Add, .str x, .str y => if x.length + y.length ≤ LIM then .ok (.str (x ++ y)) h else .bad
  | .Add, .tup xs, .tup ys => if xs.length + ys.length ≤ LIM then .ok (.tup (xs ++ ys)) h else .bad
  | .Add, .ref c, .ref e => match h[c]?, h[e]? with
    | some (.lst xs), some (.lst ys) => if xs.length + ys.length ≤ LIM then new (.lst (xs ++ ys)) h else .bad
    | _, _ => .bad
  | .Sub, .int i, .int j => .ok (.int (i - j)) h
  | .Mult, .int i, .int j => if (-18446744073709551616 < i ∧ i < 18446744073709551616) ∨ (-18446744073709551616 < j ∧ j < 18446744073709551616) then .ok (.int (i * j)) h else .bad
  | .Mult, .str x, .int k => if 0 ≤ k ∧ k ≤ LIM ∧ x.length * k.toNat ≤ LIM then .ok (.str ⟨(List.replicate k.toNat x.cps.toList).flatten.toArray⟩) h else .bad
  | .Mult, .ref c, .int k => match h[c]? with
    | some (.lst xs) => if 0 ≤ k ∧ k ≤ LIM ∧ xs.length * k.toNat ≤ LIM then new (.lst (List.replicate k.toNat xs).flatten) h else .bad
    | _ => .bad
  | .FloorDiv, .int i, .int j => if 0 < j ∧ j < 340282366920938463463374607431768211456 then .ok (.int (i / j)) h else .bad
  | .Mod, .int i, .int j => if 0 < j then .ok (.int (i % j)) h else .bad
  | .Pow, .int i, .int j => if 0 ≤ j ∧ j ≤ 1000000 ∧ i.natAbs < 18446744073709551616 then .ok (.int (i ^ j.toNat)) h else .bad
  | .LShift, .int i, .int j => if 0 ≤ j ∧ j ≤ 1000000 ∧ i.natAbs < 18446744073709551616 then .ok (.int (i * 2 ^ j.toNat)) h else .bad
  | .RShift, .int i, .int j => if 0 ≤ j then .ok (.int (i / 2 ^ j.toNat)) h else .bad
  | .BitAnd, .int i, .int j => .ok (.int (Builtin.bitAnd i j)) h
  | _, _, _ => .bad
def truth : D → Option Bool
  | .bl b => some b
  | .str s => if s.length ≤ sizeLine then some (s.length != 0) else none
  | _ => none
/-- x in c -/
def evIn (P : Prog) (h : Hd) (x : D) : D → Option Bool
  | .str z => match x with
    | .str y => some (!(Builtin.Str.occurrences z y 0 z.length 1).isEmpty)
    | _ => none
  | .tup ys => (toP h DEPTH x).bind fun p => (ys.mapM (toP h DEPTH)).map fun qs => qs.any fun q => PyData.eqv q p
  | .ref c => match h[c]? with
    | some (.lst ys) => (toP h DEPTH x).bind fun p => (ys.mapM (toP h DEPTH)).map fun qs => qs.any fun q => PyData.eqv q p
    | _ => none
  | .glob m => match P.mdict m, x with
    | some kvs, .str y => some (kvs.lookup y).isSome
    | _, _ => none
  | _ => none
def evCmp (P : Prog) (h : Hd) (o : CmpOp) (a b : D) : Option Bool := match o with
  | .Eq => evEq h a b
  | .NotEq => (evEq h a b).map (!·)
  | .Lt => evLt h a b
  | .LtE => match a, b with
    | .int i, .int j => some (decide (i ≤ j))
    | _, _ => none
  | .Gt => match a, b with
    | .int i, .int j => some (decide (j < i))
    | _, _ => none
  | .GtE => match a, b with
    | .int i, .int j => some (decide (j ≤ i))
    | _, _ => none
  | .Is => match a, b with
    | .non, .non => some true
    | _, .non => some false
    | .bl x, .bl y => some (x == y)
    | _, _ => none
  | .IsNot => match a, b with
    | .non, .non => some false
    | _, .non => some true
    | .bl x, .bl y => some (!(x == y))
    | _, _ => none
  | .In => evIn P h a b
  | .NotIn => (evIn P h a b).map (!·)
/-- isinstance(d, T), T one class -/
def isOne (P : Prog) (h : Hd) (d t : D) : Option Bool := match d, t with
  | .non, .ty n => if n = "int" ∨ n = "bool" ∨ n = "str" ∨ n = "tuple" ∨ n = "list" then some false else none
  | .bl _, .ty n => if n = "int" ∨ n = "bool" then some true else if n = "str" ∨ n = "tuple" ∨ n = "list" then some false else none
  | .int _, .ty n => if n = "int" then some true else if n = "bool" ∨ n = "str" ∨ n = "tuple" ∨ n = "list" then some false else none
  | .str _, .ty n => if n = "str" then some true else if n = "int" ∨ n = "bool" ∨ n = "tuple" ∨ n = "list" then some false else none
  | .tup _, .ty n => if n = "tuple" then some true else if n = "int" ∨ n = "bool" ∨ n = "str" ∨ n = "list" then some false else none
  | .ref c, .ty n => match h[c]? with
    | some (.lst _) => if n = "list" then some true else if n = "int" ∨ n = "bool" ∨ n = "str" ∨ n = "tuple" then some false else none
    | some (.dct _) => if n = "int" ∨ n = "bool" ∨ n = "str" ∨ n = "tuple" ∨ n = "list" then some false else none
    | _ => none
  | _, _ => none
/-- isinstance(e, T), e an exception of an own class -/
def isExc1 (P : Prog) (c : Str) : D → Option Bool
  | .glob k => if (P.exc k).isSome then some (P.sub c k) else none
  | .ty n => if n = "ValueError" then some true else if n = "LookupError" ∨ n = "TypeError" ∨ n = "ArithmeticError" ∨ n = "RuntimeError" then some false else none
  | _ => none
def isExcs (P : Prog) (c : Str) : List D → Option Bool
  | [] => some false
  | t :: r => match isExc1 P c t with
    | some true => some true
    | some false => isExcs P c r
    | none => none
def isExc (P : Prog) (c : Str) : D → Option Bool
  | .tup ts => isExcs P c ts
  | t => isExc1 P c t
def evIs (P : Prog) (h : Hd) (d t : D) : Option Bool := match t with
  | t => isOne P h d t
def dInts : List D → Option (List Int)
  | [] => some []
  | .int i :: r => (dInts r).map (i :: ·)
  | _ => none
def dBools : List D → Option (List Bool)
  | [] => some []
  | .bl b :: r => (dBools r).map (b :: ·)
  | _ => none
def dTexts : List D → Option (List Str)
  | [] => some []
  | .str b :: r => (dTexts r).map (b :: ·)
  | _ => none
def evBI (P : Prog) (b : BI) (xs : List D) (h : Hd) : R D := match b, xs with
  | .len, [d] => match d with
    | .str s => if s.length ≤ sizeLine then .ok (.int s.length) h else .bad
    | d => .of ((items h d).map fun ys => .int ys.length) h
  | .min2, [.int i, .int j] => .ok (.int (if j < i then j else i)) h
  | .max2, [.int i, .int j] => .ok (.int (if j > i then j else i)) h
  | .sum, [d] => .of ((lstOf h d).bind fun ys => (dInts ys).map fun ns => .int ns.sum) h
  | .any, [d] => .of ((lstOf h d).bind fun ys => (dBools ys).map fun bs => .bl (bs.any id)) h
  | .all, [d] => .of ((lstOf h d).bind fun ys => (dBools ys).map fun bs => .bl (bs.all id)) h
  | .list, [d] => match d with
    | .str s => if s.length ≤ LIM then new (.lst (s.cps.toList.map fun c => .str ⟨#[c]⟩)) h else .bad
    | .ref c => match h[c]? with
      | some (.lst ys) => new (.lst ys) h
      | _ => .bad
    | .tup ys => new (.lst ys) h
    | _ => .bad
  | .tuple, [d] => .of ((items h d).map .tup) h
  | .int, [.bl b] => .ok (.int (if b then 1 else 0)) h
  | .int, [.int i] => .ok (.int i) h
  | .int, [.str s] => if s.length ≤ 640 then .of ((PySem.intText? s).map .int) h else .bad
  | .str, [.int i] => if i.natAbs.log2 < 1920 then .ok (.str (toString i)) h else .bad
  | .str, [.str s] => .ok (.str s) h
  | .isinst, [d, t] => .of ((evIs P h d t).map .bl) h
  | .repr, [d] => .of (evRepr h d) h
  | _, _ => .bad
def evBM (m : BM) (o : D) (xs : List D) (h : Hd) : R D := match m, o, xs with
  | .append, .ref c, [d] => match h[c]? with
    | some (.lst ys) => if ys.length < LIM then .ok .non (h.set c (.lst (ys ++ [d]))) else .bad
    | _ => .bad
  | .extend, .ref c, [.ref e] => match h[c]?, h[e]? with
    | some (.lst ys), some (.lst zs) => if ys.length + zs.length ≤ LIM then .ok .non (h.set c (.lst (ys ++ zs))) else .bad
    | _, _ => .bad
  | .pop, .ref c, [] => match h[c]? with
    | some (.lst ys) => match ys[ys.length - 1]? with
      | some y => .ok y (h.set c (.lst ys.dropLast))
      | none => .bad
    | _ => .bad
  | .popAt, .ref c, [.int i] => match h[c]? with
    | some (.lst ys) => if 0 ≤ i ∧ i < 9223372036854775808 then match ys[i.toNat]? with
        | some y => .ok y (h.set c (.lst (ys.eraseIdx i.toNat)))
        | none => .bad
      else .bad
    | _ => .bad
  | .insert, .ref c, [.int i, d] => match h[c]? with
    | some (.lst ys) => if 0 ≤ i ∧ i < 9223372036854775808 ∧ ys.length < LIM then .ok .non (h.set c (.lst (ys.take i.toNat ++ d :: ys.drop i.toNat))) else .bad
    | _ => .bad
  | .count, .str a, [.str b] => .ok (.int (Txt.count a b)) h
  | .count, .ref c, [d] => match h[c]? with
    | some (.lst ys) => .of ((toP h DEPTH d).bind fun p => (ys.mapM (toP h DEPTH)).map fun qs => .int (qs.countP fun q => PyData.eqv q p)) h
    | _ => .bad
  | .index, .ref c, [d] => match h[c]? with
    | some (.lst ys) => .of ((toP h DEPTH d).bind fun p => (ys.mapM (toP h DEPTH)).bind fun qs => if SeqAt.shaped p ∧ SeqAt.shaped (.list qs) then (qs.findIdx? fun q => PyData.eqv q p).map fun (j : Nat) => .int j else none) h
    | _ => .bad
  | .reverse, .ref c, [] => match h[c]? with
    | some (.lst ys) => .ok .non (h.set c (.lst ys.reverse))
    | _ => .bad
  | .join, .str a, [d] => .of ((items h d).bind fun ys => (dTexts ys).bind fun ts => if (ts.map (·.length)).sum + ts.length * a.length ≤ LIM then some (.str (Txt.join a ts)) else none) h
  | .split, .str a, [.str b] => if (b.length == 0) = false ∧ a.length ≤ LIM then new (.lst ((Txt.split a b).map .str)) h else .bad
  | .upper, .str a, [] => if a.length ≤ LIM then .ok (.str (Txt.upper a)) h else .bad
  | _, _, _ => .bad
/-- a method's name -/
def bmName : BM → Str
  | .append => "append" | .extend => "extend" | .pop => "pop" | .popAt => "pop" | .insert => "insert" | .count => "count" | .index => "index" | .reverse => "reverse" | .get => "get"
  | .join => "join" | .split => "split" | .replace => "replace" | .replace1 => "replace" | .upper => "upper"
/-- the receiver has it -/
def rcv (m : BM) (x : D) (h : Hd) : Bool := match m, x with
  | .count, .str _ | .join, .str _ | .split, .str _ | .upper, .str _ => true
  | .append, .ref c | .extend, .ref c | .pop, .ref c | .popAt, .ref c | .insert, .ref c | .count, .ref c | .index, .ref c | .reverse, .ref c => match h[c]? with
    | some (.lst _) => true
    | _ => false
  | _, _ => false
/-- the model's method -/
def bmId (m : BM) (x : D) : String × String := match m, x with
  | .count, .str _ => ("str", "str.count") | .join, _ => ("str", "str.join") | .split, _ => ("str", "str.split") | .upper, _ => ("str", "str.upper")
  | .append, _ => ("list", "list.append") | .extend, _ => ("list", "list.extend") | .pop, _ => ("list", "list.pop") | .popAt, _ => ("list", "list.pop") | .insert, _ => ("list", "list.insert")
  | .count, _ => ("list", "list.count") | .index, _ => ("list", "list.index") | .reverse, _ => ("list", "list.reverse") | _, _ => ("", "")
def evIx (P : Prog) (o i : D) (h : Hd) : Option D := match o, i with
  | .str z, .int i => if z.length ≤ sizeLine then (L2.atI z.cps.toList i).map fun c => .str ⟨#[c]⟩ else none
  | .glob m, .str y => (P.mdict m).bind fun kvs => kvs.lookup y
  | .ref c, k => match h[c]? with
    | some (.lst xs) => match k with
      | .int i => L2.atI xs i
      | _ => none
    | _ => none
  | .tup xs, .int i => L2.atI xs i
  | .fl xs, .int i => L2.atI xs i
  | _, _ => none
def part : Option D → Option (Option Int)
  | none => some none
  | some (.int i) => some (some i)
  | _ => none
def evSl (o : D) (lo hi : Option Int) (h : Hd) : R D := match o with
  | .str z => if z.length ≤ sizeLine then .ok (.str ⟨(cut z.cps.toList lo hi).toArray⟩) h else .bad
  | .tup xs => .ok (.tup (cut xs lo hi)) h
  | .fl xs => new (.lst (cut xs lo hi)) h
  | .ref c => match h[c]? with
    | some (.lst xs) => new (.lst (cut xs lo hi)) h
    | _ => .bad
  | _ => .bad
def evRev (o : D) (h : Hd) : R D := match o with
  | .str z => if z.length ≤ sizeLine then .ok (.str ⟨z.cps.toList.reverse.toArray⟩) h else .bad
  | .ref c => match h[c]? with
    | some (.lst xs) => new (.lst xs.reverse) h
    | _ => .bad
  | _ => .bad
def putF (m : Str) (d : D) : List (Str × D) → List (Str × D)
  | [] => [(m, d)]
  | (k, w) :: r => if k = m then (k, d) :: r else (k, w) :: putF m d r
def evAtt (P : Prog) (o : D) (m : Str) (h : Hd) : Option D := match o with
  | .ref c => match h[c]? with
    | some (.ins k fs) => if P.fld k m then fs.lookup m else none
    | _ => none
  | _ => none
def setAtt (P : Prog) (o : D) (m : Str) (d : D) (h : Hd) : Option Hd := match o with
  | .ref c => match h[c]? with
    | some (.ins k fs) => if fs.length < 100 ∧ P.fld k m then some (h.set c (.ins k (putF m d fs))) else none
    | _ => none
  | _ => none
def setIx (o i d : D) (h : Hd) : Option Hd := match o with
  | .ref c => match h[c]? with
    | some (.lst xs) => match i with
      | .int i => (L2.ixN xs.length i).map fun j => h.set c (.lst (xs.set j d))
      | _ => none
    | _ => none
  | _ => none

/-! ### what is walked -/
inductive It where
  | fix (xs : List D) | lst (c : Nat) | rng (lo st : Int) (n : Nat) | enm (it : It) | zip (a b : It)
def It.next (h : Hd) : It → Nat → Option (Option D)
  | .fix xs, i => some xs[i]?
  | .lst c, i => match h[c]? with
    | some (.lst xs) => some xs[i]?
    | _ => none
  | .rng lo st n, i => some (if i < n then some (.int (lo + st * i)) else none)
  | .enm it, i => (it.next h i).map fun o => o.map fun d => .tup [.int i, d]
  | .zip a b, i => (a.next h i).bind fun o => match o with
    | none => some none
    | some x => (b.next h i).map fun p => p.map fun y => .tup [x, y]
def itOf (d : D) (h : Hd) : Option It := match d with
  | .tup xs => some (.fix xs)
  | .str s => some (.fix (s.cps.toList.map fun c => .str ⟨#[c]⟩))
  | .ref c => match h[c]? with
    | some (.lst _) => some (.lst c)
    | _ => none
  | _ => none
/-- what enumerate takes -/
def enmIt (d : D) (h : Hd) : Option It := match d with
  | .str s => some (.fix (s.cps.toList.map fun c => .str ⟨#[c]⟩))
  | .ref c => match h[c]? with
    | some (.lst _) => some (.lst c)
    | _ => none
  | _ => none
/-- what zip takes -/
def zipIt (d : D) (h : Hd) : Option It := match d with
  | .ref c => match h[c]? with
    | some (.lst _) => some (.lst c)
    | _ => none
  | _ => none
def smallI (i : Int) : Bool := decide (-1099511627776 ≤ i ∧ i < 1099511627776)
def rngUp (lo hi : Int) : Option It := if smallI lo ∧ smallI hi then some (.rng lo 1 (hi - lo).toNat) else none
def rngDn (lo hi : Int) : Option It := if smallI lo ∧ smallI hi then some (.rng lo (-1) (lo - hi).toNat) else none
def wipe (σ : Sl) : List Nat → Sl
  | [] => σ
  | v :: vs => (wipe σ vs).set v none

/-- the turns of a for, of a comprehension -/
def forLoop (tgt : D → Sl → Hd → R Sl) (body : Sl → Hd → RS) (it : It) : Nat → Nat → Sl → Hd → RS
  | 0, _, _, _ => .bad
  | f + 1, i, σ, h => match it.next h i with
    | none => .bad
    | some none => .nx σ h
    | some (some d) => (tgt d σ h).st fun σ1 h1 => match body σ1 h1 with
      | .nx σ2 h2 => forLoop tgt body it f (i + 1) σ2 h2
      | r => r
def lcLoop (tgt : D → Sl → Hd → R Sl) (test : Sl → Hd → R Bool) (elt : Sl → Hd → R D) (own : List Nat) (it : It) (σ : Sl) : Nat → Nat → List D → Hd → R (List D)
  | 0, _, _, _ => .bad
  | f + 1, i, acc, h => match it.next h i with
    | none => .bad
    | some none => .ok acc h
    | some (some d) => match tgt d (wipe σ own) h with
      | .ok σ1 h1 => match test σ1 h1 with
        | .ok true h2 => match elt σ1 h2 with
          | .ok y h3 => if acc.length < LIM then lcLoop tgt test elt own it σ f (i + 1) (acc ++ [y]) h3 else .bad
          | _ => .bad
        | .ok false h2 => lcLoop tgt test elt own it σ f (i + 1) acc h2
        | _ => .bad
      | _ => .bad
def whileLoop (test : Sl → Hd → R Bool) (body : Sl → Hd → RS) : Nat → Sl → Hd → RS
  | 0, _, _ => .bad
  | f + 1, σ, h => (test σ h).st fun b h1 => if b then match body σ h1 with
      | .nx σ2 h2 => whileLoop test body f σ2 h2
      | r => r
    else .nx σ h1

/-- what stands around: the program, its calls (class, name, arguments), the calls of a def with an exception, the loops' fuel; the exception that stands in slot 0 of this def -/
structure Cx where
  P : Prog
  call : Str → Str → List D → Hd → R D
  make : Str → List D → Hd → R D
  callE : Str → Str → List (Str × D) → Hd → R D
  fuel : Nat
  ex : Option (Str × List (Str × D))
/-- keys and values by turns -/
def paired : List D → Option (List (D × D))
  | [] => some []
  | k :: v :: r => (paired r).map ((k, v) :: ·)
  | _ => none
def bop : BoolOp → Bool
  | .And => true
  | .Or => false
def glob (P : Prog) (x : Str) : D := (P.con x).getD (.glob x)
mutual
def evE (C : Cx) : E → Sl → Hd → R D
  | .c d, _, h => .ok d h
  | .v i, σ, h => match σ[i]? with
    | some (some d) => .ok d h
    | _ => .bad
  | .gl x, _, h => .ok (glob C.P x) h
  | .bin o a b, σ, h => (evE C a σ h).bind fun x h1 => (evE C b σ h1).bind fun y h2 => evBin o x y h2
  | .neg a, σ, h => (evE C a σ h).bind fun x h1 => match x with
    | .int i => .ok (.int (-i)) h1
    | _ => .bad
  | .nt a, σ, h => (evE C a σ h).bind fun x h1 => .of ((truth x).map fun b => .bl (!b)) h1
  | .bool o xs, σ, h => evBool C o xs σ h
  | .cmp a os bs, σ, h => (evE C a σ h).bind fun x h1 => evChain C x os bs σ h1
  | .ife t a b, σ, h => (evT C t σ h).bind fun k h1 => if k then evE C a σ h1 else evE C b σ h1
  | .tup xs, σ, h => (evEs C xs σ h).bind fun ds h1 => if ds.length ≤ 1000 then .ok (.tup ds) h1 else .bad
  | .lst xs, σ, h => (evEs C xs σ h).bind fun ds h1 => if ds.length ≤ 1000 then new (.lst ds) h1 else .bad
  | .dct kvs, _, h => new (.dct kvs) h
  | .call x xs, σ, h => (evEs C xs σ h).bind fun ds h1 => if C.P.cls x then C.make x ds h1 else C.call "" x ds h1
  | .callv f xs, σ, h => (evE C f σ h).bind fun g h1 => match g with
    | .glob x => if (C.P.fn "" x).isSome && !C.P.hot x then (evEs C xs σ h1).bind fun ds h2 => C.call "" x ds h2 else .bad
    | _ => .bad
  | .bi b xs, σ, h => (evEs C xs σ h).bind fun ds h1 => evBI C.P b ds h1
  | .bm m o xs, σ, h => (evE C o σ h).bind fun x h1 => if rcv m x h1 then (evEs C xs σ h1).bind fun ds h2 => evBM m x ds h2 else .bad
  | .meth o m xs, σ, h => (evE C o σ h).bind fun x h1 => match x with
    | .ref c => match h1[c]? with
      | some (.ins k fs) => if (fs.lookup m).isNone then (evEs C xs σ h1).bind fun ds h2 => C.call k m (.ref c :: ds) h2 else .bad
      | _ => .bad
    | _ => .bad
  | .att o m, σ, h => (evE C o σ h).bind fun x h1 => .of (evAtt C.P x m h1) h1
  | .ix o i, σ, h => (evE C o σ h).bind fun x h1 => (evE C i σ h1).bind fun y h2 => .of (evIx C.P x y h2) h2
  | .sl o lo hi, σ, h => (evE C o σ h).bind fun x h1 => (evO C lo σ h1).bind fun l h2 => (evO C hi σ h2).bind fun u h3 => evSl x l u h3
  | .rev o, σ, h => (evE C o σ h).bind fun x h1 => evRev x h1
  | .isE t, σ, h => match C.ex with
    | some (c, []) => (evE C t σ h).bind fun d h1 => .of ((isExc C.P c d).map .bl) h1
    | _ => .bad
  | .attE _, _, _ => .bad
  | .lc elt tg it ifs own, σ, h => (evIt C it σ h).bind fun J h1 =>
    (lcLoop (evTg C tg) (evIfs C ifs) (evE C elt) own J σ C.fuel 0 [] h1).bind fun ys h2 => new (.lst ys) h2
def evEs (C : Cx) : List E → Sl → Hd → R (List D)
  | [], _, h => .ok [] h
  | e :: es, σ, h => (evE C e σ h).bind fun d h1 => (evEs C es σ h1).bind fun ds h2 => .ok (d :: ds) h2
def evO (C : Cx) : Option E → Sl → Hd → R (Option Int)
  | none, _, h => .ok none h
  | some e, σ, h => (evE C e σ h).bind fun d h1 => match d with
    | .int i => .ok (some i) h1
    | _ => .bad
/-- and, or, by value -/
def evBool (C : Cx) (o : BoolOp) : List E → Sl → Hd → R D
  | [], _, _ => .bad
  | e :: es, σ, h => (evE C e σ h).bind fun x h1 => if es.isEmpty then .ok x h1 else match truth x with
    | some b => if b == bop o then evBool C o es σ h1 else .ok x h1
    | none => .bad
def evChain (C : Cx) (x : D) (os : List CmpOp) : List E → Sl → Hd → R D
  | [], _, _ => .bad
  | e :: es, σ, h => (evE C e σ h).bind fun y h1 => match os with
    | [] => .bad
    | o :: os => match evCmp C.P h1 o x y with
      | some true => if es.isEmpty then (if os.isEmpty then .ok (.bl true) h1 else .bad) else evChain C y os es σ h1
      | some false => .ok (.bl false) h1
      | none => .bad
/-- as a test -/
def evT (C : Cx) : B → Sl → Hd → R Bool
  | .val e, σ, h => (evE C e σ h).bind fun x h1 => .of (truth x) h1
  | .nt a, σ, h => (evT C a σ h).bind fun b h1 => .ok (!b) h1
  | .bool o xs, σ, h => evTs C o xs σ h
  | .ife t a b, σ, h => (evT C t σ h).bind fun k h1 => if k then evT C a σ h1 else evT C b σ h1
  | .cmp a os bs, σ, h => (evE C a σ h).bind fun x h1 => (evChain C x os bs σ h1).bind fun y h2 => .of (truth y) h2
def evTs (C : Cx) (o : BoolOp) : List B → Sl → Hd → R Bool
  | [], _, h => .ok (bop o) h
  | e :: es, σ, h => (evT C e σ h).bind fun b h1 => if b == bop o then evTs C o es σ h1 else .ok b h1
def evIfs (C : Cx) : Option B → Sl → Hd → R Bool
  | none, _, h => .ok true h
  | some e, σ, h => evT C e σ h
def evTg (C : Cx) : T → D → Sl → Hd → R Sl
  | .nm i, d, σ, h => if C.ex.isSome && i == 0 then .bad else .ok (σ.set i (some d)) h
  | .tup ts, d, σ, h => match d with
    | .tup ds => if ts.length = ds.length then evTgs C ts ds σ h else .bad
    | _ => .bad
  | .att o m, d, σ, h => (evE C o σ h).bind fun x h1 => match setAtt C.P x m d h1 with
    | some h2 => .ok σ h2
    | none => .bad
  | .ix o i, d, σ, h => (evE C o σ h).bind fun x h1 => (evE C i σ h1).bind fun y h2 => match setIx x y d h2 with
    | some h3 => .ok σ h3
    | none => .bad
def evTgs (C : Cx) : List T → List D → Sl → Hd → R Sl
  | [], [], σ, h => .ok σ h
  | t :: ts, d :: ds, σ, h => (evTg C t d σ h).bind fun σ1 h1 => evTgs C ts ds σ1 h1
  | _, _, _, _ => .bad
def evIt (C : Cx) : IE → Sl → Hd → R It
  | .val e, σ, h => (evE C e σ h).bind fun d h1 => .of (itOf d h1) h1
  | .enm e, σ, h => (evE C e σ h).bind fun d h1 => .of ((enmIt d h1).map .enm) h1
  | .zip a b, σ, h => (evE C a σ h).bind fun x h1 => (evE C b σ h1).bind fun y h2 => .of ((zipIt x h2).bind fun i => (zipIt y h2).map fun j => .zip i j) h2
  | .rng1 a, σ, h => (evE C a σ h).bind fun x h1 => match x with
    | .int i => .of (rngUp 0 i) h1
    | _ => .bad
  | .rng2 a b, σ, h => (evE C a σ h).bind fun x h1 => (evE C b σ h1).bind fun y h2 => match x, y with
    | .int i, .int j => .of (rngUp i j) h2
    | _, _ => .bad
  | .rng3 a b c, σ, h => (evE C a σ h).bind fun x h1 => (evE C b σ h1).bind fun y h2 => (evE C c σ h2).bind fun z h3 => match x, y, z with
    | .int i, .int j, .int k => if k = -1 then .of (rngDn i j) h3 else .bad
    | _, _, _ => .bad
  | .rvd e, σ, h => (evE C e σ h).bind fun d h1 => match d with
    | .tup xs => .ok (.fix xs.reverse) h1
    | _ => .bad
end
mutual
def evS (C : Cx) : S → Sl → Hd → RS
  | .asg t e, σ, h => (evE C e σ h).st fun d h1 => (evTg C t d σ h1).st fun σ1 h2 => .nx σ1 h2
  | .exp e, σ, h => (evE C e σ h).st fun _ h1 => .nx σ h1
  | .ife t a b, σ, h => (evT C t σ h).st fun k h1 => if k then evSs C a σ h1 else evSs C b σ h1
  | .for t it body, σ, h => (evIt C it σ h).st fun J h1 => forLoop (evTg C t) (evSs C body) J C.fuel 0 σ h1
  | .whl t body, σ, h => whileLoop (evT C t) (evSs C body) C.fuel σ h
  | .ret (some e), σ, h => (evE C e σ h).st fun d h1 => .ret d h1
  | .ret none, _, h => .ret .non h
  | .raise c args, σ, h => (evEs C args σ h).st fun ds h1 => match C.P.exc c with
    | some ps => if ps.length = ds.length then .exc c (ps.zip ds) h1 else .bad
    | none => .bad
  | .tryRet e k _ g, σ, h => match evE C e σ h with
    | .bad => .bad
    | .ok d h1 => .ret d h1
    | .exc c fs h1 => if (C.P.exc c).isSome then (if C.P.sub c k then match C.callE g c fs h1 with
        | .ok d h2 => .ret d h2
        | _ => .bad
      else .exc c fs h1) else .bad
  | .pass, σ, h => .nx σ h
def evSs (C : Cx) : List S → Sl → Hd → RS
  | [], σ, h => .nx σ h
  | s :: ss, σ, h => match evS C s σ h with
    | .nx σ1 h1 => evSs C ss σ1 h1
    | r => r
end
/-- a def's body -/
def run (C : Cx) (f : Fn) (ds : List D) (h : Hd) : R D := if ds.length = f.np then match evSs C f.body (ds.map some ++ List.replicate (f.ns - f.np) none) h with
    | .nx _ h1 => .ok .non h1
    | .ret d h1 => .ok d h1
    | .exc c fs h1 => .exc c fs h1
    | .bad => .bad
  else .bad
/-- a def of an exception -/
def runE (C : Cx) (f : Fn) (c : Str) (fs : List (Str × D)) (h : Hd) : R D := if f.np = 1 ∧ (C.P.exc c).isSome then match evSs { C with ex := some (c, fs) } f.body (List.replicate f.ns none) h with
    | .nx _ h1 => .ok .non h1
    | .ret d h1 => .ok d h1
    | .exc c fs h1 => .exc c fs h1
    | .bad => .bad
  else .bad
/-- calls, n deep -/
def cxN (P : Prog) (fuel : Nat) : Nat → Cx
  | 0 => ⟨P, fun _ _ _ _ => .bad, fun _ _ _ => .bad, fun _ _ _ _ => .bad, fuel, none⟩
  | n + 1 => ⟨P, fun k x ds h => match P.fn k x with
        | some f => run (cxN P fuel n) f ds h
        | none => .bad,
      fun k ds h => match P.fn k "__init__" with
        | some f => match run (cxN P fuel n) f (.ref h.length :: ds) (h ++ [.ins k []]) with
          | .ok .non h1 => .ok (.ref h.length) h1
          | .ok _ _ => .bad
          | .exc c fs h1 => .exc c fs h1
          | .bad => .bad
        | none => .bad,
      fun x c fs h => match P.fn "" x with
        | some f => runE (cxN P fuel n) f c fs h
        | none => .bad, fuel, none⟩
end Ev
end
section
set_option Elab.async false
set_option linter.all false
set_option maxRecDepth 100000
/-! Snd0: how the evaluator's values and cells stand in HandS's abstract heap. -/
namespace Ev
open PySem PySem.Spec
open L2 (V Hp HO upd upd_same upd_ne SqT SqL Rd Key RelV Vals VK WX St TE PE XK)

/-- a list that is only read -/
def SqF (K : PySem.W.Frag) (H : Hp) (a : Addr) (xs : List V) : Prop :=
  (∃ o, H a = some (.frz o (.lst xs))) ∨
    ∃ (o : Obj) (its : Array Value) (n : Nat), K.lookup a = some o ∧ o.cls = .type "list" ∧ o.dict = none ∧ o.data = .seq its n ∧ its.size ≤ sizeLine ∧ Vals xs its.toList
theorem SqF.sql {K : PySem.W.Frag} {H : Hp} {a : Addr} {xs : List V} (h : SqF K H a xs) : SqL K H a xs := by
  rcases h with h | h
  · exact .inl (.inr h)
  · exact .inr h
mutual
/-- a value of ours and HandS's value; ρ: where the cells stand -/
inductive Rp (K : PySem.W.Frag) (mg : Str → Option Value) (ρ : List Addr) (H : Hp) : D → V → Prop
  | non : Rp K mg ρ H .non .non
  | bl (b : Bool) : Rp K mg ρ H (.bl b) (.bl b)
  | int (i : Int) : Rp K mg ρ H (.int i) (.int i)
  | str (s : Str) : Rp K mg ρ H (.str s) (.str s)
  | tup {ds : List D} {a : Addr} {vs : List V} : SqT K H a vs → RpL K mg ρ H ds vs → Rp K mg ρ H (.tup ds) (.ref a)
  | fl {ds : List D} {a : Addr} {vs : List V} : SqF K H a vs → RpL K mg ρ H ds vs → Rp K mg ρ H (.fl ds) (.ref a)
  | ref {c : Nat} {a : Addr} : ρ[c]? = some a → Rp K mg ρ H (.ref c) (.ref a)
  | glob {x : Str} {a : Addr} : mg x = some (.ref a) → Rp K mg ρ H (.glob x) (.ref a)
  | ty (n : String) : Rp K mg ρ H (.ty n) (.ty n)
inductive RpL (K : PySem.W.Frag) (mg : Str → Option Value) (ρ : List Addr) (H : Hp) : List D → List V → Prop
  | nil : RpL K mg ρ H [] []
  | cons {d : D} {ds : List D} {v : V} {vs : List V} : Rp K mg ρ H d v → RpL K mg ρ H ds vs → RpL K mg ρ H (d :: ds) (v :: vs)
end
/-- what never changes where it stands -/
def Imm : HO → Prop
  | .tup _ | .own _ | .xd _ | .frz _ _ | .rng _ _ | .met _ _ => True
  | _ => False
structure Ext0 (ρ : List Addr) (H : Hp) (ρ' : List Addr) (H' : Hp) : Prop where
  pre : ∃ l, ρ' = ρ ++ l
  imm : ∀ a o, H a = some o → Imm o → H' a = some o
/-- .. and what is no cell stays, new cells are new -/
structure Ext (ρ : List Addr) (H : Hp) (ρ' : List Addr) (H' : Hp) : Prop extends Ext0 ρ H ρ' H' where
  frm : ∀ a o, H a = some o → a ∉ ρ → H' a = some o
  frs : ∀ a, a ∈ ρ' → a ∈ ρ ∨ H a = none
theorem Ext.refl (ρ : List Addr) (H : Hp) : Ext ρ H ρ H := ⟨⟨⟨[], by simp⟩, fun _ _ e _ => e⟩, fun _ _ e _ => e, fun _ h => .inl h⟩
theorem Ext.trans {ρ ρ1 ρ2 : List Addr} {H H1 H2 : Hp} (a : Ext ρ H ρ1 H1) (b : Ext ρ1 H1 ρ2 H2) : Ext ρ H ρ2 H2 := by
  obtain ⟨l, e⟩ := a.pre
  obtain ⟨l', e'⟩ := b.pre
  refine ⟨⟨⟨l ++ l', by rw [e', e, List.append_assoc]⟩, fun a' o h i => b.imm _ _ (a.imm _ _ h i) i⟩, fun x o h n => ?_, fun x hx => ?_⟩
  · refine b.frm _ _ (a.frm _ _ h n) fun hm => ?_
    rcases a.frs _ hm with z | z
    · exact n z
    · rw [h] at z; cases z
  · rcases b.frs _ hx with z | z
    · exact a.frs _ z
    · by_cases hm : x ∈ ρ
      · exact .inl hm
      · cases q : H x with
        | none => exact .inr rfl
        | some o => rw [a.frm _ _ q hm] at z; cases z
theorem Ext0.at {ρ ρ' : List Addr} {H H' : Hp} (x : Ext0 ρ H ρ' H') {c : Nat} {a : Addr} (e : ρ[c]? = some a) : ρ'[c]? = some a := by
  obtain ⟨l, rfl⟩ := x.pre
  rw [List.getElem?_append_left (List.getElem?_eq_some_iff.mp e).1]
  exact e
theorem Ext.same {ρ : List Addr} {H H' : Hp} (h : L2.Same H H') : Ext ρ H ρ H' := ⟨⟨⟨[], by simp⟩, fun a o e _ => h a o e⟩, fun a o e _ => h a o e, fun _ h => .inl h⟩
section
variable {K : PySem.W.Frag} {mg : Str → Option Value} {ρ ρ' : List Addr} {H H' : Hp}
theorem Ext0.rdT {a : Addr} {vs : List V} (x : Ext0 ρ H ρ' H') (h : SqT K H a vs) : SqT K H' a vs := by
  rcases h with (h | ⟨o, h⟩) | h
  · exact .inl (.inl (x.imm _ _ h trivial))
  · exact .inl (.inr ⟨o, x.imm _ _ h trivial⟩)
  · exact .inr h
theorem Ext0.rdF {a : Addr} {vs : List V} (x : Ext0 ρ H ρ' H') (h : SqF K H a vs) : SqF K H' a vs := by
  rcases h with ⟨o, h⟩ | h
  · exact .inl ⟨o, x.imm _ _ h trivial⟩
  · exact .inr h
mutual
theorem Rp.mono0 (x : Ext0 ρ H ρ' H') : ∀ {d : D} {v : V}, Rp K mg ρ H d v → Rp K mg ρ' H' d v
  | _, _, .non => .non
  | _, _, .bl b => .bl b
  | _, _, .int i => .int i
  | _, _, .str s => .str s
  | _, _, .tup h l => .tup (x.rdT h) (RpL.mono0 x l)
  | _, _, .fl h l => .fl (x.rdF h) (RpL.mono0 x l)
  | _, _, .ref e => .ref (x.at e)
  | _, _, .glob e => .glob e
  | _, _, .ty n => .ty n
theorem RpL.mono0 (x : Ext0 ρ H ρ' H') : ∀ {ds : List D} {vs : List V}, RpL K mg ρ H ds vs → RpL K mg ρ' H' ds vs
  | _, _, .nil => .nil
  | _, _, .cons a b => .cons (Rp.mono0 x a) (RpL.mono0 x b)
end
theorem Rp.mono (x : Ext ρ H ρ' H') {d : D} {v : V} (r : Rp K mg ρ H d v) : Rp K mg ρ' H' d v := r.mono0 x.toExt0
theorem RpL.mono (x : Ext ρ H ρ' H') {ds : List D} {vs : List V} (r : RpL K mg ρ H ds vs) : RpL K mg ρ' H' ds vs := r.mono0 x.toExt0
theorem RpL.length : ∀ {ds : List D} {vs : List V}, RpL K mg ρ H ds vs → ds.length = vs.length
  | _, _, .nil => rfl
  | _, _, .cons _ b => by simp [RpL.length b]
theorem RpL.get : ∀ {ds : List D} {vs : List V} {i : Nat} {d : D}, RpL K mg ρ H ds vs → ds[i]? = some d → ∃ v, vs[i]? = some v ∧ Rp K mg ρ H d v
  | _, _, _, _, .nil, e => by simp at e
  | _, _, 0, _, .cons a _, e => by simp at e; subst e; exact ⟨_, rfl, a⟩
  | _, _, i + 1, _, .cons _ b, e => by simpa using RpL.get (i := i) b (by simpa using e)
theorem RpL.get' : ∀ {ds : List D} {vs : List V} {i : Nat} {v : V}, RpL K mg ρ H ds vs → vs[i]? = some v → ∃ d, ds[i]? = some d ∧ Rp K mg ρ H d v
  | _, _, _, _, .nil, e => by simp at e
  | _, _, 0, _, .cons a _, e => by simp at e; subst e; exact ⟨_, rfl, a⟩
  | _, _, i + 1, _, .cons _ b, e => by simpa using RpL.get' (i := i) b (by simpa using e)
theorem RpL.append : ∀ {ds es : List D} {vs us : List V}, RpL K mg ρ H ds vs → RpL K mg ρ H es us → RpL K mg ρ H (ds ++ es) (vs ++ us)
  | _, _, _, _, .nil, b => b
  | _, _, _, _, .cons a c, b => .cons a (RpL.append c b)
theorem RpL.snoc {ds : List D} {vs : List V} {d : D} {v : V} (a : RpL K mg ρ H ds vs) (b : Rp K mg ρ H d v) : RpL K mg ρ H (ds ++ [d]) (vs ++ [v]) := a.append (.cons b .nil)
theorem RpL.take : ∀ {ds : List D} {vs : List V} (n : Nat), RpL K mg ρ H ds vs → RpL K mg ρ H (ds.take n) (vs.take n)
  | _, _, 0, _ => by simpa using RpL.nil
  | _, _, _ + 1, .nil => by simpa using RpL.nil
  | _, _, n + 1, .cons a b => .cons a (RpL.take n b)
theorem RpL.drop : ∀ {ds : List D} {vs : List V} (n : Nat), RpL K mg ρ H ds vs → RpL K mg ρ H (ds.drop n) (vs.drop n)
  | _, _, 0, r => r
  | _, _, _ + 1, .nil => by simpa using RpL.nil
  | _, _, n + 1, .cons _ b => RpL.drop n b
theorem RpL.set : ∀ {ds : List D} {vs : List V} {d : D} {v : V} (n : Nat), Rp K mg ρ H d v → RpL K mg ρ H ds vs → RpL K mg ρ H (ds.set n d) (vs.set n v)
  | _, _, _, _, _, _, .nil => by simpa using RpL.nil
  | _, _, _, _, 0, r, .cons _ b => .cons r b
  | _, _, _, _, n + 1, r, .cons a b => .cons a (RpL.set n r b)
theorem RpL.reverse : ∀ {ds : List D} {vs : List V}, RpL K mg ρ H ds vs → RpL K mg ρ H ds.reverse vs.reverse
  | _, _, .nil => by simpa using RpL.nil
  | _, _, .cons a b => by simpa using (RpL.reverse b).append (.cons a .nil)
theorem RpL.dropLast {ds : List D} {vs : List V} (a : RpL K mg ρ H ds vs) : RpL K mg ρ H ds.dropLast vs.dropLast := by
  rw [List.dropLast_eq_take, List.dropLast_eq_take, a.length]
  exact a.take _
theorem RpL.eraseIdx : ∀ {ds : List D} {vs : List V} (n : Nat), RpL K mg ρ H ds vs → RpL K mg ρ H (ds.eraseIdx n) (vs.eraseIdx n)
  | _, _, _, .nil => by simpa using RpL.nil
  | _, _, 0, .cons _ b => b
  | _, _, n + 1, .cons a b => .cons a (RpL.eraseIdx n b)
theorem RpL.rep {ds : List D} {vs : List V} (a : RpL K mg ρ H ds vs) : ∀ k : Nat, RpL K mg ρ H (List.replicate k ds).flatten (List.replicate k vs).flatten
  | 0 => by simpa using RpL.nil
  | k + 1 => by simpa [List.replicate_succ] using a.append (RpL.rep a k)
theorem RpL.strs : ∀ (xs : List Str), RpL K mg ρ H (xs.map .str) (xs.map .str)
  | [] => .nil
  | x :: xs => .cons (.str x) (RpL.strs xs)

/-- attributes -/
inductive RFs (K : PySem.W.Frag) (mg : Str → Option Value) (ρ : List Addr) (H : Hp) : List (Str × D) → List (Str × V) → Prop
  | nil : RFs K mg ρ H [] []
  | cons {m : Str} {d : D} {v : V} {fs : List (Str × D)} {gs : List (Str × V)} : Rp K mg ρ H d v → RFs K mg ρ H fs gs → RFs K mg ρ H ((m, d) :: fs) ((m, v) :: gs)
theorem RFs.mono0 (x : Ext0 ρ H ρ' H') : ∀ {fs : List (Str × D)} {gs : List (Str × V)}, RFs K mg ρ H fs gs → RFs K mg ρ' H' fs gs
  | _, _, .nil => .nil
  | _, _, .cons a b => .cons (a.mono0 x) (RFs.mono0 x b)
theorem RFs.mono (x : Ext ρ H ρ' H') {fs : List (Str × D)} {gs : List (Str × V)} (r : RFs K mg ρ H fs gs) : RFs K mg ρ' H' fs gs := r.mono0 x.toExt0
theorem RFs.length : ∀ {fs : List (Str × D)} {gs : List (Str × V)}, RFs K mg ρ H fs gs → fs.length = gs.length
  | _, _, .nil => rfl
  | _, _, .cons _ b => by simp [RFs.length b]
theorem RFs.lookup {m : Str} : ∀ {fs : List (Str × D)} {gs : List (Str × V)} {d : D}, RFs K mg ρ H fs gs → fs.lookup m = some d → ∃ v, gs.lookup m = some v ∧ Rp K mg ρ H d v
  | _, _, _, .nil, e => by simp at e
  | _, _, d, .cons (m := k) (d := d') (v := v') a b, e => by
    simp only [List.lookup] at e ⊢
    cases hk : (m == k) with
    | true =>
      rw [hk] at e
      simp only [Option.some.injEq] at e
      subst e
      exact ⟨_, rfl, a⟩
    | false =>
      rw [hk] at e
      exact RFs.lookup b e
theorem RFs.lookup_none {m : Str} : ∀ {fs : List (Str × D)} {gs : List (Str × V)}, RFs K mg ρ H fs gs → fs.lookup m = none → gs.lookup m = none
  | _, _, .nil, _ => rfl
  | _, _, .cons (m := k) (d := d') (v := v') a b, e => by
    simp only [List.lookup] at e ⊢
    cases hk : (m == k) with
    | true => rw [hk] at e; cases e
    | false =>
      rw [hk] at e
      exact RFs.lookup_none b e
theorem RFs.put {m : Str} {d : D} {v : V} (r : Rp K mg ρ H d v) : ∀ {fs : List (Str × D)} {gs : List (Str × V)}, RFs K mg ρ H fs gs → RFs K mg ρ H (putF m d fs) (L2.putF m v gs)
  | _, _, .nil => .cons r .nil
  | _, _, .cons (m := k) (d := d') (v := v') a b => by
    unfold putF L2.putF
    by_cases hk : k = m
    · rw [if_pos hk, if_pos hk]
      exact .cons r b
    · rw [if_neg hk, if_neg hk]
      exact .cons a (RFs.put r b)

/-- keys that are numbers or texts -/
def keyRel : D → Key → Prop
  | .int i, .inl j => i = j
  | .str s, .inr t => s = t
  | _, _ => False
inductive RKv (K : PySem.W.Frag) (mg : Str → Option Value) (ρ : List Addr) (H : Hp) : List (D × D) → List (Key × V) → Prop
  | nil : RKv K mg ρ H [] []
  | cons {k : D} {d : D} {y : Key} {v : V} {r : List (D × D)} {q : List (Key × V)} : keyRel k y → Rp K mg ρ H d v → RKv K mg ρ H r q → RKv K mg ρ H ((k, d) :: r) ((y, v) :: q)
theorem RKv.mono0 (x : Ext0 ρ H ρ' H') : ∀ {r : List (D × D)} {q : List (Key × V)}, RKv K mg ρ H r q → RKv K mg ρ' H' r q
  | _, _, .nil => .nil
  | _, _, .cons k a b => .cons k (a.mono0 x) (RKv.mono0 x b)

/-- a cell and its object -/
inductive RCell (K : PySem.W.Frag) (mg : Str → Option Value) (ρ : List Addr) (H : Hp) : Cell → Addr → Prop
  | lst {ds : List D} {vs : List V} {a : Addr} : H a = some (.lst vs) → RpL K mg ρ H ds vs → RCell K mg ρ H (.lst ds) a
  | ins {k : Str} {fs : List (Str × D)} {gs : List (Str × V)} {a C dx : Addr} : mg k = some (.ref C) → H a = some (.ins C dx gs) → RFs K mg ρ H fs gs → RCell K mg ρ H (.ins k fs) a
  | dK {kvs : List (D × D)} {q : List (Key × V)} {a : Addr} : H a = some (.dK q) → (q.map (·.1)).Nodup → RKv K mg ρ H kvs q → RCell K mg ρ H (.dct kvs) a
theorem RCell.mono {x : Cell} {a : Addr} (e : Ext0 ρ H ρ' H') (ha : ∀ o, H a = some o → H' a = some o) (r : RCell K mg ρ H x a) : RCell K mg ρ' H' x a := by
  cases r with
  | lst h l => exact .lst (ha _ h) (l.mono0 e)
  | ins m h f => exact .ins m (ha _ h) (f.mono0 e)
  | dK h n q => exact .dK (ha _ h) n (q.mono0 e)
theorem RCell.there {x : Cell} {a : Addr} (r : RCell K mg ρ H x a) : ∃ o, H a = some o ∧ ¬ Imm o := by
  cases r with
  | lst h l => exact ⟨_, h, fun z => z⟩
  | ins m h f => exact ⟨_, h, fun z => z⟩
  | dK h n q => exact ⟨_, h, fun z => z⟩
/-- the heap of cells -/
structure HS (K : PySem.W.Frag) (mg : Str → Option Value) (ρ : List Addr) (hd : Hd) (H : Hp) : Prop where
  len : ρ.length = hd.length
  nd : ρ.Nodup
  cell : ∀ (c : Nat) (x : Cell) (a : Addr), hd[c]? = some x → ρ[c]? = some a → RCell K mg ρ H x a
theorem HS.at {hd : Hd} (h : HS K mg ρ hd H) {c : Nat} {x : Cell} (e : hd[c]? = some x) : ∃ a, ρ[c]? = some a ∧ RCell K mg ρ H x a := by
  have hc : c < ρ.length := by rw [h.len]; exact (List.getElem?_eq_some_iff.mp e).1
  exact ⟨ρ[c], List.getElem?_eq_getElem hc, h.cell c x _ e (List.getElem?_eq_getElem hc)⟩
theorem HS.notIn {hd : Hd} {p : Addr} (h : HS K mg ρ hd H) (f : H p = none) : p ∉ ρ := fun hm => by
  obtain ⟨c, hc⟩ := List.getElem?_of_mem hm
  have hlt : c < hd.length := by rw [← h.len]; exact (List.getElem?_eq_some_iff.mp hc).1
  obtain ⟨o, q, _⟩ := (h.cell c _ p (List.getElem?_eq_getElem hlt) hc).there
  rw [f] at q; cases q
/-- more stands that is no cell -/
theorem HS.same {hd : Hd} (h : HS K mg ρ hd H) (s : L2.Same H H') : HS K mg ρ hd H' :=
  ⟨h.len, h.nd, fun c x a e ea => (h.cell c x a e ea).mono (Ext.same s).toExt0 (fun o q => s a o q)⟩
theorem same_upd {p : Addr} {o : HO} (hp : H p = none) : L2.Same H (upd H p o) := fun b u e => by
  rw [upd_ne (L2.ne_of_none e hp)]
  exact e
theorem HS.beside {hd : Hd} {p : Addr} {o : HO} (h : HS K mg ρ hd H) (f : H p = none) : HS K mg ρ hd (upd H p o) := h.same (same_upd f)
theorem Ext.beside {p : Addr} {o : HO} (hp : H p = none) : Ext ρ H ρ (upd H p o) := Ext.same (same_upd hp)
theorem Ext0.snoc (ρ : List Addr) (H : Hp) (p : Addr) : Ext0 ρ H (ρ ++ [p]) H := ⟨⟨[p], rfl⟩, fun _ _ e _ => e⟩
/-- a new cell -/
theorem HS.new {hd : Hd} {p : Addr} {o : HO} {x : Cell} (h : HS K mg ρ hd H) (f : H p = none) (r : RCell K mg (ρ ++ [p]) (upd H p o) x p) : HS K mg (ρ ++ [p]) (hd ++ [x]) (upd H p o) := by
  have hb := h.beside (o := o) f
  refine ⟨by simp [h.len], ?_, fun c y a e ea => ?_⟩
  · refine List.nodup_append.mpr ⟨h.nd, by simp, fun a ha b hb' e => ?_⟩
    simp at hb'
    exact h.notIn f (hb' ▸ e ▸ ha)
  · by_cases hc : c < hd.length
    · rw [List.getElem?_append_left hc] at e
      rw [List.getElem?_append_left (by rw [h.len]; exact hc)] at ea
      exact (hb.cell c y a e ea).mono (Ext0.snoc ρ _ p) (fun _ q => q)
    · have hc2 : c = hd.length := by
        have := (List.getElem?_eq_some_iff.mp e).1
        simp at this; omega
      subst hc2
      simp at e
      rw [← h.len] at ea
      simp at ea
      subst e; subst ea
      exact r
theorem Ext.new {p : Addr} {o : HO} (hp : H p = none) : Ext ρ H (ρ ++ [p]) (upd H p o) := ⟨⟨⟨[p], rfl⟩, (Ext.beside (ρ := ρ) hp).imm⟩, (Ext.beside (ρ := ρ) hp).frm, fun a h => by
  rcases List.mem_append.mp h with z | z
  · exact .inl z
  · simp at z; subst z; exact .inr hp⟩
theorem Rp.new {p : Addr} {H : Hp} (ρ : List Addr) : Rp K mg (ρ ++ [p]) H (.ref ρ.length) (.ref p) := .ref (by simp)
/-- a changed object that may change -/
theorem Ext.set {a : Addr} {o o' : HO} {c : Nat} (ea : ρ[c]? = some a) (ha : H a = some o) (hi : ¬ Imm o) : Ext ρ H ρ (upd H a o') := ⟨⟨⟨[], by simp⟩, fun b u e i => by
  by_cases hb : b = a
  · subst hb
    rw [ha] at e; cases e
    exact absurd i hi
  · rw [upd_ne hb]; exact e⟩, fun b u e n => by
  have hb : b ≠ a := fun z => n (by rw [z]; exact List.mem_of_getElem? ea)
  rw [upd_ne hb]; exact e, fun _ h => .inl h⟩
theorem nodup_at {ρ : List Addr} (nd : ρ.Nodup) {i j : Nat} {a : Addr} (hi : ρ[i]? = some a) (hj : ρ[j]? = some a) : i = j := by
  obtain ⟨h1, e1⟩ := List.getElem?_eq_some_iff.mp hi
  obtain ⟨h2, e2⟩ := List.getElem?_eq_some_iff.mp hj
  exact (List.getElem_inj nd).mp (e1.trans e2.symm)
theorem HS.set {hd : Hd} {c : Nat} {a : Addr} {o o' : HO} {x' : Cell} (h : HS K mg ρ hd H) (ea : ρ[c]? = some a) (ha : H a = some o) (hi : ¬ Imm o) (r : RCell K mg ρ (upd H a o') x' a) : HS K mg ρ (hd.set c x') (upd H a o') := by
  refine ⟨by simp [h.len], h.nd, fun c' y a' e ea' => ?_⟩
  by_cases hc : c' = c
  · subst hc
    have hlt : c' < hd.length := by rw [← h.len]; exact (List.getElem?_eq_some_iff.mp ea).1
    rw [List.getElem?_set_self hlt] at e
    rw [ea] at ea'
    cases e; cases ea'
    exact r
  · rw [List.getElem?_set_ne (Ne.symm hc)] at e
    have hne : a' ≠ a := fun z => hc (nodup_at h.nd (z ▸ ea') ea)
    exact (h.cell c' y a' e ea').mono (Ext.set ea ha hi).toExt0 (fun u q => by rw [upd_ne hne]; exact q)

/-! ### what is wanted behind a step -/
/-- the slots -/
def SLr (K : PySem.W.Frag) (mg : Str → Option Value) (ρ : List Addr) (H : Hp) (σd : Sl) (σ : L2.St) : Prop :=
  σd.length = σ.length ∧ ∀ (i : Nat) (d : D), σd[i]? = some (some d) → ∃ v, σ[i]? = some (some v) ∧ Rp K mg ρ H d v
theorem SLr.mono {σd : Sl} {σ : L2.St} (x : Ext ρ H ρ' H') (h : SLr K mg ρ H σd σ) : SLr K mg ρ' H' σd σ :=
  ⟨h.1, fun i d e => let ⟨v, a, b⟩ := h.2 i d e; ⟨v, a, b.mono x⟩⟩
/-- an exception of an own class: its class, its dict -/
def ExcRep (K : PySem.W.Frag) (mg : Str → Option Value) (ρ : List Addr) (H : Hp) (c : Str) (fs : List (Str × D)) (cls : Value) (dict : Option Addr) : Prop :=
  ∃ C, cls = .ref C ∧ mg c = some (.ref C) ∧ ((fs = [] ∧ dict = none) ∨ ∃ dd gs, fs ≠ [] ∧ dict = some dd ∧ H dd = some (.xd gs) ∧ RFs K mg ρ H fs gs)
/-- r's end: Q where it is a value, W where it is an exception -/
def Fin {α β : Type} (K : PySem.W.Frag) (mg : Str → Option Value) (rel : List Addr → Hp → α → β → Prop) (W : WX) (ρ : List Addr) (σ : L2.St) (H : Hp) (Q : β → Hp → Prop) : R α → Prop
  | .bad => False
  | .ok a h' => ∀ ρ' b H', Ext ρ H ρ' H' → HS K mg ρ' h' H' → rel ρ' H' a b → Q b H'
  | .exc c fs h' => ∀ ρ' cls dict H', Ext ρ H ρ' H' → HS K mg ρ' h' H' → ExcRep K mg ρ' H' c fs cls dict → W cls dict σ H'
section
variable {α β γ δ : Type} {rel : List Addr → Hp → α → β → Prop} {rel' : List Addr → Hp → γ → δ → Prop} {W : WX} {σ : L2.St}
theorem Fin.mono {Q : β → Hp → Prop} {r : R α} (x : Ext ρ H ρ' H') (h : Fin K mg rel W ρ σ H Q r) : Fin K mg rel W ρ' σ H' Q r := by
  cases r with
  | bad => exact h
  | ok a h' => exact fun ρ2 b H2 e hs q => h ρ2 b H2 (x.trans e) hs q
  | exc c fs h' => exact fun ρ2 cls dict H2 e hs q => h ρ2 cls dict H2 (x.trans e) hs q
theorem Fin.imp {Q Q' : β → Hp → Prop} {r : R α} (h : Fin K mg rel W ρ σ H Q r) (q : ∀ b H', Q b H' → Q' b H') : Fin K mg rel W ρ σ H Q' r := by
  cases r with
  | bad => exact h
  | ok a h' => exact fun ρ2 b H2 e hs z => q _ _ (h ρ2 b H2 e hs z)
  | exc c fs h' => exact h
/-- the next step's wish -/
def Nxt (K : PySem.W.Frag) (mg : Str → Option Value) (rel : List Addr → Hp → α → β → Prop) (rel' : List Addr → Hp → γ → δ → Prop) (W : WX) (ρ : List Addr) (σ : L2.St) (H : Hp) (Q : δ → Hp → Prop) (g : α → Hd → R γ) : β → Hp → Prop := fun b H' =>
  ∃ ρ' h' a, Ext ρ H ρ' H' ∧ HS K mg ρ' h' H' ∧ rel ρ' H' a b ∧ Fin K mg rel' W ρ' σ H' Q (g a h')
theorem Fin.bind {Q : δ → Hp → Prop} {r : R α} {g : α → Hd → R γ} (h : Fin K mg rel' W ρ σ H Q (r.bind g)) : Fin K mg rel W ρ σ H (Nxt K mg rel rel' W ρ σ H Q g) r := by
  cases r with
  | bad => exact h
  | ok a h' => exact fun ρ2 b H2 e hs z => ⟨ρ2, h', a, e, hs, z, Fin.mono e h⟩
  | exc c fs h' => exact h
theorem Fin.of {Q : β → Hp → Prop} {o : Option α} {h : Hd} (f : Fin K mg rel W ρ σ H Q (.of o h)) (hs : HS K mg ρ h H) : ∃ a, o = some a ∧ ∀ b, rel ρ H a b → Q b H := by
  cases o with
  | none => exact f.elim
  | some a => exact ⟨a, rfl, fun b z => f ρ b H (Ext.refl _ _) hs z⟩
theorem Fin.ok {Q : β → Hp → Prop} {a : α} {h : Hd} {b : β} (f : Fin K mg rel W ρ σ H Q (.ok a h)) (hs : HS K mg ρ h H) (z : rel ρ H a b) : Q b H := f ρ b H (Ext.refl _ _) hs z
end
end
end Ev
end
section
set_option Elab.async false
set_option linter.all false
set_option maxRecDepth 100000
set_option maxHeartbeats 1000000
/-! Snd1: what the evaluator's operations give, the model gives. -/
namespace Ev
open PySem PySem.Spec
open L2 (V Hp HO upd upd_same upd_ne SqT SqL Rd Key RelV Vals VK WX TE PE XK Inv EP TP)

/-! ### data -/
section
variable {K : PySem.W.Frag} {mg : Str → Option Value} {ρ : List Addr} {H : Hp} {h : Hd}
theorem depthAll_le {n : Nat} : ∀ {ps : List PyData}, (∀ p ∈ ps, p.depth ≤ n) → PyData.depthAll ps ≤ n
  | [], _ => Nat.zero_le _
  | p :: ps, h => Nat.max_le.mpr ⟨h p List.mem_cons_self, depthAll_le fun q hq => h q (List.mem_cons_of_mem _ hq)⟩
theorem mapM_nil' {α β : Type} {f : α → Option β} {ps : List β} (h : ([] : List α).mapM f = some ps) : ps = [] := by simpa using h.symm
theorem mapM_cons' {α β : Type} {f : α → Option β} {d : α} {ds : List α} {ps : List β} (h : (d :: ds).mapM f = some ps) : ∃ p qs, f d = some p ∧ ds.mapM f = some qs ∧ ps = p :: qs := by
  rw [List.mapM_cons] at h
  cases e : f d with
  | none => rw [e] at h; cases h
  | some p =>
    cases e2 : ds.mapM f with
    | none => rw [e, e2] at h; cases h
    | some qs =>
      rw [e, e2] at h
      exact ⟨p, qs, rfl, rfl, (Option.some.inj h).symm⟩
/-- a value of ours that shows as data: HandS's deep data -/
theorem toP_dp (hs : HS K mg ρ h H) : ∀ (n : Nat) (d : D) (v : V) (p : PyData), Rp K mg ρ H d v → toP h n d = some p → L2.Dp K H v p ∧ p.plain = true ∧ p.depth ≤ n ∧ p.hasDict = false := by
  intro n
  induction n with
  | zero => intro d v p _ e; simp [toP] at e
  | succ n ih =>
    have all : ∀ (ds : List D) (vs : List V) (ps : List PyData), RpL K mg ρ H ds vs → ds.mapM (toP h n) = some ps → L2.DpAll K H vs ps ∧ PyData.plainAll ps = true ∧ (∀ p ∈ ps, p.depth ≤ n) ∧ PyData.hasDictAll ps = false := by
      intro ds
      induction ds with
      | nil =>
        intro vs ps r e
        cases r
        rw [mapM_nil' e]
        exact ⟨.nil, rfl, fun p hp => by simp at hp, rfl⟩
      | cons d ds ihd =>
        intro vs ps r e
        obtain ⟨p, qs, e1, e2, rfl⟩ := mapM_cons' e
        cases r with
        | cons r1 r2 =>
          obtain ⟨a1, a2, a3, a4⟩ := ih _ _ _ r1 e1
          obtain ⟨b1, b2, b3, b4⟩ := ihd _ _ r2 e2
          refine ⟨.cons a1 b1, by simp [PyData.plainAll, a2, b2], fun q hq => ?_, by simp [PyData.hasDictAll, a4, b4]⟩
          rcases List.mem_cons.mp hq with rfl | hq
          · exact a3
          · exact b3 q hq
    intro d v p r e
    cases r with
    | non => simp [toP] at e; subst e; exact ⟨.non, rfl, by simp [PyData.depth], rfl⟩
    | bl b => simp [toP] at e; subst e; exact ⟨.bl b, rfl, by simp [PyData.depth], rfl⟩
    | int i => simp [toP] at e; subst e; exact ⟨.int i, rfl, by simp [PyData.depth], rfl⟩
    | str x => simp [toP] at e; subst e; exact ⟨.str x, rfl, by simp [PyData.depth], rfl⟩
    | @tup ds a vs hq rl =>
      simp only [toP, Option.map_eq_some_iff] at e
      obtain ⟨ps, e1, rfl⟩ := e
      obtain ⟨b1, b2, b3, b4⟩ := all _ _ _ rl e1
      refine ⟨.tup hq b1, by simpa [PyData.plain] using b2, ?_, by simpa [PyData.hasDict] using b4⟩
      exact Nat.succ_le_succ (depthAll_le b3)
    | @fl ds a vs hq rl =>
      simp only [toP, Option.map_eq_some_iff] at e
      obtain ⟨ps, e1, rfl⟩ := e
      obtain ⟨b1, b2, b3, b4⟩ := all _ _ _ rl e1
      refine ⟨.lst hq.sql b1, by simpa [PyData.plain] using b2, ?_, by simpa [PyData.hasDict] using b4⟩
      exact Nat.succ_le_succ (depthAll_le b3)
    | @ref c a ea =>
      simp only [toP] at e
      split at e
      · rename_i ds hc
        simp only [Option.map_eq_some_iff] at e
        obtain ⟨ps, e1, rfl⟩ := e
        cases hs.cell c _ a hc ea with
        | @lst _ vs _ hl rl =>
          obtain ⟨b1, b2, b3, b4⟩ := all _ _ _ rl e1
          refine ⟨.lst (SqL.of hl) b1, by simpa [PyData.plain] using b2, ?_, by simpa [PyData.hasDict] using b4⟩
          exact Nat.succ_le_succ (depthAll_le b3)
      · cases e
    | glob e' => simp [toP] at e
    | ty n => simp [toP] at e
theorem toP_dpAll (hs : HS K mg ρ h H) (n : Nat) : ∀ (ds : List D) (vs : List V) (ps : List PyData), RpL K mg ρ H ds vs → ds.mapM (toP h n) = some ps → L2.DpAll K H vs ps ∧ PyData.plainAll ps = true ∧ (∀ p ∈ ps, p.depth ≤ n) := by
  intro ds
  induction ds with
  | nil =>
    intro vs ps r e
    cases r
    rw [mapM_nil' e]
    exact ⟨.nil, rfl, fun p hp => by simp at hp⟩
  | cons d ds ihd =>
    intro vs ps r e
    obtain ⟨p, qs, e1, e2, rfl⟩ := mapM_cons' e
    cases r with
    | cons r1 r2 =>
      obtain ⟨a1, a2, a3, _⟩ := toP_dp hs n _ _ _ r1 e1
      obtain ⟨b1, b2, b3⟩ := ihd _ _ r2 e2
      refine ⟨.cons a1 b1, by simp [PyData.plainAll, a2, b2], fun q hq => ?_⟩
      rcases List.mem_cons.mp hq with rfl | hq
      · exact a3
      · exact b3 q hq
end

/-! ### where one stands -/
/-- room on the stack; no repr runs -/
structure RoomE (k : Nat) (A : Around) : Prop where
  dp : A.depth + 4 * k + 10 < recursionLimit
  un : A.units + 20 * k + 400 < cLine
  gd : A.guards = some []
theorem RoomE.mono {j k : Nat} {A : Around} (r : RoomE k A) (h : j ≤ k) : RoomE j A := ⟨by have := r.dp; omega, by have := r.un; omega, r.gd⟩
theorem RoomE.room {k : Nat} {A : Around} (r : RoomE k A) (hh : A.handled = none) : L2.Room k A := ⟨hh, by have := r.dp; omega, by have := r.un; omega⟩
theorem RoomE.u {k : Nat} {A : Around} (r : RoomE k A) : A.units + 300 < cLine := by have := r.un; omega

section
variable {X : L2.Cx} {pins : List (Addr × Obj)} {s : Shared} {σ : L2.St} {H : Hp} {Q : VK} {W : WX} {ρ : List Addr} {h : Hd}
abbrev FinE (X : L2.Cx) (W : WX) (ρ : List Addr) (σ : L2.St) (H : Hp) (Q : VK) (r : R D) : Prop := Fin X.K X.mg (Rp X.K X.mg) W ρ σ H Q r
/-- a new list -/
theorem fin_lst {ds : List D} {vs : List V} {p : Addr} (f : FinE X W ρ σ H Q (new (.lst ds) h)) (hs : HS X.K X.mg ρ h H) (r : RpL X.K X.mg ρ H ds vs) (hp : H p = none) : Q (.ref p) (upd H p (.lst vs)) := by
  refine f (ρ ++ [p]) _ _ (Ext.new hp) (hs.new hp (.lst upd_same (r.mono (Ext.new hp)))) ?_
  rw [← hs.len]
  exact Rp.new ρ
/-- a new tuple -/
theorem fin_tup {ds : List D} {vs : List V} {p : Addr} (f : FinE X W ρ σ H Q (.ok (.tup ds) h)) (hs : HS X.K X.mg ρ h H) (r : RpL X.K X.mg ρ H ds vs) (hp : H p = none) : Q (.ref p) (upd H p (.tup vs)) :=
  f ρ _ _ (Ext.beside hp) (hs.beside hp) (.tup (SqT.of upd_same) (r.mono (Ext.beside hp)))
theorem lim_line {n : Nat} (h : n ≤ LIM) : n ≤ sizeLine := by
  rw [sizeLine_eq]
  unfold LIM at h
  omega
theorem Inv.toks1 (I : Inv X pins σ H s) : Inv X pins σ H { s with toks := s.toks + 1 } := I.tok _

theorem foldl_flat (x : Array Nat) : ∀ (n : Nat) (acc : Array Nat), (List.replicate n x).foldl (· ++ ·) acc = ⟨acc.toList ++ (List.replicate n x.toList).flatten⟩
  | 0, acc => by simp
  | n + 1, acc => by
    rw [List.replicate_succ, List.foldl_cons, foldl_flat x n (acc ++ x)]
    simp [List.replicate_succ]
theorem tooLong_not {n : Nat} (h : n ≤ LIM) : Builtin.Str.tooLong n = false := by
  have : n ≤ sizeLine := lim_line h
  unfold Builtin.Str.tooLong
  exact decide_eq_false (by omega)
/-- a text times a number -/
theorem mul_text {prog : Program} {w : World} {A : Around} {E : Value → Shared → Prop} {s : Shared} {x : Str} {k : Int} {t u : Tok} {Q : Value → Shared → Prop} (h0 : 0 ≤ k) (h1 : k ≤ LIM) (hz : x.length * k.toNat ≤ LIM)
    (q : ∀ (u : Tok) (tk : Nat), Q (.str ⟨(List.replicate k.toNat x.cps.toList).flatten.toArray⟩ u) { s with toks := tk }) : wpAny (model prog w) A (binaryOp .Mult (.str x t) (.int k u)) Q E s := by
  have zl : ((LIM : Nat) : Int) = 1048576 := rfl
  rw [zl] at h1
  have hz2 : x.length * k.toNat ≤ 1048576 := hz
  refine P.mul_str ?_ (fun a b => ?_) (fun _ _ => tooLong_not hz) ?_
  · rw [Bool.or_eq_false_iff]
    exact ⟨decide_eq_false (by omega), decide_eq_false (by omega)⟩
  · obtain ⟨n, hn⟩ : ∃ n : Nat, k = n := ⟨k.toNat, by omega⟩
    subst hn
    have hx : x.length ≤ 1048576 := by
      have : 1 ≤ n := by omega
      have := Nat.le_mul_of_pos_right x.length this
      simp at hz2
      omega
    have h3 : (1048576 : Int) ≤ (2 ^ 63 - 1) / (n : Int) := Int.le_ediv_of_mul_le (by omega) (by omega)
    omega
  · by_cases hk : k < 1
    · rw [if_pos hk]
      have e : k.toNat = 0 := by omega
      have := q s.toks (s.toks + 1)
      rw [e] at this
      simp at this
      refine ⟨by decide, ?_⟩
      exact this
    · rw [if_neg hk]
      by_cases h2 : (k == 1 || x.length == 0) = true
      · rw [if_pos h2]
        have e : (⟨(List.replicate k.toNat x.cps.toList).flatten.toArray⟩ : Str) = x := by
          rw [Bool.or_eq_true] at h2
          rcases h2 with h2 | h2
          · have : k.toNat = 1 := by have := beq_iff_eq.mp h2; omega
            rw [this]; simp
          · have h5 : x.cps.size = 0 := beq_iff_eq.mp h2
            have h6 : x.cps = #[] := Array.eq_empty_of_size_eq_zero h5
            obtain ⟨c⟩ := x
            simp only at h6
            subst h6
            simp
        have := q t s.toks
        rw [e] at this
        exact this
      · rw [if_neg h2, foldl_flat]
        have := q s.toks (s.toks + 1)
        simp at this ⊢
        refine ⟨?_, this⟩
        have := lim_line hz
        simpa [Str.length, Nat.mul_comm] using this
theorem bin_ok {o : Operator} {x y : D} {v u : V} {v' u' : Value} (I : Inv X pins σ H s) (hs : HS X.K X.mg ρ h H) (r1 : Rp X.K X.mg ρ H x v) (q1 : RelV v v') (r2 : Rp X.K X.mg ρ H y u) (q2 : RelV u u')
    (f : FinE X W ρ σ H Q (evBin o x y h)) : wpAny (model X.prog X.w) X.A (binaryOp o v' u') (EP X pins σ Q) X.xe s := by
  unfold evBin at f
  split at f
  · cases r1; cases r2
    exact L2.op_add pins s σ H _ _ _ _ Q I q1 q2 ⟨_, _, rfl, rfl, f.ok hs (.int _)⟩
  · split at f
    · rename_i hz
      cases r1; cases r2
      exact L2.op_add_str pins s σ H _ _ _ _ Q I q1 q2 ⟨_, _, rfl, rfl, lim_line hz, f.ok hs (.str _)⟩
    · exact f.elim
  · split at f
    · rename_i xs ys hz
      cases r1 with
      | tup t1 l1 =>
        cases r2 with
        | tup t2 l2 =>
          refine L2.op_catA pins s σ H _ _ _ _ Q I q1 q2 ⟨_, _, _, _, rfl, rfl, t1, t2, ?_, fun e => ?_, fun _ e => ?_, fun _ _ p hp => fin_tup f hs (l1.append l2) hp⟩
          · rw [← l1.length, ← l2.length]; exact lim_line hz
          · subst e
            cases l1
            exact f.ok hs (.tup t2 l2)
          · subst e
            cases l2
            exact f.ok hs (.tup t1 (by simpa using l1))
    · exact f.elim
  · split at f
    · rename_i c e xs ys hc he
      split at f
      · rename_i hz
        cases r1 with
        | ref ec =>
          cases r2 with
          | ref ee =>
            cases hs.cell _ _ _ hc ec with
            | lst h1 l1 =>
              cases hs.cell _ _ _ he ee with
              | lst h2 l2 =>
                exact L2.op_cat pins s σ H _ _ _ _ Q I q1 q2 ⟨_, _, _, _, rfl, rfl, h1, h2, by rw [← l1.length, ← l2.length]; exact lim_line hz, fun p hp => fin_lst f hs (l1.append l2) hp⟩
      · exact f.elim
    · exact f.elim
  · cases r1; cases r2
    exact L2.op_sub pins s σ H _ _ _ _ Q I q1 q2 ⟨_, _, rfl, rfl, f.ok hs (.int _)⟩
  · split at f
    · rename_i hz
      cases r1; cases r2
      exact L2.op_mul pins s σ H _ _ _ _ Q I q1 q2 ⟨_, _, rfl, rfl, hz, f.ok hs (.int _)⟩
    · exact f.elim
  · split at f
    · rename_i x k hz
      cases r1; cases r2
      obtain ⟨t, rfl⟩ := q1
      obtain ⟨t', rfl⟩ := q2
      obtain ⟨h0, h1, hz⟩ := hz
      exact mul_text h0 h1 hz fun u tk => ⟨.str _, H, I.tok _, ⟨u, rfl⟩, f.ok hs (.str _)⟩
    · exact f.elim
  · split at f
    · rename_i c k _ xs hc
      split at f
      · rename_i hz
        cases r1 with
        | ref ec =>
          cases r2
          cases hs.cell _ _ _ hc ec with
          | lst h1 l1 =>
            obtain ⟨z1, z2, z3⟩ := hz
            have zl : ((LIM : Nat) : Int) = 1048576 := rfl
            rw [zl] at z2
            exact L2.op_rep pins s σ H _ _ _ _ Q I q1 q2 ⟨_, _, _, rfl, rfl, h1, by omega, by omega, by rw [← l1.length]; exact lim_line z3, fun p hp => fin_lst f hs (l1.rep _) hp⟩
      · exact f.elim
    · exact f.elim
  · split at f
    · rename_i hz
      cases r1; cases r2
      exact L2.op_fdivW pins s σ H _ _ _ _ Q I q1 q2 ⟨_, _, rfl, rfl, L2.wide_div hz.1 (b := 128) (by have := hz.2; omega) (by decide) (by decide), f.ok hs (.int _)⟩
    · exact f.elim
  · split at f
    · rename_i hz
      cases r1; cases r2
      exact L2.op_mod pins s σ H _ _ _ _ Q I q1 q2 ⟨_, _, rfl, rfl, hz, f.ok hs (.int _)⟩
    · exact f.elim
  · split at f
    · rename_i hz
      cases r1; cases r2
      exact L2.op_pow pins s σ H _ _ _ _ Q I q1 q2 ⟨_, _, rfl, rfl, hz, f.ok hs (.int _)⟩
    · exact f.elim
  · split at f
    · rename_i hz
      cases r1; cases r2
      exact L2.op_shl pins s σ H _ _ _ _ Q I q1 q2 ⟨_, _, rfl, rfl, hz, f.ok hs (.int _)⟩
    · exact f.elim
  · split at f
    · rename_i hz
      cases r1; cases r2
      exact L2.op_shr pins s σ H _ _ _ _ Q I q1 q2 ⟨_, _, rfl, rfl, hz, f.ok hs (.int _)⟩
    · exact f.elim
  · cases r1; cases r2
    exact L2.op_and pins s σ H _ _ _ _ Q I q1 q2 ⟨_, _, rfl, rfl, f.ok hs (.int _)⟩
  · exact f.elim
end
end Ev
end
section
set_option Elab.async false
set_option linter.all false
set_option maxRecDepth 100000
set_option maxHeartbeats 1000000
/-! Snd2: comparisons, places, slices, truth, calls of built-ins. -/
namespace Ev
open PySem PySem.Spec
open L2 (V Hp HO upd upd_same upd_ne SqT SqL Rd Key RelV Vals VK WX TE PE XK Inv EP TP)

section
variable {X : L2.Cx} {pins : List (Addr × Obj)} {s : Shared} {σ : L2.St} {H : Hp} {Q : VK} {W : WX} {ρ : List Addr} {h : Hd} {P : Prog}
/-- the module's dicts of texts, as the written part has them -/
structure MOk (K : PySem.W.Frag) (mg : Str → Option Value) (w : World) (P : Prog) : Prop where
  md : ∀ m kvs, P.mdict m = some kvs → False
theorem reads_of {x : D} {p : PyData} {v : V} {v' : Value} {n : Nat} (I : Inv X pins σ H s) (hs : HS X.K X.mg ρ h H) (r : Rp X.K X.mg ρ H x v) (q : RelV v v') (e : toP h n x = some p) :
    ∃ as, Reads s.heap v' p as ∧ p.plain = true ∧ p.depth ≤ n ∧ p.hasDict = false := by
  obtain ⟨a, b, c, d⟩ := toP_dp hs n x v p r e
  obtain ⟨as, z⟩ := L2.Dp.reads I p v v' a q
  exact ⟨as, z, b, c, d⟩
theorem RelV.bl {b : Bool} {u : Value} (h : u = .bool b) : RelV (.bl b) u := h
theorem ep_bl {b : Bool} (I : Inv X pins σ H s) (q : Q (.bl b) H) : EP X pins σ Q (.bool b) s := ⟨.bl b, H, I, rfl, q⟩

theorem eq_ok {x y : D} {v u : V} {v' u' : Value} {b : Bool} {k : Nat} (hr : RoomE k X.A) (I : Inv X pins σ H s) (hs : HS X.K X.mg ρ h H) (r1 : Rp X.K X.mg ρ H x v) (q1 : RelV v v') (r2 : Rp X.K X.mg ρ H y u) (q2 : RelV u u')
    (e : evEq h x y = some b) (q : Q (.bl b) H) : wpAny (model X.prog X.w) X.A (compareOp .Eq v' u') (EP X pins σ Q) X.xe s := by
  unfold evEq at e
  simp only [Option.bind_eq_some_iff, Option.map_eq_some_iff] at e
  obtain ⟨p, e1, p', e2, rfl⟩ := e
  obtain ⟨as, a1, a2, a3, _⟩ := reads_of I hs r1 q1 e1
  obtain ⟨bs, b1, b2, b3, _⟩ := reads_of I hs r2 q2 e2
  have hu := hr.u
  have hD : DEPTH = 12 := rfl
  exact SeqAt.eq_plain a1 b1 a2 b2 (by omega) (ep_bl I q)
theorem ne_ok {x y : D} {v u : V} {v' u' : Value} {b : Bool} {k : Nat} (hr : RoomE k X.A) (I : Inv X pins σ H s) (hs : HS X.K X.mg ρ h H) (r1 : Rp X.K X.mg ρ H x v) (q1 : RelV v v') (r2 : Rp X.K X.mg ρ H y u) (q2 : RelV u u')
    (e : evEq h x y = some b) (q : Q (.bl (!b)) H) : wpAny (model X.prog X.w) X.A (compareOp .NotEq v' u') (EP X pins σ Q) X.xe s := by
  unfold evEq at e
  simp only [Option.bind_eq_some_iff, Option.map_eq_some_iff] at e
  obtain ⟨p, e1, p', e2, rfl⟩ := e
  obtain ⟨as, a1, a2, a3, _⟩ := reads_of I hs r1 q1 e1
  obtain ⟨bs, b1, b2, b3, _⟩ := reads_of I hs r2 q2 e2
  have hu := hr.u
  have hD : DEPTH = 12 := rfl
  exact SeqAt.ne_plain a1 b1 a2 b2 (by omega) (ep_bl I q)
/-- x in c, x not in c -/
theorem in_ok {x y : D} {v u : V} {v' u' : Value} {b : Bool} {k : Nat} (hr : RoomE k X.A) (M : MOk X.K X.mg X.w P) (I : Inv X pins σ H s) (hs : HS X.K X.mg ρ h H) (r1 : Rp X.K X.mg ρ H x v) (q1 : RelV v v') (r2 : Rp X.K X.mg ρ H y u) (q2 : RelV u u')
    (e : evIn P h x y = some b) :
    (Q (.bl b) H → wpAny (model X.prog X.w) X.A (compareOp .In v' u') (EP X pins σ Q) X.xe s) ∧ (Q (.bl (!b)) H → wpAny (model X.prog X.w) X.A (compareOp .NotIn v' u') (EP X pins σ Q) X.xe s) := by
  have hu := hr.u
  have hD : DEPTH = 12 := rfl
  unfold evIn at e
  split at e
  · split at e
    · cases e
      cases r1; cases r2
      exact ⟨fun q => L2.op_in_str pins s σ H _ _ _ _ Q I q1 q2 ⟨_, _, rfl, rfl, q⟩, fun q => L2.op_notIn_str pins s σ H _ _ _ _ Q I q1 q2 ⟨_, _, rfl, rfl, q⟩⟩
    · cases e
  · rename_i ys
    simp only [Option.bind_eq_some_iff, Option.map_eq_some_iff] at e
    obtain ⟨p, e1, qs, e2, rfl⟩ := e
    obtain ⟨as, a1, a2, a3, _⟩ := reads_of I hs r1 q1 e1
    cases r2 with
    | @tup _ a vs ht l =>
      obtain ⟨b1, b2, b3⟩ := toP_dpAll hs _ _ _ _ l e2
      obtain ⟨bs, z⟩ := L2.Dp.reads I (.tuple qs) (.ref a) u' (.tup ht b1) q2
      exact ⟨fun q => SeqAt.in_tuple_data z a1 b2 a2 (by omega) (ep_bl I q), fun q => SeqAt.notIn_tuple_data z a1 b2 a2 (by omega) (ep_bl I q)⟩
  · rename_i c
    split at e
    · rename_i ys hc
      simp only [Option.bind_eq_some_iff, Option.map_eq_some_iff] at e
      obtain ⟨p, e1, qs, e2, rfl⟩ := e
      obtain ⟨as, a1, a2, a3, _⟩ := reads_of I hs r1 q1 e1
      cases r2 with
      | @ref _ a ea =>
        cases hs.cell _ _ _ hc ea with
        | lst hl l =>
          obtain ⟨b1, b2, b3⟩ := toP_dpAll hs _ _ _ _ l e2
          obtain ⟨bs, z⟩ := L2.Dp.reads I (.list qs) (.ref a) u' (.lst (SqL.of hl) b1) q2
          exact ⟨fun q => SeqAt.in_list_data z a1 b2 a2 (by omega) (ep_bl I q), fun q => SeqAt.notIn_list_data z a1 b2 a2 (by omega) (ep_bl I q)⟩
    · cases e
  · split at e
    · rename_i m _ _ _ kvs _ hm
      exact (M.md _ _ hm).elim
    · cases e
  · cases e
theorem not_non {x : D} {v : V} (hx : x ≠ .non) (r : Rp X.K X.mg ρ H x v) : decide (v = .non) = false := by
  cases r with
  | non => exact absurd rfl hx
  | _ => exact decide_eq_false (by intro z; cases z)
theorem cmp_ok {o : CmpOp} {x y : D} {v u : V} {v' u' : Value} {b : Bool} {k : Nat} (hr : RoomE k X.A) (M : MOk X.K X.mg X.w P) (I : Inv X pins σ H s) (hs : HS X.K X.mg ρ h H) (r1 : Rp X.K X.mg ρ H x v) (q1 : RelV v v') (r2 : Rp X.K X.mg ρ H y u) (q2 : RelV u u')
    (e : evCmp P h o x y = some b) (q : Q (.bl b) H) : wpAny (model X.prog X.w) X.A (compareOp o v' u') (EP X pins σ Q) X.xe s := by
  unfold evCmp at e
  split at e
  · exact eq_ok hr I hs r1 q1 r2 q2 e q
  · simp only [Option.map_eq_some_iff] at e
    obtain ⟨c, e, rfl⟩ := e
    exact ne_ok hr I hs r1 q1 r2 q2 e q
  · unfold evLt at e
    split at e
    · cases e
      cases r1; cases r2
      exact L2.op_lt pins s σ H _ _ _ _ Q I q1 q2 ⟨_, _, rfl, rfl, q⟩
    · cases e
  · split at e
    · cases e
      cases r1; cases r2
      exact L2.op_le pins s σ H _ _ _ _ Q I q1 q2 ⟨_, _, rfl, rfl, q⟩
    · cases e
  · split at e
    · cases e
      cases r1; cases r2
      exact L2.op_gt pins s σ H _ _ _ _ Q I q1 q2 ⟨_, _, rfl, rfl, q⟩
    · cases e
  · split at e
    · cases e
      cases r1; cases r2
      exact L2.op_ge pins s σ H _ _ _ _ Q I q1 q2 ⟨_, _, rfl, rfl, q⟩
    · cases e
  · split at e
    · cases e
      cases r1; cases r2
      exact L2.op_isN pins s σ H _ _ _ _ Q I q1 q2 ⟨rfl, by simpa using q⟩
    · rename_i hx
      cases e
      cases r2
      exact L2.op_isN pins s σ H _ _ _ _ Q I q1 q2 ⟨rfl, by rw [not_non (fun z => hx z) r1]; exact q⟩
    · cases e
      cases r1; cases r2
      exact L2.op_isBl pins s σ H _ _ _ _ Q I q1 q2 ⟨_, _, rfl, rfl, by rw [Bool.beq_eq_decide_eq] at q; exact q⟩
    · cases e
  · split at e
    · cases e
      cases r1; cases r2
      exact L2.op_notN pins s σ H _ _ _ _ Q I q1 q2 ⟨rfl, by simpa using q⟩
    · rename_i hx
      cases e
      cases r2
      exact L2.op_notN pins s σ H _ _ _ _ Q I q1 q2 ⟨rfl, by rw [not_non (fun z => hx z) r1]; exact q⟩
    · cases e
      cases r1; cases r2
      exact L2.op_notBl pins s σ H _ _ _ _ Q I q1 q2 ⟨_, _, rfl, rfl, by rw [Bool.beq_eq_decide_eq] at q; exact q⟩
    · cases e
  · exact (in_ok hr M I hs r1 q1 r2 q2 e).1 q
  · simp only [Option.map_eq_some_iff] at e
    obtain ⟨c, e, rfl⟩ := e
    exact (in_ok hr M I hs r1 q1 r2 q2 e).2 q

/-! ### places -/
theorem atI_rel {ds : List D} {vs : List V} {i : Int} {d : D} (l : RpL X.K X.mg ρ H ds vs) (e : L2.atI ds i = some d) : ∃ v, L2.atI vs i = some v ∧ Rp X.K X.mg ρ H d v := by
  unfold L2.atI at e ⊢
  rw [l.length] at e
  cases hx : L2.ixN vs.length i with
  | none => rw [hx] at e; cases e
  | some j =>
    rw [hx] at e
    exact l.get e
/-- what o[i] asks -/
def rIxE (X : L2.Cx) (P : Prog) : L2.R2 := fun v u H Q => ∃ ρ h x y d, HS X.K X.mg ρ h H ∧ Rp X.K X.mg ρ H x v ∧ Rp X.K X.mg ρ H y u ∧ evIx P x y h = some d ∧ ∀ z, Rp X.K X.mg ρ H d z → Q z H
theorem ix_ok (M : MOk X.K X.mg X.w P) : L2.IxR X (rIxE X P) := by
  intro value slice pins s σ H v u v' u' Q I q1 q2 hq hsl
  obtain ⟨ρ, h, x, y, d, hs, r1, r2, e, q⟩ := hq
  unfold evIx at e
  split at e
  · split at e
    · rename_i hz
      simp only [Option.map_eq_some_iff] at e
      obtain ⟨c, e, rfl⟩ := e
      cases r1; cases r2
      exact L2.ix_str value slice pins s σ H _ _ _ _ Q I q1 q2 ⟨_, _, _, rfl, rfl, hz, e, q _ (.str _)⟩ hsl
    · cases e
  · simp only [Option.bind_eq_some_iff] at e
    obtain ⟨kvs, hm, _⟩ := e
    exact (M.md _ _ hm).elim
  · split at e
    · rename_i c k xs hc
      split at e
      · cases r1 with
        | ref ea =>
          cases r2
          cases hs.cell _ _ _ hc ea with
          | lst hl l =>
            obtain ⟨z, ez, rz⟩ := atI_rel l e
            exact L2.ix_list value slice pins s σ H _ _ _ _ Q I q1 q2 ⟨_, _, _, _, rfl, rfl, SqL.of hl, ez, q _ rz⟩ hsl
      · cases e
    · cases e
  · cases r1 with
    | tup ht l =>
      cases r2
      obtain ⟨z, ez, rz⟩ := atI_rel l e
      exact L2.ix_tup value slice pins s σ H _ _ _ _ Q I q1 q2 ⟨_, _, _, _, rfl, rfl, ht, ez, q _ rz⟩ hsl
  · cases r1 with
    | fl ht l =>
      cases r2
      obtain ⟨z, ez, rz⟩ := atI_rel l e
      exact L2.ix_list value slice pins s σ H _ _ _ _ Q I q1 q2 ⟨_, _, _, _, rfl, rfl, ht.sql, ez, q _ rz⟩ hsl
  · cases e
/-! ### slices -/
theorem RpL.cut {ds : List D} {vs : List V} (lo hi : Option Int) (l : RpL X.K X.mg ρ H ds vs) : RpL X.K X.mg ρ H (cut ds lo hi) (L2.cutV vs lo hi) := by
  unfold Ev.cut L2.cutV
  rw [l.length]
  exact (l.drop _).take _
def rSlE (X : L2.Cx) (W : WX) (σ : L2.St) : V → Option Int → Option Int → Hp → VK → Prop := fun v lo hi H Q => ∃ ρ h x, HS X.K X.mg ρ h H ∧ Rp X.K X.mg ρ H x v ∧ FinE X W ρ σ H Q (evSl x lo hi h)
theorem sl_ok : L2.SlR X (rSlE X W σ) := by
  intro pins s σ' H v v' vl vu lo hi sl Q I q1 hsl pl pu hq
  obtain ⟨ρ, h, x, hs, r, f⟩ := hq
  unfold evSl at f
  split at f
  · split at f
    · rename_i z hz
      cases r
      refine L2.sl_str pins s σ' H _ _ vl vu lo hi sl Q I q1 hsl pl pu ⟨_, rfl, hz, ?_⟩
      exact f.ok hs (.str _)
    · exact f.elim
  · cases r with
    | @tup ds a vs ht l =>
      refine L2.sl_tupA pins s σ' H _ _ vl vu lo hi sl Q I q1 hsl pl pu ⟨_, _, rfl, ht, fun e => ?_, fun _ p hp => fin_tup f hs (l.cut lo hi) hp⟩
      have lc := l.cut lo hi
      rw [show L2.cutV vs lo hi = vs by unfold L2.cutV; rw [e.1, e.2]; simp] at lc
      exact f.ok hs (.tup ht lc)
  · cases r with
    | fl ht l => exact L2.sl_list pins s σ' H _ _ vl vu lo hi sl Q I q1 hsl pl pu ⟨_, _, rfl, ht.sql, fun p hp => fin_lst f hs (l.cut lo hi) hp⟩
  · split at f
    · rename_i c xs hc
      cases r with
      | ref ea =>
        cases hs.cell _ _ _ hc ea with
        | lst hl l => exact L2.sl_list pins s σ' H _ _ vl vu lo hi sl Q I q1 hsl pl pu ⟨_, _, rfl, SqL.of hl, fun p hp => fin_lst f hs (l.cut lo hi) hp⟩
    · exact f.elim
  · exact f.elim
end
end Ev
end
section
set_option Elab.async false
set_option linter.all false
set_option maxRecDepth 100000
set_option maxHeartbeats 1000000
/-! Snd3: built-in functions and methods. -/
namespace Ev
open PySem PySem.Spec
open L2 (V Hp HO upd upd_same upd_ne SqT SqL Rd Key RelV Vals VK WX TE PE XK Inv EP TP)

/-- what a built-in stands for -/
def biVal : BI → Option Value
  | .len => some (.builtin "len") | .min2 => some (.builtin "min") | .max2 => some (.builtin "max") | .min1 => some (.builtin "min") | .max1 => some (.builtin "max")
  | .sum => some (.builtin "sum") | .any => some (.builtin "any") | .all => some (.builtin "all") | .sorted => some (.builtin "sorted")
  | .list => some (.type "list") | .tuple => some (.type "tuple") | .dict => some (.type "dict") | .int => some (.type "int") | .str => some (.type "str")
  | .isinst => some (.builtin "isinstance") | .repr => some (.builtin "repr") | _ => none
section
variable {X : L2.Cx} {pins : List (Addr × Obj)} {s : Shared} {σ : L2.St} {H : Hp} {Q : VK} {W : WX} {ρ : List Addr} {h : Hd} {P : Prog}
theorem L2v.one {v : V} {us : List Value} (r : Vals [v] us) : ∃ u, us = [u] ∧ RelV v u := by
  cases r with
  | cons a b => cases b; exact ⟨_, rfl, a⟩
theorem one_of {d : D} {vs : List V} (r : RpL X.K X.mg ρ H [d] vs) : ∃ v, vs = [v] ∧ Rp X.K X.mg ρ H d v := by
  cases r with
  | cons a b => cases b; exact ⟨_, rfl, a⟩
theorem two_of {d e : D} {vs : List V} (r : RpL X.K X.mg ρ H [d, e] vs) : ∃ v u, vs = [v, u] ∧ Rp X.K X.mg ρ H d v ∧ Rp X.K X.mg ρ H e u := by
  cases r with
  | cons a b =>
    cases b with
    | cons b c => cases c; exact ⟨_, _, rfl, a, b⟩
/-- the items of a sequence -/
theorem items_of {d : D} {v : V} {ys : List D} (hs : HS X.K X.mg ρ h H) (r : Rp X.K X.mg ρ H d v) (e : items h d = some ys) :
    ∃ a vs, v = .ref a ∧ RpL X.K X.mg ρ H ys vs ∧ (SqL X.K H a vs ∨ SqT X.K H a vs) ∧ (∀ zs, d = .tup zs → SqT X.K H a vs) ∧ ((∀ zs, d ≠ .tup zs) → SqL X.K H a vs) := by
  unfold items at e
  split at e
  · cases e
    cases r with
    | tup ht l => exact ⟨_, _, rfl, l, .inr ht, fun _ _ => ht, fun z => absurd rfl (z _)⟩
  · cases e
    cases r with
    | fl ht l => exact ⟨_, _, rfl, l, .inl ht.sql, (fun _ z => by cases z), fun _ => ht.sql⟩
  · split at e
    · rename_i hc
      cases e
      cases r with
      | ref ea =>
        cases hs.cell _ _ _ hc ea with
        | lst hl l => exact ⟨_, _, rfl, l, .inl (SqL.of hl), (fun _ z => by cases z), fun _ => SqL.of hl⟩
    · cases e
  · cases e
theorem lst_of {d : D} {v : V} {ys : List D} (hs : HS X.K X.mg ρ h H) (r : Rp X.K X.mg ρ H d v) (e : lstOf h d = some ys) : ∃ a vs, v = .ref a ∧ RpL X.K X.mg ρ H ys vs ∧ H a = some (.lst vs) := by
  unfold lstOf at e
  split at e
  · split at e
    · rename_i hc
      cases e
      cases r with
      | ref ea =>
        cases hs.cell _ _ _ hc ea with
        | lst hl l => exact ⟨_, _, rfl, l, hl⟩
    · cases e
  · cases e
theorem ints_of : ∀ {ds : List D} {vs : List V} {ns : List Int}, RpL X.K X.mg ρ H ds vs → dInts ds = some ns → vs = ns.map V.int := by
  intro ds
  induction ds with
  | nil => intro vs ns r e; cases r; simp [dInts] at e; subst e; rfl
  | cons d ds ih =>
    intro vs ns r e
    cases d with
    | int i =>
      simp only [dInts, Option.map_eq_some_iff] at e
      obtain ⟨ms, e, rfl⟩ := e
      cases r with
      | cons a b => cases a; simp [ih b e]
    | _ => simp [dInts] at e
theorem bools_of : ∀ {ds : List D} {vs : List V} {ns : List Bool}, RpL X.K X.mg ρ H ds vs → dBools ds = some ns → vs = ns.map V.bl := by
  intro ds
  induction ds with
  | nil => intro vs ns r e; cases r; simp [dBools] at e; subst e; rfl
  | cons d ds ih =>
    intro vs ns r e
    cases d with
    | bl i =>
      simp only [dBools, Option.map_eq_some_iff] at e
      obtain ⟨ms, e, rfl⟩ := e
      cases r with
      | cons a b => cases a; simp [ih b e]
    | _ => simp [dBools] at e
theorem texts_of : ∀ {ds : List D} {vs : List V} {ns : List Str}, RpL X.K X.mg ρ H ds vs → dTexts ds = some ns → vs = ns.map V.str := by
  intro ds
  induction ds with
  | nil => intro vs ns r e; cases r; simp [dTexts] at e; subst e; rfl
  | cons d ds ih =>
    intro vs ns r e
    cases d with
    | str i =>
      simp only [dTexts, Option.map_eq_some_iff] at e
      obtain ⟨ms, e, rfl⟩ := e
      cases r with
      | cons a b => cases a; simp [ih b e]
    | _ => simp [dTexts] at e
theorem rpl_ints : ∀ (ns : List Int), RpL X.K X.mg ρ H (ns.map .int) (ns.map V.int)
  | [] => .nil
  | n :: ns => .cons (.int n) (rpl_ints ns)

/-! ### isinstance -/
/-- a class as HandS has it -/
theorem cls_ty {n : String} {v : V} (r : Rp X.K X.mg ρ H (.ty n) v) : v = .ty n := by cases r; rfl
theorem is_one {d t : D} {v c : V} {b : Bool} (hs : HS X.K X.mg ρ h H) (r : Rp X.K X.mg ρ H d v) (rt : Rp X.K X.mg ρ H t c) (e : isOne P h d t = some b) :
    ∃ (ty u : Value), L2.ClsV c u ∧ L2.TyX X.K H v ty ∧ PySem.W.kitOne X.K ty u = some b := by
  unfold isOne at e
  split at e
  · cases cls_ty rt
    cases r
    split at e
    · rename_i hn
      cases e
      refine ⟨_, _, .ty _, .base .non, ?_⟩
      rcases hn with rfl | rfl | rfl | rfl | rfl <;> rfl
    · cases e
  · cases cls_ty rt
    cases r
    split at e
    · rename_i hn
      cases e
      refine ⟨_, _, .ty _, .base (.bl _), ?_⟩
      rcases hn with rfl | rfl <;> rfl
    · split at e
      · rename_i hn
        cases e
        refine ⟨_, _, .ty _, .base (.bl _), ?_⟩
        rcases hn with rfl | rfl | rfl <;> rfl
      · cases e
  · cases cls_ty rt
    cases r
    split at e
    · rename_i hn
      cases e
      refine ⟨_, _, .ty _, .base (.int _), ?_⟩
      subst hn
      rfl
    · split at e
      · rename_i hn
        cases e
        refine ⟨_, _, .ty _, .base (.int _), ?_⟩
        rcases hn with rfl | rfl | rfl | rfl <;> rfl
      · cases e
  · cases cls_ty rt
    cases r
    split at e
    · rename_i hn
      cases e
      refine ⟨_, _, .ty _, .base (.str _), ?_⟩
      subst hn
      rfl
    · split at e
      · rename_i hn
        cases e
        refine ⟨_, _, .ty _, .base (.str _), ?_⟩
        rcases hn with rfl | rfl | rfl | rfl <;> rfl
      · cases e
  · cases cls_ty rt
    cases r with
    | @tup _ a vs ht l =>
      have ty : L2.TyX X.K H (.ref a) (.type "tuple") := by
        rcases ht with (ht | ⟨o, ht⟩) | ⟨o, _, _, hk, hc, _⟩
        · exact .base (.tup ht)
        · exact .fTuple ht
        · exact .kTuple hk hc
      refine ⟨_, _, .ty _, ty, ?_⟩
      split at e
      · rename_i hn
        cases e
        subst hn
        rfl
      · split at e
        · rename_i hn
          cases e
          rcases hn with rfl | rfl | rfl | rfl <;> rfl
        · cases e
  · cases cls_ty rt
    split at e
    · rename_i hc
      cases r with
      | ref ea =>
        cases hs.cell _ _ _ hc ea with
        | lst hl l =>
          refine ⟨_, _, .ty _, .base (.lst hl), ?_⟩
          split at e
          · rename_i hn
            cases e
            subst hn
            rfl
          · split at e
            · rename_i hn
              cases e
              rcases hn with rfl | rfl | rfl | rfl <;> rfl
            · cases e
    · rename_i hc
      cases r with
      | ref ea =>
        cases hs.cell _ _ _ hc ea with
        | dK hl _ _ =>
          refine ⟨_, _, .ty _, .base (.dK hl), ?_⟩
          split at e
          · rename_i hn
            cases e
            rcases hn with rfl | rfl | rfl | rfl | rfl <;> rfl
          · cases e
    · cases e
  · cases e

/-! ### built-in functions -/
theorem repr_ref {d : D} {p : PyData} {a : Addr} {k : Nat} (hr : RoomE k X.A) (I : Inv X pins σ H s) (hs : HS X.K X.mg ρ h H) (r : Rp X.K X.mg ρ H d (.ref a)) (e : toP h DEPTH d = some p) (h1 : p.showable = true) (h2 : (PyData.shown p).length ≤ sizeLine) (q : Q (.str (PyData.shown p)) H) :
    wpAny (model X.prog X.w) X.A (call (.builtin "repr") [.ref a]) (EP X pins σ Q) X.xe s := by
  obtain ⟨as, a1, a2, a3, a4⟩ := reads_of I hs r rfl e
  have hu := hr.u
  have hD : DEPTH = 12 := rfl
  exact repr_of_reads' a1 h1 (fun z => by rw [a4] at z; cases z) hr.gd (by omega) (fun b o e => e) (fun h' u tk kp => ⟨.str _, H, I.kept kp, ⟨u, rfl⟩, q⟩) h2
theorem repr_ok {d : D} {p : PyData} {v : V} {u : Value} {k : Nat} (hr : RoomE k X.A) (I : Inv X pins σ H s) (hs : HS X.K X.mg ρ h H) (r : Rp X.K X.mg ρ H d v) (q1 : RelV v u) (e : toP h DEPTH d = some p) (h1 : p.showable = true) (h2 : (PyData.shown p).length ≤ sizeLine) (q : Q (.str (PyData.shown p)) H) :
    wpAny (model X.prog X.w) X.A (call (.builtin "repr") [u]) (EP X pins σ Q) X.xe s := by
  cases r with
  | non =>
    cases q1
    simp [toP, DEPTH] at e
    subst e
    exact P.repr_of_none ⟨.str _, H, I.tok _, ⟨_, rfl⟩, q⟩
  | bl b =>
    cases q1
    simp [toP, DEPTH] at e
    subst e
    exact P.repr_of_bool ⟨.str _, H, I.tok _, ⟨_, rfl⟩, q⟩
  | int i =>
    obtain ⟨t, rfl⟩ := q1
    simp [toP, DEPTH] at e
    subst e
    refine P.repr_of_int ?_ ⟨.str _, H, I.tok _, ⟨_, rfl⟩, q⟩
    simpa [PyData.showable] using h1
  | str x =>
    obtain ⟨t, rfl⟩ := q1
    simp [toP, DEPTH] at e
    subst e
    exact P.repr_of_str ⟨.str _, H, I.tok _, ⟨_, rfl⟩, q⟩ h2
  | tup a b =>
    cases q1
    exact repr_ref hr I hs (.tup a b) e h1 h2 q
  | fl a b =>
    cases q1
    exact repr_ref hr I hs (.fl a b) e h1 h2 q
  | ref a =>
    cases q1
    exact repr_ref hr I hs (.ref a) e h1 h2 q
  | glob a => simp [toP, DEPTH] at e
  | ty n => simp [toP, DEPTH] at e
/-- list of a text -/
theorem list_str {z : Str} {t : Tok} (hc : X.calm = true) (I : Inv X pins σ H s) (hs : HS X.K X.mg ρ h H) (hz : z.length ≤ LIM)
    (fe : FinE X W ρ σ H Q (new (.lst (z.cps.toList.map fun c => .str ⟨#[c]⟩)) h)) : wpAny (model X.prog X.w) X.A (call (.type "list") [.str z t]) (EP X pins σ Q) X.xe s := by
  have hz' : z.cps.size ≤ sizeLine := lim_line hz
  refine call_list_str (I.ok.hd hc) z t (fun h' tk acc' c' kp hS hacc => ?_) hz'
  have rv : Vals (z.cps.toList.map fun c => V.str ⟨#[c]⟩) acc'.toList := by
    refine L2.vals_of_at (by simp [hacc.1]) fun j x w h1 h2 => ?_
    obtain ⟨c, u, e1, e2⟩ := hacc.2 j w (by rw [← Array.getElem?_toList]; exact h2)
    rw [List.getElem?_map, Array.getElem?_toList, e1] at h1
    simp at h1
    subst h1; subst e2
    exact ⟨u, rfl⟩
  refine ⟨.ref s.heap.objs.size, _, I.laid kp (Nat.le_refl _) (show L2.ObjOk X.prog X.w _ _ _ (.lst (z.cps.toList.map fun c => V.str ⟨#[c]⟩)) from ⟨by simpa using hz', acc'.toList, c', rv, ?_⟩), rfl, ?_⟩
  · rw [Array.toArray_toList]; exact hS
  · refine fin_lst fe hs ?_ (I.hok.fresh (Nat.le_refl _))
    have : ∀ l : List Nat, RpL X.K X.mg ρ H (l.map fun c => D.str ⟨#[c]⟩) (l.map fun c => V.str ⟨#[c]⟩) := by
      intro l
      induction l with
      | nil => exact .nil
      | cons c l ih => exact .cons (.str _) ih
    exact this _
theorem bi_ok {b : BI} {f : Value} {ds : List D} {vs : List V} {us : List Value} {k : Nat} (hr : RoomE k X.A) (hc : X.calm = true) (hf : biVal b = some f) (I : Inv X pins σ H s) (hs : HS X.K X.mg ρ h H) (r : RpL X.K X.mg ρ H ds vs) (q1 : Vals vs us)
    (fe : FinE X W ρ σ H Q (evBI P b ds h)) : wpAny (model X.prog X.w) X.A (call f us) (EP X pins σ Q) X.xe s := by
  unfold evBI at fe
  split at fe
  · -- len
    cases hf
    rename_i d
    obtain ⟨v, rfl, r1⟩ := one_of r
    split at fe
    · split at fe
      · rename_i hz
        cases r1
        exact L2.call_len pins s σ H _ _ Q I q1 ⟨_, _, rfl, ⟨hz, rfl⟩, fe.ok hs (.int _)⟩
      · exact fe.elim
    · obtain ⟨z, e, q⟩ := fe.of hs
      simp only [Option.map_eq_some_iff] at e
      obtain ⟨ys, e, rfl⟩ := e
      obtain ⟨a, ws, rfl, l, hq, _, _⟩ := items_of hs r1 e
      exact L2.call_len_seq pins s σ H _ _ Q I q1 ⟨a, ws, rfl, hq, by rw [← l.length]; exact q _ (.int _)⟩
  · cases hf
    obtain ⟨v, u, rfl, r1, r2⟩ := two_of r
    cases r1; cases r2
    exact L2.call_min2 hc pins s σ H _ _ Q I q1 ⟨_, _, rfl, fe.ok hs (.int _)⟩
  · cases hf
    obtain ⟨v, u, rfl, r1, r2⟩ := two_of r
    cases r1; cases r2
    exact L2.call_max2 hc pins s σ H _ _ Q I q1 ⟨_, _, rfl, fe.ok hs (.int _)⟩
  · -- sum
    cases hf
    obtain ⟨v, rfl, r1⟩ := one_of r
    obtain ⟨z, e, q⟩ := fe.of hs
    simp only [Option.bind_eq_some_iff, Option.map_eq_some_iff] at e
    obtain ⟨ys, e, ns, e2, rfl⟩ := e
    obtain ⟨a, ws, rfl, l, hl⟩ := lst_of hs r1 e
    cases ints_of l e2
    exact L2.cr_sum hc pins s σ H _ _ Q I q1 ⟨_, _, rfl, SqL.of hl, q _ (.int _)⟩
  · cases hf
    obtain ⟨v, rfl, r1⟩ := one_of r
    obtain ⟨z, e, q⟩ := fe.of hs
    simp only [Option.bind_eq_some_iff, Option.map_eq_some_iff] at e
    obtain ⟨ys, e, ns, e2, rfl⟩ := e
    obtain ⟨a, ws, rfl, l, hl⟩ := lst_of hs r1 e
    cases bools_of l e2
    exact L2.cr_any hc pins s σ H _ _ Q I q1 ⟨_, _, rfl, SqL.of hl, q _ (.bl _)⟩
  · cases hf
    obtain ⟨v, rfl, r1⟩ := one_of r
    obtain ⟨z, e, q⟩ := fe.of hs
    simp only [Option.bind_eq_some_iff, Option.map_eq_some_iff] at e
    obtain ⟨ys, e, ns, e2, rfl⟩ := e
    obtain ⟨a, ws, rfl, l, hl⟩ := lst_of hs r1 e
    cases bools_of l e2
    exact L2.cr_all hc pins s σ H _ _ Q I q1 ⟨_, _, rfl, SqL.of hl, q _ (.bl _)⟩
  · -- list
    cases hf
    obtain ⟨v, rfl, r1⟩ := one_of r
    split at fe
    · split at fe
      · rename_i hz
        cases r1
        obtain ⟨u, rfl, ru⟩ := L2v.one q1
        obtain ⟨t, rfl⟩ := ru
        exact list_str hc I hs hz fe
      · exact fe.elim
    · split at fe
      · rename_i hc2
        cases r1 with
        | ref ea =>
          cases hs.cell _ _ _ hc2 ea with
          | lst hl l => exact L2.call_list_of pins s σ H _ _ Q I q1 ⟨_, _, rfl, .inl (SqL.of hl), fun p hp => fin_lst fe hs l hp⟩
      · exact fe.elim
    · cases r1 with
      | tup ht l => exact L2.call_list_of pins s σ H _ _ Q I q1 ⟨_, _, rfl, .inr ht, fun p hp => fin_lst fe hs l hp⟩
    · exact fe.elim
  · -- tuple
    cases hf
    obtain ⟨v, rfl, r1⟩ := one_of r
    unfold R.of at fe
    split at fe
    · rename_i z e
      simp only [Option.map_eq_some_iff] at e
      obtain ⟨ys, e, rfl⟩ := e
      obtain ⟨a, ws, rfl, l, hq, h1, h2⟩ := items_of hs r1 e
      rcases hq with hq | hq
      · exact L2.call_tuple_of pins s σ H _ _ Q I q1 ⟨_, _, rfl, .inl ⟨hq, fun p hp => fin_tup fe hs l hp⟩⟩
      · exact L2.call_tuple_of pins s σ H _ _ Q I q1 ⟨_, _, rfl, .inr ⟨hq, fe.ok hs (.tup hq l)⟩⟩
    · exact fe.elim
  · cases hf
    obtain ⟨v, rfl, r1⟩ := one_of r
    cases r1
    exact L2.call_int1 pins s σ H _ _ Q I q1 (.inr ⟨_, rfl, fe.ok hs (.int _)⟩)
  · cases hf
    obtain ⟨v, rfl, r1⟩ := one_of r
    cases r1
    exact L2.call_int1 pins s σ H _ _ Q I q1 (.inl ⟨_, rfl, fe.ok hs (.int _)⟩)
  · cases hf
    obtain ⟨v, rfl, r1⟩ := one_of r
    cases r1
    split at fe
    · rename_i hz
      obtain ⟨z, e, q⟩ := fe.of hs
      simp only [Option.map_eq_some_iff] at e
      obtain ⟨n, e, rfl⟩ := e
      exact L2.call_int_str pins s σ H _ _ Q I q1 ⟨_, _, rfl, e, hz, q _ (.int _)⟩
    · exact fe.elim
  · cases hf
    obtain ⟨v, rfl, r1⟩ := one_of r
    cases r1
    split at fe
    · rename_i hz
      exact L2.call_str_int pins s σ H _ _ Q I q1 ⟨_, rfl, hz, fe.ok hs (.str _)⟩
    · exact fe.elim
  · cases hf
    obtain ⟨v, rfl, r1⟩ := one_of r
    cases r1
    exact SkE.call_str_str pins s σ H _ _ Q I q1 ⟨_, rfl, fe.ok hs (.str _)⟩
  · -- isinstance
    cases hf
    obtain ⟨v, u, rfl, r1, r2⟩ := two_of r
    obtain ⟨z, e, q⟩ := fe.of hs
    simp only [Option.map_eq_some_iff] at e
    obtain ⟨b, e, rfl⟩ := e
    unfold evIs at e
    · obtain ⟨ty, w, c1, c2, c3⟩ := is_one hs r1 r2 e
      exact L2.call_isi pins s σ H _ _ Q I q1 ⟨_, _, _, _, _, rfl, c1, c2, c3, q _ (.bl _)⟩
  · -- repr
    cases hf
    obtain ⟨v, rfl, r1⟩ := one_of r
    obtain ⟨z, e, q⟩ := fe.of hs
    unfold evRepr at e
    simp only [Option.bind_eq_some_iff] at e
    obtain ⟨p, e, e2⟩ := e
    split at e2
    · rename_i hfit
      cases e2
      unfold fits at hfit
      rw [Bool.and_eq_true] at hfit
      obtain ⟨u, rfl, ru⟩ := L2v.one q1
      exact repr_ok hr I hs r1 ru e hfit.1 (of_decide_eq_true hfit.2) (q _ (.str _))
    · cases e2
  · exact fe.elim
end
end Ev
end
section
set_option Elab.async false
set_option linter.all false
set_option maxRecDepth 100000
set_option maxHeartbeats 1000000
/-! Snd4: built-in methods; attributes; what is stored in lists and instances; reversed copies. -/
namespace Ev
open PySem PySem.Spec
open L2 (V Hp HO upd upd_same upd_ne SqT SqL Rd Key RelV Vals VK WX TE PE XK Inv EP TP)
section
variable {X : L2.Cx} {pins : List (Addr × Obj)} {s : Shared} {σ : L2.St} {H : Hp} {Q : VK} {W : WX} {ρ : List Addr} {h : Hd} {P : Prog}
/-- a cell that is rewritten as a list -/
theorem fin_set {c : Nat} {a : Addr} {o : HO} {ds : List D} {vs : List V} {d : D} {v : V} (f : FinE X W ρ σ H Q (.ok d (h.set c (.lst ds)))) (hs : HS X.K X.mg ρ h H) (ea : ρ[c]? = some a) (ha : H a = some o) (hi : ¬ Imm o)
    (r : RpL X.K X.mg ρ H ds vs) (rd : Rp X.K X.mg ρ H d v) : Q v (upd H a (.lst vs)) :=
  f ρ _ _ (Ext.set ea ha hi) (hs.set ea ha hi (.lst upd_same (r.mono (Ext.set ea ha hi)))) (rd.mono (Ext.set ea ha hi))
theorem lst_at {c : Nat} {xs : List D} {v : V} (hs : HS X.K X.mg ρ h H) (r : Rp X.K X.mg ρ H (.ref c) v) (hc : h[c]? = some (.lst xs)) : ∃ a vs, v = .ref a ∧ ρ[c]? = some a ∧ H a = some (.lst vs) ∧ RpL X.K X.mg ρ H xs vs := by
  cases r with
  | ref ea =>
    cases hs.cell _ _ _ hc ea with
    | lst hl l => exact ⟨_, _, rfl, ea, hl, l⟩
theorem rcv_ok {m : BM} {x : D} {v : V} (hs : HS X.K X.mg ρ h H) (r : Rp X.K X.mg ρ H x v) (e : rcv m x h = true) :
    PlainAttrs (bmId m x).1 ∧ Slot (bmId m x).1 (bmName m) (bmId m x).2 ∧ typeOf (.builtin (bmId m x).2) = pure (.type "method_descriptor") ∧ L2.tyV X.K (bmId m x).1 v H := by
  have lst : ∀ {c : Nat}, x = .ref c → (match h[c]? with | some (.lst _) => true | _ => false) = true → L2.tyV X.K "list" v H := by
    intro c hx e'
    subst hx
    split at e'
    · rename_i xs hc
      obtain ⟨a, vs, rfl, _, hl, _⟩ := lst_at hs r hc
      exact .inl ⟨rfl, _, SqL.of hl⟩
    · cases e'
  unfold rcv at e
  split at e
  · cases r; exact ⟨PySem.F.plainAttrs_str, PySem.F.slot_str_count, PySem.F.type_str_count, rfl⟩
  · cases r; exact ⟨PySem.F.plainAttrs_str, PySem.F.slot_str_join, PySem.F.type_str_join, rfl⟩
  · cases r; exact ⟨PySem.F.plainAttrs_str, PySem.F.slot_str_split, PySem.F.type_str_split, rfl⟩
  · cases r; exact ⟨PySem.F.plainAttrs_str, PySem.F.slot_str_upper, PySem.F.type_str_upper, rfl⟩
  · exact ⟨PySem.F.plainAttrs_list, PySem.F.slot_list_append, PySem.F.type_list_append, lst rfl e⟩
  · exact ⟨PySem.F.plainAttrs_list, PySem.F.slot_list_extend, PySem.F.type_list_extend, lst rfl e⟩
  · exact ⟨PySem.F.plainAttrs_list, PySem.F.slot_list_pop, PySem.F.type_list_pop, lst rfl e⟩
  · exact ⟨PySem.F.plainAttrs_list, PySem.F.slot_list_pop, PySem.F.type_list_pop, lst rfl e⟩
  · exact ⟨PySem.F.plainAttrs_list, PySem.F.slot_list_insert, PySem.F.type_list_insert, lst rfl e⟩
  · exact ⟨PySem.F.plainAttrs_list, PySem.F.slot_list_count, PySem.F.type_list_count, lst rfl e⟩
  · exact ⟨PySem.F.plainAttrs_list, PySem.F.slot_list_index, PySem.F.type_list_index, lst rfl e⟩
  · exact ⟨PySem.F.plainAttrs_list, PySem.F.slot_list_reverse, PySem.F.type_list_reverse, lst rfl e⟩
  · cases e
theorem findIdx_ok {α : Type} {p : α → Bool} : ∀ {l : List α} {j : Nat}, l.findIdx? p = some j → ∃ z, l[j]? = some z ∧ p z = true ∧ ∀ (m : Nat) (z' : α), m < j → l[m]? = some z' → p z' = false := by
  intro l j e
  rw [List.findIdx?_eq_some_iff_getElem] at e
  obtain ⟨hj, e1, e2⟩ := e
  refine ⟨l[j], List.getElem?_eq_getElem hj, e1, fun m z' hm hz => ?_⟩
  have := e2 m hm
  obtain ⟨hl, rfl⟩ := List.getElem?_eq_some_iff.mp hz
  simpa using this
theorem bm_ok {m : BM} {x : D} {v : V} {v' : Value} {ds : List D} {vs : List V} {us : List Value} {k : Nat} (hr : RoomE k X.A) (I : Inv X pins σ H s) (hs : HS X.K X.mg ρ h H) (r : Rp X.K X.mg ρ H x v) (q1 : RelV v v')
    (rl : RpL X.K X.mg ρ H ds vs) (q2 : Vals vs us) (fe : FinE X W ρ σ H Q (evBM m x ds h)) : wpAny (model X.prog X.w) X.A (call (.builtin (bmId m x).2) (v' :: us)) (EP X pins σ Q) X.xe s := by
  have hu := hr.u
  have hD : DEPTH = 12 := rfl
  unfold evBM at fe
  split at fe
  · -- append
    obtain ⟨w, rfl, rw⟩ := one_of rl
    split at fe
    · rename_i ys hh
      split at fe
      · rename_i hz
        obtain ⟨a, ws, rfl, ea, hl, l⟩ := lst_at hs r hh
        exact L2.mt_append pins s σ H _ _ _ _ Q I q1 q2 ⟨a, ws, w, rfl, rfl, hl, by rw [← l.length]; have := lim_line (Nat.succ_le_of_lt hz); omega, fin_set fe hs ea hl (fun z => z) (l.snoc rw) .non⟩
      · exact fe.elim
    · exact fe.elim
  · -- extend
    obtain ⟨w, rfl, rw⟩ := one_of rl
    split at fe
    · rename_i ys zs hh he
      split at fe
      · rename_i hz
        obtain ⟨a, ws, rfl, ea, hl, l⟩ := lst_at hs r hh
        obtain ⟨b, us', rfl, eb, hl', l'⟩ := lst_at hs rw he
        exact L2.mt_extend pins s σ H _ _ _ _ Q I q1 q2 ⟨a, b, ws, us', rfl, rfl, hl, hl', by rw [← l.length, ← l'.length]; exact lim_line hz, fin_set fe hs ea hl (fun z => z) (l.append l') .non⟩
      · exact fe.elim
    · exact fe.elim
  · -- pop
    cases rl
    split at fe
    · rename_i ys hh
      split at fe
      · rename_i y hy
        obtain ⟨a, ws, rfl, ea, hl, l⟩ := lst_at hs r hh
        obtain ⟨w, e, rw⟩ := l.get hy
        exact L2.mt_pop pins s σ H _ _ _ _ Q I q1 q2 ⟨a, ws, w, rfl, rfl, hl, by rw [← l.length]; exact e, fin_set fe hs ea hl (fun z => z) l.dropLast rw⟩
      · exact fe.elim
    · exact fe.elim
  · -- popAt
    obtain ⟨w, rfl, rw⟩ := one_of rl
    cases rw
    split at fe
    · rename_i ys hh
      split at fe
      · rename_i hi
        split at fe
        · rename_i y hy
          obtain ⟨a, ws, rfl, ea, hl, l⟩ := lst_at hs r hh
          obtain ⟨w, e, rw⟩ := l.get hy
          have hlt := (List.getElem?_eq_some_iff.mp e).1
          exact L2.mt_popAt pins s σ H _ _ _ _ Q I q1 q2 ⟨a, ws, _, _, w, rfl, rfl, hl, by omega, by omega, seqIndex_of hi.1 (by omega), e, fin_set fe hs ea hl (fun z => z) (l.eraseIdx _) rw⟩
        · exact fe.elim
      · exact fe.elim
    · exact fe.elim
  · -- insert
    obtain ⟨w1, w, rfl, rw1, rw⟩ := two_of rl
    cases rw1
    split at fe
    · rename_i ys hh
      split at fe
      · rename_i hz
        obtain ⟨a, ws, rfl, ea, hl, l⟩ := lst_at hs r hh
        refine L2.mt_insert pins s σ H _ _ _ _ Q I q1 q2 ⟨a, ws, _, w, rfl, rfl, hl, by rw [← l.length]; have := lim_line (Nat.succ_le_of_lt hz.2.2); omega, hz.1, by have := hz.2.1; omega, ?_⟩
        refine fin_set fe hs ea hl (fun z => z) ?_ .non
        rw [List.append_assoc]
        exact (l.take _).append (.cons rw (l.drop _))
      · exact fe.elim
    · exact fe.elim
  · -- str.count
    obtain ⟨w, rfl, rw⟩ := one_of rl
    cases r; cases rw
    exact L2.mt_count pins s σ H _ _ _ _ Q I q1 q2 ⟨_, _, rfl, rfl, fe.ok hs (.int _)⟩
  · -- list.count
    rename_i c d
    obtain ⟨w, rfl, rw⟩ := one_of rl
    split at fe
    · rename_i ys hh
      obtain ⟨z, e, q⟩ := fe.of hs
      simp only [Option.bind_eq_some_iff, Option.map_eq_some_iff] at e
      obtain ⟨p, e1, qs, e2, rfl⟩ := e
      obtain ⟨a, ws, rfl, ea, hl, l⟩ := lst_at hs r hh
      obtain ⟨u, rfl, ru⟩ := L2v.one q2
      cases q1
      obtain ⟨as, a1, a2, a3, _⟩ := reads_of I hs rw ru e1
      obtain ⟨b1, b2, b3⟩ := toP_dpAll hs _ _ _ _ l e2
      obtain ⟨z', its, n, rv, hg⟩ := I.hok a _ hl
      obtain ⟨bs, z⟩ := L2.Dp.readsAll I qs _ its b1 rv
      exact PySem.SeqAt.count_list_data (vs := its.toArray) ⟨_, hg, rfl, n, rfl⟩ (by simpa using z) a1 b2 a2 (by omega) ⟨.int _, H, I.tok _, ⟨_, rfl⟩, q _ (.int _)⟩
    · exact fe.elim
  · -- index
    rename_i c d
    obtain ⟨w, rfl, rw⟩ := one_of rl
    split at fe
    · rename_i ys hh
      obtain ⟨z, e, q⟩ := fe.of hs
      simp only [Option.bind_eq_some_iff] at e
      obtain ⟨p, e1, qs, e2, e3⟩ := e
      split at e3
      · rename_i hsh
        simp only [Option.map_eq_some_iff] at e3
        obtain ⟨j, e3, rfl⟩ := e3
        obtain ⟨a, ws, rfl, ea, hl, l⟩ := lst_at hs r hh
        obtain ⟨b1, b2, b3⟩ := toP_dpAll hs _ _ _ _ l e2
        obtain ⟨c1, _, _, _⟩ := toP_dp hs _ _ _ _ rw e1
        obtain ⟨z, f1, f2, f3⟩ := findIdx_ok e3
        exact L2.mt_indexD (by omega) pins s σ H _ _ _ _ Q I q1 q2 ⟨a, w, p, qs, j, z, rfl, rfl, .lst (SqL.of hl) b1, c1, hsh.2, hsh.1, f1, f2, f3, q _ (.int _)⟩
      · cases e3
    · exact fe.elim
  · -- reverse
    cases rl
    split at fe
    · rename_i ys hh
      obtain ⟨a, ws, rfl, ea, hl, l⟩ := lst_at hs r hh
      exact L2.mt_reverse pins s σ H _ _ _ _ Q I q1 q2 ⟨a, ws, rfl, rfl, hl, fin_set fe hs ea hl (fun z => z) l.reverse .non⟩
    · exact fe.elim
  · -- join
    rename_i a d
    obtain ⟨w, rfl, rw⟩ := one_of rl
    obtain ⟨z, e, q⟩ := fe.of hs
    simp only [Option.bind_eq_some_iff] at e
    obtain ⟨ys, e1, ts, e2, e3⟩ := e
    split at e3
    · rename_i hz
      cases e3
      cases r
      obtain ⟨p, ws, rfl, l, hq, _, _⟩ := items_of hs rw e1
      cases texts_of l e2
      exact L2.mt_join pins s σ H _ _ _ _ Q I q1 q2 ⟨_, _, _, rfl, rfl, hq, by unfold LIM at hz; omega, q _ (.str _)⟩
    · cases e3
  · -- split
    obtain ⟨w, rfl, rw⟩ := one_of rl
    cases r; cases rw
    split at fe
    · rename_i hz
      have hz2 : _ ≤ 1048576 := hz.2
      exact L2.mt_split pins s σ H _ _ _ _ Q I q1 q2 ⟨_, _, rfl, rfl, hz.1, by rw [sizeLine_eq]; omega, fun p hp => fin_lst fe hs (RpL.strs _) hp⟩
    · exact fe.elim
  · -- upper
    cases rl
    cases r
    split at fe
    · rename_i hz
      have hz2 : _ ≤ 1048576 := hz
      exact L2.mt_upper pins s σ H _ _ _ _ Q I q1 q2 ⟨_, rfl, rfl, by omega, fe.ok hs (.str _)⟩
    · exact fe.elim
  · exact fe.elim

/-! ### attributes -/
/-- the classes, as the written part has them -/
structure COk (K : PySem.W.Frag) (mg : Str → Option Value) (P : Prog) : Prop where
  cls : ∀ k m C, P.fld k m = true → mg k = some (.ref C) → L2.Cls K C ∧ L2.NoAttr K C m
theorem att_ok {x d : D} {v : V} {v' : Value} {m : Str} (M : COk X.K X.mg P) (I : Inv X pins σ H s) (hs : HS X.K X.mg ρ h H) (r : Rp X.K X.mg ρ H x v) (q1 : RelV v v') (e : evAtt P x m h = some d) (q : ∀ z, Rp X.K X.mg ρ H d z → Q z H) :
    wpAny (model X.prog X.w) X.A (getAttr v' m true) (EP X pins σ Q) X.xe s := by
  unfold evAtt at e
  split at e
  · split at e
    · rename_i k fs hc
      split at e
      · rename_i hf
        cases r with
        | ref ea =>
          cases hs.cell _ _ _ hc ea with
          | ins hm hi f =>
            obtain ⟨c1, c2⟩ := M.cls _ _ _ hf hm
            obtain ⟨w, e2, rw⟩ := f.lookup e
            cases q1
            exact L2.getattr_ok I hi c1 c2 e2 fun u' s2 I2 ru => ⟨w, H, I2, ru, q _ rw⟩
      · cases e
    · cases e
  · cases e
theorem setAtt_ok {x d : D} {v w : V} {v' w' : Value} {m : Str} {h' : Hd} {Qh : Hp → Prop} (M : COk X.K X.mg P) (I : Inv X pins σ H s) (hs : HS X.K X.mg ρ h H) (r : Rp X.K X.mg ρ H x v) (q1 : RelV v v') (r2 : Rp X.K X.mg ρ H d w) (q2 : RelV w w')
    (e : setAtt P x m d h = some h') (q : ∀ H', Ext ρ H ρ H' → HS X.K X.mg ρ h' H' → Qh H') : wpAny (model X.prog X.w) X.A (setAttr v' m w') (fun _ s' => ∃ H', Inv X pins σ H' s' ∧ Qh H') X.xe s := by
  unfold setAtt at e
  split at e
  · split at e
    · rename_i k fs hc
      split at e
      · rename_i hf
        cases e
        cases r with
        | ref ea =>
          cases hs.cell _ _ _ hc ea with
          | ins hm hi f =>
            obtain ⟨c1, c2⟩ := M.cls _ _ _ hf.2 hm
            cases q1
            refine L2.setattr_ok I hi c1 c2 (by rw [← f.length]; omega) q2 fun s2 I2 => ⟨_, I2, ?_⟩
            exact q _ (Ext.set ea hi (fun z => z)) (hs.set ea hi (fun z => z) (.ins hm upd_same ((f.put r2).mono (Ext.set ea hi (fun z => z)))))
      · cases e
    · cases e
  · cases e
theorem setIx_ok {x i d : D} {v j w : V} {v' j' w' : Value} {h' : Hd} {Qh : Hp → Prop} (I : Inv X pins σ H s) (hs : HS X.K X.mg ρ h H) (r : Rp X.K X.mg ρ H x v) (q1 : RelV v v') (r1 : Rp X.K X.mg ρ H i j) (p1 : RelV j j') (r2 : Rp X.K X.mg ρ H d w) (q2 : RelV w w')
    (e : setIx x i d h = some h') (q : ∀ H', Ext ρ H ρ H' → HS X.K X.mg ρ h' H' → Qh H') : wpAny (model X.prog X.w) X.A (setItem v' j' w') (fun _ s' => ∃ H', Inv X pins σ H' s' ∧ Qh H') X.xe s := by
  unfold setIx at e
  split at e
  · split at e
    · rename_i xs hc
      split at e
      · simp only [Option.map_eq_some_iff] at e
        obtain ⟨n, e, rfl⟩ := e
        cases r1
        obtain ⟨a, ws, rfl, ea, hl, l⟩ := lst_at hs r hc
        refine L2.set_list pins s σ H _ _ _ _ _ _ _ I q1 p1 q2 ⟨a, ws, _, n, rfl, rfl, hl, by rw [← l.length]; exact e, ?_⟩
        have x := Ext.set (ρ := ρ) (o' := .lst (ws.set n w)) ea hl (fun z => z)
        exact q _ x (hs.set ea hl (fun z => z) (.lst upd_same ((RpL.set n r2 l).mono x)))
      · cases e
    · cases e
  · cases e
end
end Ev
end
section
set_option Elab.async false
set_option linter.all false
set_option maxRecDepth 100000
/-! Chk: does this IR stand for this piece of the text? (to be decided by the kernel, def by def) -/
namespace Ev
open PySem
def visB (sc : Scope) (x : Str) : Bool := match sc.names.lookup x with | some .local => true | some .cell => true | some .free => true | _ => false
def locB (sc : Scope) (x : Str) : Bool := match sc.names.lookup x with | some .local => true | some .cell => true | _ => false
def ownB (sc : Scope) (x : Str) : Bool := match sc.names.lookup x with | some .local => true | _ => false
def glB (sc : Scope) (x : Str) : Bool := match sc.names.lookup x with | some .globalImplicit => true | _ => false
def plainB (x : Str) : Bool := !(x == ("__debug__" : Str)) && !(x == ("__classdict__" : Str))
def tyOk (n : String) : Bool := ["int", "bool", "str", "tuple", "list", "ValueError", "LookupError", "TypeError", "ArithmeticError", "RuntimeError"].contains n
def notBare : Expr → Bool
  | .Call (.Name _ _) [] [] _ => false
  | _ => true
def isTupE : Expr → Bool
  | .Tuple _ _ _ => true
  | _ => false
def biName : BI → Str
  | .len => "len" | .min2 => "min" | .max2 => "max" | .min1 => "min" | .max1 => "max"
  | .sum => "sum" | .any => "any" | .all => "all" | .sorted => "sorted"
  | .list => "list" | .tuple => "tuple" | .dict => "dict" | .int => "int" | .str => "str"
  | .isinst => "isinstance" | .repr => "repr" | _ => ""
def biOk : BI → Bool
  | .len | .min2 | .max2 | .sum | .any | .all | .list | .tuple | .int | .str | .isinst | .repr => true
  | _ => false
def notTest : Expr → Bool
  | .UnaryOp .Not _ _ | .BoolOp _ _ _ | .IfExp _ _ _ _ | .Compare _ _ _ _ => false
  | _ => true
def okC (sc : Scope) : D → Expr → Bool
  | .non, .Constant .none _ _ => true
  | .bl b, .Constant (.bool c) _ _ => b == c
  | .int i, .Constant (.int j) _ _ => decide (i = j)
  | .str s, .Constant (.str t) _ _ => decide (s = t)
  | .ty n, .Name id _ => decide (id = Str.ofString n) && glB sc id && tyOk n
  | _, _ => false
/-- a dict of constants: none or one pair -/
def okKvs : List (D × D) → List (Option Expr) → List Expr → Bool
  | [], [], [] => true
  | [(.int i, .int v)], [some (.Constant (.int j) _ _)], [.Constant (.int w) _ _] => decide (i = j) && decide (v = w)
  | _, _, _ => false
def ownP (N : List Str) (own : List Nat) : List (Str × Nat) := own.map fun i => (N.getD i "", i)

mutual
def tgN : T → List Nat
  | .nm i => [i]
  | .tup ts => tgNs ts
  | _ => []
def tgNs : List T → List Nat
  | [] => []
  | t :: ts => tgN t ++ tgNs ts
end
def isMinus1 : Expr → Bool
  | .UnaryOp .USub (.Constant (.int 1) _ _) _ => true
  | _ => false
section
variable (P : Prog) (N : List Str) (hot : Bool)
mutual
def okE : E → Scope → Expr → Bool
  | .c d, sc, e => okC sc d e
  | .v i, sc, e => match e with
    | .Name id _ => decide (N[i]? = some id) && visB sc id && plainB id
    | _ => false
  | .gl x, sc, e => match e with
    | .Name id _ => decide (id = x) && glB sc x && P.gl x && plainB x
    | _ => false
  | .bin o a b, sc, e => match e with
    | .BinOp l o' r _ => decide (o = o') && okE a sc l && okE b sc r
    | _ => false
  | .neg a, sc, e => match e with
    | .UnaryOp .USub l _ => okE a sc l
    | _ => false
  | .nt a, sc, e => match e with
    | .UnaryOp .Not l _ => okE a sc l
    | _ => false
  | .bool o xs, sc, e => match e with
    | .BoolOp o' vs _ => decide (o = o') && okEs xs sc vs && !vs.isEmpty
    | _ => false
  | .cmp a os bs, sc, e => match e with
    | .Compare l os' cs _ => decide (os = os') && okE a sc l && okEs bs sc cs && decide (os.length = cs.length) && (os.length == 1 || os.length == 2)
    | _ => false
  | .ife t a b, sc, e => match e with
    | .IfExp c l r _ => okB t sc c && okE a sc l && okE b sc r
    | _ => false
  | .tup xs, sc, e => match e with
    | .Tuple es _ _ => okEs xs sc es
    | _ => false
  | .lst xs, sc, e => match e with
    | .List es _ => okEs xs sc es
    | _ => false
  | .dct kvs, sc, e => match e with
    | .Dict ks vs _ => okKvs kvs ks vs
    | _ => false
  | .call x xs, sc, e => match e with
    | .Call (.Name id _) as [] _ => decide (id = x) && glB sc x && okEs xs sc as && !hot && plainB x && (P.fn "" x).isSome && !P.hot x && !P.cls x
    | _ => false
  | .callv f xs, sc, e => match e with
    | .Call (.Subscript o i p) as [] _ => okE f sc (.Subscript o i p) && okEs xs sc as && !hot
    | .Call (.Name id p) as [] _ => okE f sc (.Name id p) && okEs xs sc as && !hot
    | _ => false
  | .bi b xs, sc, e => match e with
    | .Call (.Name id _) as [] _ => decide (id = biName b) && biOk b && glB sc id && okEs xs sc as && !hot && !as.isEmpty
    | _ => false
  | .bm m o xs, sc, e => match e with
    | .Call (.Attribute o' name ap) as [] cp => decide (name = bmName m) && okE o sc o' && okEs xs sc as && notBare o' && (ap.endLine == cp.line) && decide (as.length < 20)
    | _ => false
  | .meth o m xs, sc, e => match e with
    | .Call (.Attribute o' name ap) as [] cp => decide (name = m) && okE o sc o' && okEs xs sc as && notBare o' && (ap.endLine == cp.line) && decide (as.length < 20) && !hot && false
    | _ => false
  | .att o m, sc, e => match e with
    | .Attribute o' name _ => decide (name = m) && okE o sc o' && notBare o'
    | _ => false
  | .ix o i, sc, e => match e with
    | .Subscript o' i' _ => okE o sc o' && okE i sc i'
    | _ => false
  | .sl o lo hi, sc, e => match e with
    | .Subscript o' (.Slice l u none _) _ => okE o sc o' && okO lo sc l && okO hi sc u
    | _ => false
  | .rev o, sc, e => match e with
    | .Subscript o' (.Slice none none (some st) _) _ => okE o sc o' && isMinus1 st
    | _ => false
  | .lc elt tg it ifs own, sc, e => match e with
    | .ListComp elt' [⟨tg', iter', ifs', a⟩] scope _ => decide (a = 0) && !hot && L2.blkC N sc scope (ownP N own) && okI it sc tg' iter' && okT tg (L2.relS scope sc) tg' && (tgN tg).all (own.contains ·) && (own.all fun i => match N[i]? with | some id => locB scope id | none => false) &&
        okIf ifs (L2.relS scope sc) ifs' && okE elt (L2.relS scope sc) elt'
    | _ => false
  | .isE t, sc, e => match e with
    | .Call (.Name id _) [.Name v _, t'] [] _ => decide (id = ("isinstance" : Str)) && glB sc id && decide (N[0]? = some v) && visB sc v && plainB v && okE t sc t' && hot
    | _ => false
  | .attE m, sc, e => match e with
    | .Attribute (.Name v _) name _ => decide (name = m) && decide (N[0]? = some v) && visB sc v && plainB v && hot
    | _ => false
def okEs : List E → Scope → List Expr → Bool
  | [], _, es => es.isEmpty
  | x :: xs, sc, es => match es with
    | e :: es => okE x sc e && okEs xs sc es
    | [] => false
def okO : Option E → Scope → Option Expr → Bool
  | none, _, e => e.isNone
  | some x, sc, e => match e with
    | some e => okE x sc e
    | none => false
def okB : B → Scope → Expr → Bool
  | .val x, sc, e => okE x sc e && notTest e
  | .nt a, sc, e => match e with
    | .UnaryOp .Not l _ => okB a sc l
    | _ => false
  | .bool o xs, sc, e => match e with
    | .BoolOp o' vs _ => decide (o = o') && okBs xs sc vs
    | _ => false
  | .ife t a b, sc, e => match e with
    | .IfExp c l r _ => okB t sc c && okB a sc l && okB b sc r
    | _ => false
  | .cmp a os bs, sc, e => match e with
    | .Compare l os' cs _ => decide (os = os') && okE a sc l && okEs bs sc cs && decide (os.length = cs.length) && (os.length == 1 || os.length == 2)
    | _ => false
def okBs : List B → Scope → List Expr → Bool
  | [], _, es => es.isEmpty
  | x :: xs, sc, es => match es with
    | e :: es => okB x sc e && okBs xs sc es
    | [] => false
def okIf : Option B → Scope → List Expr → Bool
  | none, _, es => es.isEmpty
  | some x, sc, es => match es with
    | [e] => okB x sc e
    | _ => false
def okT : T → Scope → Expr → Bool
  | .nm i, sc, e => match e with
    | .Name id _ => decide (N[i]? = some id) && locB sc id
    | _ => false
  | .tup ts, sc, e => match e with
    | .Tuple es _ _ => okTs ts sc es && !hot
    | _ => false
  | .att o m, sc, e => match e with
    | .Attribute o' name _ => decide (name = m) && okE o sc o'
    | _ => false
  | .ix o i, sc, e => match e with
    | .Subscript o' i' _ => okE o sc o' && okE i sc i'
    | _ => false
def okTs : List T → Scope → List Expr → Bool
  | [], _, es => es.isEmpty
  | x :: xs, sc, es => match es with
    | e :: es => okT x sc e && okTs xs sc es
    | [] => false
def okI : IE → Scope → Expr → Expr → Bool
  | .val x, sc, tg, e => okE x sc e
  | .enm x, sc, tg, e => match e with
    | .Call (.Name id _) [a] [] _ => decide (id = ("enumerate" : Str)) && glB sc id && okE x sc a && isTupE tg
    | _ => false
  | .zip x y, sc, tg, e => false
  | .rng1 x, sc, tg, e => match e with
    | .Call (.Name id _) [a] [] _ => decide (id = ("range" : Str)) && glB sc id && okE x sc a
    | _ => false
  | .rng2 x y, sc, tg, e => match e with
    | .Call (.Name id _) [a, b] [] _ => decide (id = ("range" : Str)) && glB sc id && okE x sc a && okE y sc b
    | _ => false
  | .rng3 x y z, sc, tg, e => match e with
    | .Call (.Name id _) [a, b, c] [] _ => decide (id = ("range" : Str)) && glB sc id && okE x sc a && okE y sc b && okE z sc c
    | _ => false
  | .rvd x, sc, tg, e => false
end
/-- a statement that stores: is it of the forms that are covered? -/
def isLC : Expr → Bool
  | .ListComp _ _ _ _ => true
  | _ => false
/-- name = [..] on one line, the name a plain local: the stores are exchanged -/
def lcSwap (sc : Scope) (tg v : Expr) : Bool := match tg, v with
  | .Name id p, .ListComp _ _ scope p' => ownB sc id && (p.line == p'.line) && !(scope.names.any fun (n, k) => n == id && (k == .local || k == .cell))
  | _, _ => false
def nmsOf (sc : Scope) (line : Nat) (ts : List Expr) : List Str := ts.filterMap fun
  | .Name id pos => if sc.names.lookup id == some .local && pos.line == line then some id else none
  | _ => none
/-- a, b = x, y with plain locals on one line: stored from the right -/
def tupSwap (sc : Scope) (tg v : Expr) : Option (List Str) := match tg, v with
  | .Tuple ts _ _, .Tuple vs _ _ => if (ts.length == 2 || ts.length == 3) && vs.length == ts.length then
      let names := nmsOf sc ((ts.head?.map (·.pos.line)).getD 0) ts
      if names.length == ts.length && names.eraseDups.length == names.length && !(vs.all (foldedForSure 8)) then some names else none
    else none
  | _, _ => none
def constVs (tg v : Expr) : Bool := match tg, v with
  | .Tuple _ _ _, .Tuple vs _ _ => vs.all (constantsAlone 8) && !(vs.all (foldedForSure 8))
  | _, _ => false
def isTupT : T → Bool
  | .tup _ => true
  | _ => false
mutual
def okS : S → Scope → Stmt → Bool
  | .asg t x, sc, st => match st with
    | .Assign [tg] v _ => okE P N hot x sc v && okT P N hot t sc tg && !constVs tg v
    | _ => false
  | .exp x, sc, st => match st with
    | .Expr v _ => okE P N hot x sc v && !isLC v
    | _ => false
  | .ife t a b, sc, st => match st with
    | .If c x y _ => okB P N hot t sc c && okSs a sc x && okSs b sc y
    | _ => false
  | .for t it body, sc, st => match st with
    | .For tg iter bd [] _ => okT P N hot t sc tg && okI P N hot it sc tg iter && okSs body sc bd && !hot
    | _ => false
  | .whl t body, sc, st => match st with
    | .While c bd [] _ => okB P N hot t sc c && okSs body sc bd
    | _ => false
  | .ret (some x), sc, st => match st with
    | .Return (some v) _ => okE P N hot x sc v
    | _ => false
  | .ret none, sc, st => match st with
    | .Return none _ => true
    | _ => false
  | .raise c args, sc, st => match st with
    | .Raise (some (.Call (.Name id _) as [] _)) none _ => decide (id = c) && glB sc c && okEs P N hot args sc as && as.isEmpty && !hot && plainB c && decide (P.exc c = some [])
    | _ => false
  | .tryRet x k i g, sc, st => match st with
    | .Try [.Return (some v) _] [.ExceptHandler (some (.Name id _)) (some n) [.Return (some (.Call (.Name g' _) [.Name n' _] [] _)) _] _] [] [] _ =>
      okE P N hot x sc v && decide (id = k) && glB sc k && plainB k && decide (N[i]? = some n) && ownB sc n && decide (n' = n) && decide (g' = g) && glB sc g && plainB g && plainB n && !hot && (P.fn "" g).isSome && P.hot g && (P.exc k).isSome
    | _ => false
  | .pass, sc, st => match st with
    | .Pass _ => true
    | _ => false
def okSs : List S → Scope → List Stmt → Bool
  | [], _, sts => sts.isEmpty
  | x :: xs, sc, sts => match sts with
    | st :: sts => okS x sc st && okSs xs sc sts
    | [] => false
end
end
end Ev
end
section
set_option Elab.async false
set_option linter.all false
set_option maxRecDepth 100000
set_option maxHeartbeats 1000000
/-! Snd5: what is wanted of each kind of expression; the simple expressions. -/
namespace Ev
open PySem PySem.Spec PyProof.Rows
open L2 (V Hp HO upd upd_same upd_ne SqT SqL Rd Key RelV Vals VK WX TE TT TA PE PT PA XK Inv EP TP AP Gl thn)

/-- the exception of a hot def, in slot 0 -/
def ExSt (X : L2.Cx) (ρ : List Addr) (H : Hp) (σ : L2.St) (c : Str) (fs : List (Str × D)) : Prop :=
  ∃ a oe C d, σ[0]? = some (some (.ref a)) ∧ (a, oe) ∈ X.pn ∧ X.mg c = some (.ref C) ∧ L2.Zc (.ref C) d oe ∧ (∃ vs, oe.data = .fields vs) ∧ ((fs = [] ∧ d = none) ∨ ∃ dd gs, fs ≠ [] ∧ d = some dd ∧ H dd = some (.xd gs) ∧ RFs X.K X.mg ρ H fs gs)
/-- our state and HandS's -/
structure Rl (X : L2.Cx) (x : Option (Str × List (Str × D))) (ρ : List Addr) (h : Hd) (σd : Sl) (σ : L2.St) (H : Hp) : Prop where
  hs : HS X.K X.mg ρ h H
  sl : SLr X.K X.mg ρ H σd σ
  ex : ∀ c fs, x = some (c, fs) → ExSt X ρ H σ c fs
theorem ExSt.mono {X : L2.Cx} {ρ ρ' : List Addr} {H H' : Hp} {σ σ' : L2.St} {c : Str} {fs : List (Str × D)} (e : Ext ρ H ρ' H') (hσ : σ'[0]? = σ[0]?) (r : ExSt X ρ H σ c fs) : ExSt X ρ' H' σ' c fs := by
  obtain ⟨a, oe, C, d, h1, h2, h3, h4, h5, h6⟩ := r
  refine ⟨a, oe, C, d, hσ.trans h1, h2, h3, h4, h5, ?_⟩
  rcases h6 with h6 | ⟨dd, gs, g0, g1, g2, g3⟩
  · exact .inl h6
  · exact .inr ⟨dd, gs, g0, g1, e.imm _ _ g2 trivial, g3.mono e⟩
theorem Rl.next {X : L2.Cx} {x : Option (Str × List (Str × D))} {ρ ρ' : List Addr} {h h' : Hd} {σd : Sl} {σ : L2.St} {H H' : Hp} (r : Rl X x ρ h σd σ H) (e : Ext ρ H ρ' H') (hs : HS X.K X.mg ρ' h' H') : Rl X x ρ' h' σd σ H' :=
  ⟨hs, r.sl.mono e, fun c fs z => (r.ex c fs z).mono e rfl⟩
abbrev BR : List Addr → Hp → Bool → Bool → Prop := fun _ _ a b => a = b
abbrev OR : List Addr → Hp → Option Int → Option Int → Prop := fun _ _ a b => a = b
abbrev FinL (X : L2.Cx) (W : WX) (ρ : List Addr) (σ : L2.St) (H : Hp) (Q : List V → Hp → Prop) (r : R (List D)) : Prop := Fin X.K X.mg (RpL X.K X.mg) W ρ σ H Q r
abbrev FinB (X : L2.Cx) (W : WX) (ρ : List Addr) (σ : L2.St) (H : Hp) (Q : Bool → Hp → Prop) (r : R Bool) : Prop := Fin X.K X.mg BR W ρ σ H Q r
abbrev FinO (X : L2.Cx) (W : WX) (ρ : List Addr) (σ : L2.St) (H : Hp) (Q : Option Int → Hp → Prop) (r : R (Option Int)) : Prop := Fin X.K X.mg OR W ρ σ H Q r
def tE (C : Cx) (X : L2.Cx) (W : WX) (x : E) : TE := fun σ H Q => ∃ ρ h σd, Rl X C.ex ρ h σd σ H ∧ FinE X W ρ σ H Q (evE C x σd h)
def tEs (C : Cx) (X : L2.Cx) (W : WX) (xs : List E) : TA := fun σ H Q => ∃ ρ h σd, Rl X C.ex ρ h σd σ H ∧ FinL X W ρ σ H Q (evEs C xs σd h)
def tO (C : Cx) (X : L2.Cx) (W : WX) (x : Option E) : L2.TO := fun σ H Q => ∃ ρ h σd, Rl X C.ex ρ h σd σ H ∧ FinO X W ρ σ H Q (evO C x σd h)
def tT (C : Cx) (X : L2.Cx) (W : WX) (t : B) : TT := fun σ H Q => ∃ ρ h σd, Rl X C.ex ρ h σd σ H ∧ FinB X W ρ σ H Q (evT C t σd h)
def tTs (C : Cx) (X : L2.Cx) (W : WX) (o : BoolOp) (ts : List B) : TT := fun σ H Q => ∃ ρ h σd, Rl X C.ex ρ h σd σ H ∧ FinB X W ρ σ H Q (evTs C o ts σd h)
def tBoo (C : Cx) (X : L2.Cx) (W : WX) (o : BoolOp) (xs : List E) : TE := fun σ H Q => ∃ ρ h σd, Rl X C.ex ρ h σd σ H ∧ FinE X W ρ σ H Q (evBool C o xs σd h)
/-- how one stands: the names, the room, what is wished of exceptions -/
structure XOk (hot : Bool) (n : Nat) (X : L2.Cx) (W : WX) : Prop where
  nd : X.N.Nodup
  calm : hot = false → X.calm = true
  rm : RoomE n X.A
  tk : L2.Takes X W
/-- the module's facts -/
structure WOk (P : Prog) (K : PySem.W.Frag) (mg : Str → Option Value) (w : World) : Prop where
  md : MOk K mg w P
  cl : COk K mg P
  con : ∀ x d, P.con x = some d → ∃ u v, mg x = some u ∧ RelV v u ∧ ∀ ρ H, Rp K mg ρ H d v
  gl : ∀ x, P.gl x = true → P.con x = none → ∃ a, mg x = some (.ref a)
  blt : ∀ b, biOk b = true → mg (biName b) = none
  ty : ∀ n, tyOk n = true → mg (Str.ofString n) = none
  it : mg "range" = none ∧ mg "enumerate" = none ∧ mg "zip" = none ∧ mg "reversed" = none
theorem visB_ok {sc : Scope} {x : Str} (h : visB sc x = true) : L2.Vis sc x := by
  unfold visB at h
  split at h
  · exact .inl (by assumption)
  · exact .inr (.inl (by assumption))
  · exact .inr (.inr (by assumption))
  · cases h
theorem locB_ok {sc : Scope} {x : Str} (h : locB sc x = true) : L2.Loc sc x := by
  unfold locB at h
  split at h
  · exact .inl (by assumption)
  · exact .inr (by assumption)
  · cases h
theorem ownB_ok {sc : Scope} {x : Str} (h : ownB sc x = true) : sc.names.lookup x = some .local := by
  unfold ownB at h
  split at h
  · assumption
  · cases h
theorem glB_ok {X : L2.Cx} {x : Str} (h : glB X.env.scope x = true) : Gl X x := by
  unfold glB at h
  split at h
  · rename_i e; exact e
  · cases h
theorem plainB_ok {x : Str} (h : plainB x = true) : (x == ("__debug__" : Str)) = false ∧ (x == ("__classdict__" : Str)) = false := by
  unfold plainB at h
  rw [Bool.and_eq_true, Bool.not_eq_true', Bool.not_eq_true'] at h
  exact h
section
variable {P : Prog} {C : Cx} {X : L2.Cx} {W : WX} {hot : Bool} {n : Nat} {e l r : Expr} {pos : Pos}

theorem s_v {i : Nat} {id : Str} (hN : X.N[i]? = some id) (hv : visB X.env.scope id = true) (hp : plainB id = true) : PE X (.Name id pos) (tE C X W (.v i)) := by
  obtain ⟨p1, p2⟩ := plainB_ok hp
  refine ⟨fun pins s σ H Q I h => (L2.pe_var hN (visB_ok hv) p1 p2).run pins s σ H Q I ?_⟩
  obtain ⟨ρ, h, σd, rl, f⟩ := h
  simp only [evE] at f
  split at f
  · rename_i d e
    obtain ⟨v, e1, rv⟩ := rl.sl.2 _ _ e
    exact ⟨v, e1, f.ok rl.hs rv⟩
  · exact f.elim
theorem boot_ty {n : String} (h : tyOk n = true) : bootBuiltins (Str.ofString n) = some (.type n) ∧ Str.ofString n ≠ "__name__" ∧ (Str.ofString n == ("__debug__" : Str)) = false := by
  unfold tyOk at h
  simp only [List.contains_iff_mem, List.mem_cons, List.not_mem_nil, or_false] at h
  rcases h with rfl | rfl | rfl | rfl | rfl | rfl | rfl | rfl | rfl | rfl <;> exact ⟨by kernel_rfl, by decide +kernel, by decide +kernel⟩
theorem s_c {d : D} (M : WOk P X.K X.mg X.w) (hc : okC X.env.scope d e = true) : PE X e (tE C X W (.c d)) := by
  unfold okC at hc
  split at hc
  · exact ⟨fun pins s σ H Q I ⟨ρ, h, σd, rl, f⟩ => L2.pe_non.run pins s σ H Q I (f.ok rl.hs .non)⟩
  · have e := beq_iff_eq.mp hc
    subst e
    exact ⟨fun pins s σ H Q I ⟨ρ, h, σd, rl, f⟩ => L2.pe_bl.run pins s σ H Q I (f.ok rl.hs (.bl _))⟩
  · have e := of_decide_eq_true hc
    subst e
    exact ⟨fun pins s σ H Q I ⟨ρ, h, σd, rl, f⟩ => L2.pe_int.run pins s σ H Q I (f.ok rl.hs (.int _))⟩
  · have e := of_decide_eq_true hc
    subst e
    exact ⟨fun pins s σ H Q I ⟨ρ, h, σd, rl, f⟩ => L2.pe_str.run pins s σ H Q I (f.ok rl.hs (.str _))⟩
  · rw [Bool.and_eq_true, Bool.and_eq_true] at hc
    obtain ⟨⟨h1, h2⟩, h3⟩ := hc
    have e := of_decide_eq_true h1
    subst e
    obtain ⟨b1, b2, b3⟩ := boot_ty h3
    exact ⟨fun pins s σ H Q I ⟨ρ, h, σd, rl, f⟩ => (L2.pe_bltn (v := .ty _) (glB_ok h2) (M.ty _ h3) b1 rfl b2 b3).run pins s σ H Q I (f.ok rl.hs (.ty _))⟩
  · cases hc
theorem s_gl {x : Str} (M : WOk P X.K X.mg X.w) (hP : C.P = P) (hg : glB X.env.scope x = true) (hx : P.gl x = true) (hp : plainB x = true) : PE X (.Name x pos) (tE C X W (.gl x)) := by
  obtain ⟨p1, _⟩ := plainB_ok hp
  refine ⟨fun pins s σ H Q I ⟨ρ, h, σd, rl, f⟩ => ?_⟩
  simp only [evE, glob, hP] at f
  cases hc : P.con x with
  | some d =>
    rw [hc] at f
    obtain ⟨u, v, m, rv, rp⟩ := M.con x d hc
    exact (L2.pe_glob (glB_ok hg) m rv p1).run pins s σ H Q I (f.ok rl.hs (rp _ _))
  | none =>
    rw [hc] at f
    obtain ⟨a, m⟩ := M.gl x hx hc
    exact (L2.pe_glob (v := .ref a) (glB_ok hg) m rfl p1).run pins s σ H Q I (f.ok rl.hs (.glob m))
theorem s_bin {o : Operator} {a b : E} (ha : PE X l (tE C X W a)) (hb : PE X r (tE C X W b)) : PE X (.BinOp l o r pos) (tE C X W (.bin o a b)) := by
  refine ⟨fun pins s σ H Q I ⟨ρ, h, σd, rl, f⟩ => wpAny_BinOp ?_⟩
  simp only [evE] at f
  refine thn (ha.run pins s σ H _ I ⟨ρ, h, σd, rl, Fin.bind f⟩) fun v s1 ⟨x, H1, I1, r1, ρ1, h1, d1, e1, hs1, p1, f1⟩ => ?_
  refine thn (hb.run pins s1 σ H1 _ I1 ⟨ρ1, h1, σd, rl.next e1 hs1, Fin.bind f1⟩) fun u s2 ⟨y, H2, I2, r2, ρ2, h2, d2, e2, hs2, p2, f2⟩ => ?_
  exact bin_ok I2 hs2 (p1.mono e2) r1 p2 r2 f2
theorem s_neg {a : E} (ha : PE X l (tE C X W a)) : PE X (.UnaryOp .USub l pos) (tE C X W (.neg a)) := by
  refine ⟨fun pins s σ H Q I ⟨ρ, h, σd, rl, f⟩ => UnaryOp_ ?_⟩
  simp only [evE] at f
  refine thn (ha.run pins s σ H _ I ⟨ρ, h, σd, rl, Fin.bind f⟩) fun v s1 ⟨x, H1, I1, r1, ρ1, h1, d1, e1, hs1, p1, f1⟩ => ?_
  cases d1 with
  | int i =>
    cases p1
    exact L2.un_neg pins s1 σ H1 _ _ _ I1 r1 ⟨_, rfl, Fin.ok f1 hs1 (.int _)⟩
  | _ => exact False.elim f1
/-- truth, texts of a line -/
theorem truth_any {x : D} {v : V} {v' : Value} {b : Bool} {pins : List (Addr × Obj)} {s : Shared} {σ : L2.St} {H : Hp} {ρ : List Addr} {Qb : Bool → Shared → Prop} (I : Inv X pins σ H s) (rp : Rp X.K X.mg ρ H x v) (q1 : RelV v v') (e : truth x = some b) (q : ∀ tk, Qb b { s with toks := tk }) :
    wpAny (model X.prog X.w) X.A (truthy v') Qb X.xe s := by
  unfold truth at e
  split at e
  · cases e
    cases rp
    cases q1
    exact wpAny_truthy_bool (q s.toks)
  · rename_i z
    split at e
    · rename_i hz
      cases e
      cases rp
      obtain ⟨t, rfl⟩ := q1
      have h63 := L2.line63
      refine P.truthy_str (by omega) ?_
      have : ((z.length : Int) != 0) = (z.length != 0) := by
        cases hn : z.length with
        | zero => rfl
        | succ n => simp; omega
      rw [this]
      exact q _
    · cases e
  · cases e
theorem s_nt {a : E} (ha : PE X l (tE C X W a)) : PE X (.UnaryOp .Not l pos) (tE C X W (.nt a)) := by
  refine ⟨fun pins s σ H Q I ⟨ρ, h, σd, rl, f⟩ => UnaryOp_ ?_⟩
  simp only [evE] at f
  refine thn (ha.run pins s σ H _ I ⟨ρ, h, σd, rl, Fin.bind f⟩) fun v s1 ⟨x, H1, I1, r1, ρ1, h1, d1, e1, hs1, p1, f1⟩ => ?_
  obtain ⟨z, e, q⟩ := Fin.of f1 hs1
  simp only [Option.map_eq_some_iff] at e
  obtain ⟨b, e, rfl⟩ := e
  exact not_of (truth_any I1 p1 r1 e fun tk => ⟨.bl (!b), H1, I1.tok _, rfl, q _ (.bl _)⟩)
theorem s_ife {t : B} {a b : E} {c : Expr} (ht : PT X c (tT C X W t)) (ha : PE X l (tE C X W a)) (hb : PE X r (tE C X W b)) : PE X (.IfExp c l r pos) (tE C X W (.ife t a b)) := by
  refine ⟨fun pins s σ H Q I ⟨ρ, h, σd, rl, f⟩ => wpAny_IfExp ?_⟩
  simp only [evE] at f
  refine thn (ht.run pins s σ H _ I ⟨ρ, h, σd, rl, Fin.bind f⟩) fun k s1 ⟨H1, I1, ρ1, h1, k1, e1, hs1, p1, f1⟩ => ?_
  obtain rfl : k1 = k := p1
  cases k1 with
  | true => exact ha.run pins s1 σ H1 _ I1 ⟨ρ1, h1, σd, rl.next e1 hs1, f1⟩
  | false => exact hb.run pins s1 σ H1 _ I1 ⟨ρ1, h1, σd, rl.next e1 hs1, f1⟩
/-! ### and, or -/
theorem evBool_cons (o : BoolOp) (e : E) (es : List E) (σ : Sl) (h : Hd) : evBool C o (e :: es) σ h = (evE C e σ h).bind fun x h1 => if es.isEmpty then .ok x h1 else match truth x with
    | some b => if b == bop o then evBool C o es σ h1 else .ok x h1
    | none => .bad := by
  cases o <;> rfl
theorem s_boo1 {o : BoolOp} {a : E} (ha : PE X l (tE C X W a)) : PE X (.BoolOp o [l] pos) (tBoo C X W o [a]) := by
  refine ⟨fun pins s σ H Q I ⟨ρ, h, σd, rl, f⟩ => BoolOp_one ?_⟩
  simp only [evBool, List.isEmpty_nil, if_true] at f
  refine thn (ha.run pins s σ H _ I ⟨ρ, h, σd, rl, Fin.bind f⟩) fun v s1 ⟨x, H1, I1, r1, ρ1, h1, d1, e1, hs1, p1, f1⟩ => ?_
  exact ⟨x, H1, I1, r1, Fin.ok f1 hs1 p1⟩
theorem s_boo {o : BoolOp} {a b : E} {xs : List E} {es : List Expr} (ha : PE X l (tE C X W a)) (hb : PE X (.BoolOp o (r :: es) pos) (tBoo C X W o (b :: xs))) : PE X (.BoolOp o (l :: r :: es) pos) (tBoo C X W o (a :: b :: xs)) := by
  have key : ∀ {pins : List (Addr × Obj)} {s : Shared} {σ : L2.St} {H : Hp} {Q : L2.VK}, Inv X pins σ H s → tBoo C X W o (a :: b :: xs) σ H Q →
      wpAny (model X.prog X.w) X.A (eval l X.env) (fun v s1 => wpAny (model X.prog X.w) X.A (truthy v) (fun c s2 => if (c == bop o) = true then wpAny (model X.prog X.w) X.A (eval (.BoolOp o (r :: es) pos) X.env) (EP X pins σ Q) X.xe s2 else EP X pins σ Q v s2) X.xe s1) X.xe s := by
    intro pins s σ H Q I h
    obtain ⟨ρ, h, σd, rl, f⟩ := h
    rw [evBool_cons] at f
    refine thn (ha.run pins s σ H _ I ⟨ρ, h, σd, rl, Fin.bind f⟩) fun v s1 ⟨x, H1, I1, r1, ρ1, h1, d1, e1, hs1, p1, f1⟩ => ?_
    simp only [List.isEmpty_cons, Bool.false_eq_true, if_false] at f1
    cases ht : truth d1 with
    | none => rw [ht] at f1; exact False.elim f1
    | some c =>
      rw [ht] at f1
      refine truth_any I1 p1 r1 ht fun tk => ?_
      by_cases hc : (c == bop o) = true
      · dsimp only at f1
        rw [if_pos hc] at f1 ⊢
        exact hb.run pins _ σ H1 _ (I1.tok tk) ⟨ρ1, h1, σd, rl.next e1 hs1, f1⟩
      · dsimp only at f1
        rw [if_neg hc] at f1 ⊢
        exact ⟨x, H1, I1.tok _, r1, Fin.ok f1 hs1 p1⟩
  refine ⟨fun pins s σ H Q I h => ?_⟩
  cases o with
  | And =>
    refine BoolOp_and (thn (key I h) fun v s1 h1 => thn h1 fun c s2 h2 => ?_)
    cases c with
    | true => exact h2
    | false => exact h2
  | Or =>
    refine BoolOp_or (thn (key I h) fun v s1 h1 => thn h1 fun c s2 h2 => ?_)
    cases c with
    | true => exact h2
    | false => exact h2
theorem s_bool {o : BoolOp} {xs : List E} {e : Expr} (h : PE X e (tBoo C X W o xs)) : PE X e (tE C X W (.bool o xs)) := by
  refine ⟨fun pins s σ H Q I ⟨ρ, h', σd, rl, f⟩ => h.run pins s σ H Q I ⟨ρ, h', σd, rl, ?_⟩⟩
  simp only [evE] at f
  exact f
/-! ### arguments, displays -/
theorem s_nil : PA X [] (tEs C X W []) := ⟨fun pos pins s σ H Q I ⟨ρ, h, σd, rl, f⟩ => L2.pa_nil.run pos pins s σ H Q I (by simp only [evEs] at f; exact Fin.ok f rl.hs .nil)⟩
theorem s_cons {a : E} {xs : List E} {es : List Expr} (ha : PE X l (tE C X W a)) (hr : PA X es (tEs C X W xs)) (hs : starEach (l :: es) X.env = (false, eval l X.env) :: starEach es X.env) : PA X (l :: es) (tEs C X W (a :: xs)) := by
  refine ⟨fun pos pins s σ H Q I ⟨ρ, h, σd, rl, f⟩ => ?_⟩
  rw [hs]
  show wpAny _ _ (spliced ((false, eval l X.env) :: backTo pos (starEach es X.env))) _ _ s
  rw [evEs] at f
  refine Calls.spliced_cons (thn (ha.run pins s σ H _ I ⟨ρ, h, σd, rl, Fin.bind f⟩) fun u s1 ⟨x, H1, I1, r1, ρ1, h1, d1, e1, hs1, p1, f1⟩ => ?_)
  refine thn (hr.run pos pins s1 σ H1 _ I1 ⟨ρ1, h1, σd, rl.next e1 hs1, Fin.bind f1⟩) fun us s2 ⟨xs, H2, I2, r2, ρ2, h2, d2, e2, hs2, p2, f2⟩ => ?_
  exact ⟨x :: xs, H2, I2, .cons r1 r2, Fin.ok f2 hs2 (.cons (p1.mono e2) p2)⟩
theorem s_tup {xs : List E} {es : List Expr} {k : Nat} (h : PA X es (tEs C X W xs)) : PE X (.Tuple es k pos) (tE C X W (.tup xs)) := by
  refine ⟨fun pins s σ H Q I ⟨ρ, h', σd, rl, f⟩ => ?_⟩
  rw [evE] at f
  refine (L2.pe_tup h).run pins s σ H Q I ⟨ρ, h', σd, rl, Fin.imp (Fin.bind f) fun vs H1 ⟨ρ1, h1, d1, e1, hs1, p1, f1⟩ => ?_⟩
  dsimp only at f1
  split at f1
  · rename_i hz
    have := p1.length
    exact ⟨by rw [← this]; exact Nat.le_trans hz (by decide), fun p hp => fin_tup f1 hs1 p1 hp⟩
  · exact False.elim f1
theorem s_lst {xs : List E} {es : List Expr} (h : PA X es (tEs C X W xs)) : PE X (.List es pos) (tE C X W (.lst xs)) := by
  refine ⟨fun pins s σ H Q I ⟨ρ, h', σd, rl, f⟩ => ?_⟩
  rw [evE] at f
  refine (L2.pe_lst h).run pins s σ H Q I ⟨ρ, h', σd, rl, Fin.imp (Fin.bind f) fun vs H1 ⟨ρ1, h1, d1, e1, hs1, p1, f1⟩ => ?_⟩
  dsimp only at f1
  split at f1
  · rename_i hz
    have := p1.length
    exact ⟨by rw [← this]; exact Nat.le_trans hz (by decide), fun p hp => fin_lst f1 hs1 p1 hp⟩
  · exact False.elim f1
/-- a new dict -/
theorem fin_dct {kvs : List (D × D)} {q : List (Key × V)} {p : Addr} {ρ : List Addr} {σ : L2.St} {H : Hp} {h : Hd} {Q : L2.VK} (f : FinE X W ρ σ H Q (new (.dct kvs) h)) (hs : HS X.K X.mg ρ h H) (hn : (q.map (·.1)).Nodup) (r : RKv X.K X.mg ρ H kvs q) (hp : H p = none) : Q (.ref p) (upd H p (.dK q)) := by
  refine f (ρ ++ [p]) _ _ (Ext.new hp) (hs.new hp (.dK upd_same hn (r.mono0 (Ext.new hp).toExt0))) ?_
  rw [← hs.len]
  exact Rp.new ρ
theorem s_dct {kvs : List (D × D)} {ks : List (Option Expr)} {vs : List Expr} (h : okKvs kvs ks vs = true) : PE X (.Dict ks vs pos) (tE C X W (.dct kvs)) := by
  unfold okKvs at h
  split at h
  · refine ⟨fun pins s σ H Q I ⟨ρ, h', σd, rl, f⟩ => L2.pe_dnewK.run pins s σ H Q I fun p hp => ?_⟩
    rw [evE] at f
    exact fin_dct f rl.hs List.nodup_nil .nil hp
  · rw [Bool.and_eq_true] at h
    have e1 := of_decide_eq_true h.1
    have e2 := of_decide_eq_true h.2
    subst e1; subst e2
    rename_i i v _ _ _ _
    refine ⟨fun pins s σ H Q I ⟨ρ, h', σd, rl, f⟩ => ?_⟩
    rw [evE] at f
    refine (L2.pe_disp (L2.pps_cons L2.pe_int L2.pe_int L2.pps_nil) rfl rfl (by simp) (by simp)).run pins s σ H Q I fun p hp => ?_
    refine ⟨upd_same, [(Sum.inl i, V.int v)], rfl, by simp, ?_⟩
    have eq : upd (upd H p (.dK [])) p (.dK (L2.mergeK [] [(Sum.inl i, V.int v)])) = upd H p (.dK [(Sum.inl i, V.int v)]) := by rw [L2.upd_upd]; rfl
    rw [eq]
    exact fin_dct f rl.hs (by simp) (.cons rfl (.int _) .nil) hp
  · cases h
end
end Ev
end
section
set_option Elab.async false
set_option linter.all false
set_option maxRecDepth 100000
set_option maxHeartbeats 1000000
/-! Snd6: comparisons, places, slices, attributes, calls of built-ins; tests. -/
namespace Ev
open PySem PySem.Spec PyProof.Rows
open L2 (V Hp HO upd upd_same upd_ne SqT SqL Rd Key RelV Vals VK WX TE TT TA PE PT PA XK Inv EP TP AP Gl thn)
/-! ### shapes -/
def plainE : Expr → Bool
  | .Set _ _ _ | .Starred _ _ | .Slice _ _ _ _ => false
  | _ => true
section
variable {P : Prog} {N : List Str} {hot : Bool} {sc : Scope} {e : Expr}
theorem okE_plain {x : E} (h : okE P N hot x sc e = true) : plainE e = true := by
  cases e with
  | Set a b c => cases x <;> simp [okE, okC] at h
  | Starred a b => cases x <;> simp [okE, okC] at h
  | Slice a b c d => cases x <;> simp [okE, okC] at h
  | _ => rfl
theorem plain_behind (o : CmpOp) (h : plainE e = true) : behindInMarks o e = false := by
  cases e <;> first | rfl | cases h
theorem plain_star (env : Env) (es : List Expr) (h : plainE e = true) : starEach (e :: es) env = (false, eval e env) :: starEach es env := by
  cases e <;> first | rfl | cases h
theorem plain_fold (env : Env) (x : Value) (h : plainE e = true) : foldedSetIterable e env x = pure x := by
  cases e <;> first | rfl | cases h
theorem plain_sub (o i : Value) (h : plainE e = true) : subscripted e false o i = operate [o, i] (getItem o i) := by
  cases e <;> first | rfl | cases h
theorem notBare_base (name : Str) (env : Env) (h : notBare e = true) : attributeBase e name env (eval e env) = eval e env := by
  unfold notBare at h
  split at h
  · cases h
  · rename_i hn
    unfold attributeBase
    split
    · exact absurd rfl (hn _ _ _)
    · rfl
theorem okEs_plain : ∀ {xs : List E} {es : List Expr}, okEs P N hot xs sc es = true → ∀ e ∈ es, plainE e = true
  | [], es, h, e, he => by
    simp only [okEs, List.isEmpty_iff] at h
    subst h
    cases he
  | x :: xs, [], h, e, he => by cases he
  | x :: xs, e' :: es, h, e, he => by
    simp only [okEs, Bool.and_eq_true] at h
    rcases List.mem_cons.mp he with rfl | he
    · exact okE_plain h.1
    · exact okEs_plain h.2 e he
theorem plain_any (pos : Pos) (env : Env) : ∀ {es : List Expr}, (∀ e ∈ es, plainE e = true) → (backTo pos (starEach es env)).any (·.1) = false
  | [], _ => rfl
  | e :: es, h => by
    rw [plain_star env es (h e List.mem_cons_self)]
    have := plain_any pos env (es := es) fun x hx => h x (List.mem_cons_of_mem _ hx)
    show ((false : Bool) || (backTo pos (starEach es env)).any (·.1)) = false
    rw [this]
    rfl
theorem plain_all (pos : Pos) (env : Env) : ∀ {es : List Expr}, (∀ e ∈ es, plainE e = true) → (backTo pos (starEach es env)).all (fun x => !x.1) = true
  | [], _ => rfl
  | e :: es, h => by
    rw [plain_star env es (h e List.mem_cons_self)]
    have := plain_all pos env (es := es) fun x hx => h x (List.mem_cons_of_mem _ hx)
    show ((!false) && (backTo pos (starEach es env)).all (fun x => !x.1)) = true
    rw [this]
    rfl
end
section
variable {P : Prog} {C : Cx} {X : L2.Cx} {W : WX} {hot : Bool} {n : Nat} {e l r r2 : Expr} {pos : Pos}
/-! ### comparisons -/
theorem evChain1 (x : D) (o : CmpOp) (b : E) (σ : Sl) (h : Hd) : evChain C x [o] [b] σ h = (evE C b σ h).bind fun y h1 => match evCmp C.P h1 o x y with
    | some k => .ok (.bl k) h1
    | none => .bad := by
  rw [evChain]
  congr 1
  funext y h1
  dsimp only
  cases evCmp C.P h1 o x y with
  | none => rfl
  | some k => cases k <;> rfl
theorem evChain2 (x : D) (o o' : CmpOp) (b c : E) (σ : Sl) (h : Hd) : evChain C x [o, o'] [b, c] σ h = (evE C b σ h).bind fun y h1 => match evCmp C.P h1 o x y with
    | some true => (evE C c σ h1).bind fun z h2 => match evCmp C.P h2 o' y z with
      | some k => .ok (.bl k) h2
      | none => .bad
    | some false => .ok (.bl false) h1
    | none => .bad := by
  rw [evChain]
  congr 1
  funext y h1
  dsimp only
  cases evCmp C.P h1 o x y with
  | none => rfl
  | some k =>
    cases k with
    | false => rfl
    | true => exact evChain1 y o' c σ h1
theorem cmp1 (M : WOk P X.K X.mg X.w) (hP : C.P = P) (hr : RoomE n X.A) {a b : E} {o : CmpOp} (ha : PE X l (tE C X W a)) (hb : PE X r (tE C X W b)) {pins : List (Addr × Obj)} {s : Shared} {σ : L2.St} {H : Hp} {Qd : R D → Prop} {Q : Value → Shared → Prop}
    (I : Inv X pins σ H s) (h : ∃ ρ h σd, Rl X C.ex ρ h σd σ H ∧ ∃ Q', FinE X W ρ σ H Q' (evE C (.cmp a [o] [b]) σd h) ∧ ∀ k H1 s1, Inv X pins σ H1 s1 → Q' (.bl k) H1 → Q (.bool k) s1) :
    wpAny (model X.prog X.w) X.A (eval l X.env) (fun v s1 => wpAny (model X.prog X.w) X.A (eval r X.env) (fun u s2 => wpAny (model X.prog X.w) X.A (compareOp o v u) Q X.xe s2) X.xe s1) X.xe s := by
  obtain ⟨ρ, h, σd, rl, Q', f, hq⟩ := h
  rw [evE] at f
  refine thn (ha.run pins s σ H _ I ⟨ρ, h, σd, rl, Fin.bind f⟩) fun v s1 ⟨x, H1, I1, r1, ρ1, h1, d1, e1, hs1, p1, f1⟩ => ?_
  dsimp only at f1
  rw [evChain1] at f1
  refine thn (hb.run pins s1 σ H1 _ I1 ⟨ρ1, h1, σd, rl.next e1 hs1, Fin.bind f1⟩) fun u s2 ⟨y, H2, I2, r2, ρ2, h2, d2, e2, hs2, p2, f2⟩ => ?_
  dsimp only at f2
  split at f2
  · rename_i k hk
    rw [hP] at hk
    refine thn (cmp_ok (Q := fun v H => ∃ k', v = .bl k' ∧ Q' (.bl k') H) hr M.md I2 hs2 (p1.mono e2) r1 p2 r2 hk ⟨k, rfl, Fin.ok f2 hs2 (.bl k)⟩) fun w s3 ⟨v3, H3, I3, r3, k', e3, q3⟩ => ?_
    subst e3
    cases r3
    exact hq _ _ _ I3 q3
  · exact False.elim f2
theorem s_cmp1 (M : WOk P X.K X.mg X.w) (hP : C.P = P) (hr : RoomE n X.A) {a b : E} {o : CmpOp} (ha : PE X l (tE C X W a)) (hb : PE X r (tE C X W b)) (pr : plainE r = true) : PE X (.Compare l [o] [r] pos) (tE C X W (.cmp a [o] [b])) := by
  refine ⟨fun pins s σ H Q I ⟨ρ, h, σd, rl, f⟩ => wpAny_Compare1 (cmp1 M hP hr ha hb (Qd := fun _ => True) I ⟨ρ, h, σd, rl, Q, f, fun k H1 s1 I1 q => ⟨.bl k, H1, I1, rfl, q⟩⟩) (plain_behind o pr)⟩
theorem s_cmp2 (M : WOk P X.K X.mg X.w) (hP : C.P = P) (hr : RoomE n X.A) {a b c : E} {o o' : CmpOp} (ha : PE X l (tE C X W a)) (hb : PE X r (tE C X W b)) (hc : PE X r2 (tE C X W c)) (pr2 : plainE r2 = true) : PE X (.Compare l [o, o'] [r, r2] pos) (tE C X W (.cmp a [o, o'] [b, c])) := by
  refine ⟨fun pins s σ H Q I ⟨ρ, h, σd, rl, f⟩ => ?_⟩
  rw [evE] at f
  refine Compare_chain (thn (ha.run pins s σ H _ I ⟨ρ, h, σd, rl, Fin.bind f⟩) fun v s1 ⟨x, H1, I1, r1, ρ1, h1, d1, e1, hs1, p1, f1⟩ => chain_link ?_) (plain_behind o' pr2)
  dsimp only at f1
  rw [evChain2] at f1
  refine thn (hb.run pins s1 σ H1 _ I1 ⟨ρ1, h1, σd, rl.next e1 hs1, Fin.bind f1⟩) fun u s2 ⟨y, H2, I2, r2, ρ2, h2, d2, e2, hs2, p2, f2⟩ => ?_
  dsimp only at f2
  split at f2
  · rename_i hk
    rw [hP] at hk
    refine thn (cmp_ok (Q := fun v H => v = .bl true ∧ H = H2) hr M.md I2 hs2 (p1.mono e2) r1 p2 r2 hk ⟨rfl, rfl⟩) fun w s3 ⟨v3, H3, I3, r3, e3, eH⟩ => ?_
    subst e3; subst eH
    cases r3
    refine wpAny_truthy_bool (chain_last ?_)
    refine thn (hc.run pins s3 σ H3 _ I3 ⟨ρ2, h2, σd, (rl.next e1 hs1).next e2 hs2, Fin.bind f2⟩) fun u s4 ⟨z, H4, I4, r4, ρ4, h4, d4, e4, hs4, p4, f4⟩ => ?_
    dsimp only at f4
    split at f4
    · rename_i k hk4
      rw [hP] at hk4
      exact cmp_ok hr M.md I4 hs4 (p2.mono e4) r2 p4 r4 hk4 (Fin.ok f4 hs4 (.bl k))
    · exact False.elim f4
  · rename_i hk
    rw [hP] at hk
    refine thn (cmp_ok (Q := fun v H => v = .bl false ∧ Q (.bl false) H) hr M.md I2 hs2 (p1.mono e2) r1 p2 r2 hk ⟨rfl, Fin.ok f2 hs2 (.bl false)⟩) fun w s3 ⟨v3, H3, I3, r3, e3, q3⟩ => ?_
    subst e3
    cases r3
    exact wpAny_truthy_bool ⟨.bl false, H3, I3, rfl, q3⟩
  · exact False.elim f2
/-! ### places, slices -/
theorem s_ix (M : WOk P X.K X.mg X.w) (hP : C.P = P) {a b : E} (ha : PE X l (tE C X W a)) (hb : PE X r (tE C X W b)) (pr : plainE r = true) : PE X (.Subscript l r pos) (tE C X W (.ix a b)) := by
  refine ⟨fun pins s σ H Q I ⟨ρ, h, σd, rl, f⟩ => Subscript_ ?_⟩
  rw [evE] at f
  refine thn (ha.run pins s σ H _ I ⟨ρ, h, σd, rl, Fin.bind f⟩) fun v s1 ⟨x, H1, I1, r1, ρ1, h1, d1, e1, hs1, p1, f1⟩ => ?_
  refine thn (hb.run pins s1 σ H1 _ I1 ⟨ρ1, h1, σd, rl.next e1 hs1, Fin.bind f1⟩) fun u s2 ⟨y, H2, I2, r2, ρ2, h2, d2, e2, hs2, p2, f2⟩ => ?_
  obtain ⟨z, e, q⟩ := Fin.of f2 hs2
  rw [hP] at e
  exact ix_ok M.md l r pins s2 σ H2 x y v u Q I2 r1 r2 ⟨ρ2, h2, d1, d2, z, hs2, p1.mono e2, p2, e, q⟩ (plain_sub _ _ pr)
theorem s_po0 : L2.PO X none (tO C X W none) := by
  refine ⟨fun pins s σ H Q I ⟨ρ, h, σd, rl, f⟩ => ?_⟩
  rw [evO] at f
  exact L2.po_none.run pins s σ H Q I (Fin.ok f rl.hs rfl)
theorem s_po {a : E} (ha : PE X l (tE C X W a)) : L2.PO X (some l) (tO C X W (some a)) := by
  refine ⟨fun pins s σ H Q I ⟨ρ, h, σd, rl, f⟩ => ?_⟩
  rw [evO] at f
  rw [evalPart_some]
  refine thn (ha.run pins s σ H _ I ⟨ρ, h, σd, rl, Fin.bind f⟩) fun v s1 ⟨x, H1, I1, r1, ρ1, h1, d1, e1, hs1, p1, f1⟩ => ?_
  cases d1 with
  | int i =>
    cases p1
    obtain ⟨t, rfl⟩ := r1
    exact ⟨some i, H1, I1, .int i t, Fin.ok f1 hs1 rfl⟩
  | _ => exact False.elim f1
theorem s_sl {a : E} {lo hi : Option E} {lo' hi' : Option Expr} {p2 : Pos} (ha : PE X l (tE C X W a)) (hl : L2.PO X lo' (tO C X W lo)) (hh : L2.PO X hi' (tO C X W hi)) : PE X (.Subscript l (.Slice lo' hi' none p2) pos) (tE C X W (.sl a lo hi)) := by
  refine ⟨fun pins s σ H Q I ⟨ρ, h, σd, rl, f⟩ => ?_⟩
  rw [evE] at f
  refine (L2.pe_slice (sl_ok (W := W) (σ := σ)) ha hl hh).run pins s σ H Q I ?_
  refine ⟨ρ, h, σd, rl, Fin.imp (Fin.bind f) fun x H1 ⟨ρ1, h1, d1, e1, hs1, p1, f1⟩ => ?_⟩
  refine ⟨ρ1, h1, σd, rl.next e1 hs1, Fin.imp (Fin.bind f1) fun o H2 ⟨ρ2, h2, d2, e2, hs2, p2, f2⟩ => ?_⟩
  refine ⟨ρ2, h2, σd, (rl.next e1 hs1).next e2 hs2, Fin.imp (Fin.bind f2) fun u H3 ⟨ρ3, h3, d3, e3, hs3, p3, f3⟩ => ?_⟩
  cases (show d2 = o from p2)
  cases (show d3 = u from p3)
  exact ⟨ρ3, h3, d1, hs3, (p1.mono e2).mono e3, f3⟩
theorem isMinus1_ok (h : isMinus1 e = true) : ∃ k p1 p2, e = .UnaryOp .USub (.Constant (.int 1) k p1) p2 := by
  unfold isMinus1 at h
  split at h
  · exact ⟨_, _, _, rfl⟩
  · cases h
theorem rev_pick (z : Str) : (slicePicked z none none (some (-1, 0))).filterMap (z.cps[·]?) = z.cps.toList.reverse := by
  show ((sliceRange ((z.length : Int) - 1) (-1) (-1)).filterMap (z.cps[·]?)) = _
  rw [PySem.W.krv_sliceRange, PySem.W.krv_range, List.filterMap_reverse]
  congr 1
  exact PySem.W.krv_all z.cps
theorem s_rev {a : E} {p3 : Pos} (ha : PE X l (tE C X W a)) (hm : isMinus1 e = true) : PE X (.Subscript l (.Slice none none (some e) p3) pos) (tE C X W (.rev a)) := by
  obtain ⟨k, q1, q2, rfl⟩ := isMinus1_ok hm
  refine ⟨fun pins s σ H Q I ⟨ρ, h, σd, rl, f⟩ => ?_⟩
  rw [evE] at f
  refine Subscript_ (thn (ha.run pins s σ H _ I ⟨ρ, h, σd, rl, Fin.bind f⟩) fun v s1 ⟨x, H1, I1, r1, ρ1, h1, d1, e1, hs1, p1, f1⟩ => ?_)
  have hst : L2.PO X (some (.UnaryOp .USub (.Constant (.int 1) k q1) q2)) (L2.tPart (L2.tUn (L2.rU fun i => .int (-i)) (L2.tC (.int 1)))) := L2.po_some (L2.pe_un L2.un_neg L2.pe_int)
  refine wpAny_Slice (thn (L2.po_none.run pins s1 σ H1 (fun o H2 => o = none ∧ H2 = H1) I1 ⟨rfl, rfl⟩) fun vl s2 ⟨l, H2, I2, pl, el, e2⟩ => ?_)
  subst el e2
  refine thn (L2.po_none.run pins s2 σ H2 (fun o H3 => o = none ∧ H3 = H2) I2 ⟨rfl, rfl⟩) fun vu s3 ⟨u, H3, I3, pu, eu, e3⟩ => ?_
  subst eu e3
  refine thn (hst.run pins s3 σ H3 (fun o H4 => o = some (-1) ∧ H4 = H3) I3 ⟨1, rfl, -1, rfl, rfl, rfl⟩) fun vs s4 ⟨o, H4, I4, ps, eo, e4⟩ => ?_
  subst eo e4
  have I5 : Inv X pins σ H4 { s4 with heap := s4.heap.push { cls := .type "slice", data := .fields #[vl, vu, vs] } } := I4.kept (t' := s4.toks) fun b ob q => Heap.get?_push_of_some _ q
  show wpAny (model X.prog X.w) X.A (subscriptTail _ (.Slice none none (some (.UnaryOp .USub (.Constant (.int 1) k q1) q2)) p3) v (.ref s4.heap.objs.size)) (EP X pins σ Q) X.xe { s4 with heap := s4.heap.push { cls := .type "slice", data := .fields #[vl, vu, vs] } }
  unfold evRev at f1
  dsimp only at f1
  split at f1
  · rename_i z
    split at f1
    · rename_i hz
      cases p1
      obtain ⟨t, rfl⟩ := r1
      refine tail_any (ops := [.str z t, .ref s4.heap.objs.size]) (typeIs_str _ _ _) (PySem.F.slot_str_getitem.lookup) ?_ (by with_unfolding_all rfl)
      obtain ⟨lo', rfl, hlo⟩ := L2.IsPart.raw pl
      obtain ⟨hi', rfl, hhi⟩ := L2.IsPart.raw pu
      obtain ⟨st', rfl, hst'⟩ := L2.IsPart.raw ps
      have el : lo' = none := by cases lo' <;> simp_all
      have eh : hi' = none := by cases hi' <;> simp_all
      subst el; subst eh
      refine wpAny_getItem_str_slice (l := none) (u := none) (st := st') ⟨_, Heap.get?_push_size _ rfl, rfl, rfl⟩ (by rw [hst']; rfl) ?_
      have hp : slicePicked z none none st' = slicePicked z none none (some (-1, 0)) := by
        unfold slicePicked
        rw [hst']
        rfl
      unfold sliceMade
      rw [hp, rev_pick]
      have c : ((st'.map (·.1)).getD 1 == 1) = false := by rw [hst']; rfl
      rw [c, Bool.false_and, if_neg Bool.false_ne_true]
      refine ⟨by show z.cps.toList.reverse.toArray.size ≤ sizeLine; simpa [Str.length] using hz, ⟨.str _, H4, I5.tok _, ⟨_, rfl⟩, Fin.ok f1 hs1 (.str _)⟩⟩
    · exact False.elim f1
  · split at f1
    · rename_i c _ xs hc
      obtain ⟨a, ws, rfl, ea, hl, l⟩ := lst_at hs1 p1 hc
      cases r1
      obtain ⟨its, r, ht, hz⟩ := I5.list (SqL.of hl)
      have hlen := r.length
      refine tail_any (ops := [.ref a, .ref s4.heap.objs.size]) ht.isList.typeIs (PySem.slot_list_getitem.lookup) ?_ (by with_unfolding_all rfl)
      refine wpAny_getItem_list_slice ht.isList (Heap.IsSliceOf.new _ vl vu vs) pl pu ps (by decide) ?_ (by rw [List.size_toArray]; omega)
      rw [PySem.W.krv_pick]
      refine ⟨.ref _, _, I5.laid (t' := s4.toks) (o := .lst ws.reverse) (fun b ob q => Heap.get?_push_of_some _ q) (Nat.le_refl _) ?_, rfl, fin_lst f1 hs1 l.reverse (I5.hok.fresh (Nat.le_refl _))⟩
      exact ⟨by rw [List.length_reverse]; exact hz, _, 0, r.reverse, Heap.get?_push_size _ rfl⟩
    · exact False.elim f1
  · exact False.elim f1
/-! ### attributes -/
theorem s_att (M : WOk P X.K X.mg X.w) (hP : C.P = P) {a : E} {m : Str} (ha : PE X l (tE C X W a)) (hb : notBare l = true) : PE X (.Attribute l m pos) (tE C X W (.att a m)) := by
  refine ⟨fun pins s σ H Q I ⟨ρ, h, σd, rl, f⟩ => L2.attr_of (notBare_base m _ hb) ?_⟩
  rw [evE] at f
  refine thn (ha.run pins s σ H _ I ⟨ρ, h, σd, rl, Fin.bind f⟩) fun v s1 ⟨x, H1, I1, r1, ρ1, h1, d1, e1, hs1, p1, f1⟩ => ?_
  obtain ⟨z, e, q⟩ := Fin.of f1 hs1
  rw [hP] at e
  exact att_ok M.cl I1 hs1 p1 r1 e q
/-! ### built-ins -/
theorem boot_bi {b : BI} (h : biOk b = true) : biName b ≠ "__name__" ∧ (biName b == ("__debug__" : Str)) = false := by
  cases b <;> exact ⟨by decide +kernel, by decide +kernel⟩
theorem boot_bi2 {b : BI} (h : biOk b = true) : ∃ f, biVal b = some f ∧ bootBuiltins (biName b) = some f ∧ ((∃ id, f = .builtin id) ∨ ∃ T, f = .type T) := by
  cases b with
  | len => exact ⟨_, rfl, by kernel_rfl, .inl ⟨_, rfl⟩⟩
  | min2 => exact ⟨_, rfl, by kernel_rfl, .inl ⟨_, rfl⟩⟩
  | max2 => exact ⟨_, rfl, by kernel_rfl, .inl ⟨_, rfl⟩⟩
  | sum => exact ⟨_, rfl, by kernel_rfl, .inl ⟨_, rfl⟩⟩
  | any => exact ⟨_, rfl, by kernel_rfl, .inl ⟨_, rfl⟩⟩
  | all => exact ⟨_, rfl, by kernel_rfl, .inl ⟨_, rfl⟩⟩
  | list => exact ⟨_, rfl, by kernel_rfl, .inr ⟨_, rfl⟩⟩
  | tuple => exact ⟨_, rfl, by kernel_rfl, .inr ⟨_, rfl⟩⟩
  | int => exact ⟨_, rfl, by kernel_rfl, .inr ⟨_, rfl⟩⟩
  | str => exact ⟨_, rfl, by kernel_rfl, .inr ⟨_, rfl⟩⟩
  | isinst => exact ⟨_, rfl, by kernel_rfl, .inl ⟨_, rfl⟩⟩
  | repr => exact ⟨_, rfl, by kernel_rfl, .inl ⟨_, rfl⟩⟩
  | _ => cases h
theorem s_bi (M : WOk P X.K X.mg X.w) (hP : C.P = P) (hr : RoomE n X.A) (hc : X.calm = true) {b : BI} {xs : List E} {es : List Expr} {p : Pos} (hb : biOk b = true) (hg : glB X.env.scope (biName b) = true) (ha : PA X (l :: es) (tEs C X W xs)) (hp : ∀ e ∈ l :: es, plainE e = true) :
    PE X (.Call (.Name (biName b) p) (l :: es) [] pos) (tE C X W (.bi b xs)) := by
  obtain ⟨f', e1, e2, e3⟩ := boot_bi2 hb
  obtain ⟨n1, n2⟩ := boot_bi hb
  refine ⟨fun pins s σ H Q I ⟨ρ, h, σd, rl, f⟩ => wpAny_Call_Name_kw (L2.ld_blt I (glB_ok hg) (M.blt b hb) e2 ?_ n1 n2)⟩
  rw [evE] at f
  have key : wpAny (model X.prog X.w) X.A (spliced (backTo pos (starEach (l :: es) X.env))) (fun us s1 => wpAny (model X.prog X.w) X.A (call f' us) (EP X pins σ Q) X.xe s1) X.xe s := by
    refine thn (ha.run pos pins s σ H _ I ⟨ρ, h, σd, rl, Fin.bind f⟩) fun us s1 ⟨vs, H1, I1, r1, ρ1, h1, d1, e1', hs1, p1, f1⟩ => ?_
    exact bi_ok hr hc e1 I1 hs1 p1 r1 f1
  have he := plain_star X.env es (hp l List.mem_cons_self)
  have hpl := plain_any pos X.env (es := es) fun x hx => hp x (List.mem_cons_of_mem _ hx)
  rcases e3 with ⟨id, rfl⟩ | ⟨T, rfl⟩
  · exact PyProof.Rows.callWith_builtin1 key he hpl
  · exact PyProof.Rows.callWith_type1 key he hpl
end
end Ev
end
section
set_option Elab.async false
set_option linter.all false
set_option maxRecDepth 100000
set_option maxHeartbeats 1000000
/-! Snd7: built-in methods called; tests; targets. -/
namespace Ev
open PySem PySem.Spec PyProof.Rows
open L2 (V Hp HO upd upd_same upd_ne SqT SqL Rd Key RelV Vals VK WX TE TT TA PE PT PA XK Inv EP TP AP Gl thn)
section
variable {P : Prog} {C : Cx} {X : L2.Cx} {W : WX} {hot : Bool} {n : Nat} {e l r r2 : Expr} {pos : Pos}
/-! ### methods of built-ins -/
theorem few_ok {es : List Expr} {cp : Pos} (hp : ∀ e ∈ es, plainE e = true) (hz : es.length < 20) : ((backTo cp (starEach es X.env)).all (fun x => !x.1) && (backToKw cp (keywordEach [] X.env)).all (fun x => x.1.isSome)
      && decide (es.length + ([] : List Keyword).length + (if ([] : List Keyword).isEmpty then 0 else 1) < 30)) = true := by
  rw [plain_all cp X.env hp]
  have : es.length + ([] : List Keyword).length + (if ([] : List Keyword).isEmpty then 0 else 1) < 30 := by
    show es.length + 0 + 0 < 30
    omega
  rw [decide_eq_true this]
  rfl
theorem s_bm (hr : RoomE n X.A) (hc : hot = false → X.calm = true) {m : BM} {o : E} {xs : List E} {es : List Expr} {ap : Pos} (ho : PE X l (tE C X W o)) (ha : PA X es (tEs C X W xs)) (hp : ∀ e ∈ es, plainE e = true) (hb : notBare l = true)
    (hline : (ap.endLine == pos.line) = true) (hz : es.length < 20) (hx : es.length = xs.length) : PE X (.Call (.Attribute l (bmName m) ap) es [] pos) (tE C X W (.bm m o xs)) := by
  refine ⟨fun pins s σ H Q I ⟨ρ, h, σd, rl, f⟩ => ?_⟩
  rw [evE] at f
  cases es with
  | nil =>
    refine wpAny_Call_method0_late (notBare_base _ _ hb) hline (thn (ho.run pins s σ H _ I ⟨ρ, h, σd, rl, Fin.bind f⟩) fun v s1 ⟨x, H1, I1, r1, ρ1, h1, d1, e1, hs1, p1, f1⟩ => ?_)
    dsimp only at f1
    split at f1
    · rename_i hrc
      obtain ⟨k1, k2, k3, k4⟩ := rcv_ok hs1 p1 hrc
      obtain ⟨g1, g2⟩ := L2.tyV_is I1 r1 k4
      refine ⟨_, _, k1, k2, k3, g1, g2, Calls.callWith_builtin rfl (PySem.evalArgs_none ?_)⟩
      cases xs with
      | cons _ _ => cases hx
      | nil => exact bm_ok hr I1 hs1 p1 r1 .nil .nil f1
    · exact False.elim f1
  | cons e es =>
    refine wpAny_Call_method_late (notBare_base _ _ hb) (few_ok hp hz) hline rfl (thn (ho.run pins s σ H _ I ⟨ρ, h, σd, rl, Fin.bind f⟩) fun v s1 ⟨x, H1, I1, r1, ρ1, h1, d1, e1, hs1, p1, f1⟩ => ?_)
    dsimp only at f1
    split at f1
    · rename_i hrc
      obtain ⟨k1, k2, k3, k4⟩ := rcv_ok hs1 p1 hrc
      obtain ⟨g1, g2⟩ := L2.tyV_is I1 r1 k4
      refine ⟨_, _, k1, k2, k3, g1, g2, ?_⟩
      have hA := ha.run pos pins s1 σ H1 _ I1 ⟨ρ1, h1, σd, rl.next e1 hs1, Fin.bind f1⟩
      have hs := plain_star X.env es (hp e List.mem_cons_self)
      have hpl := plain_any pos X.env (es := es) fun x hx => hp x (List.mem_cons_of_mem _ hx)
      rw [hs] at hA ⊢
      refine Calls.callWith_builtin (by show (false || (backTo pos (starEach es X.env)).any (·.1)) = false; rw [hpl] <;> rfl) (Calls.evalArgs_plain ?_)
      refine thn hA fun us s2 ⟨vs, H2, I2, r2, ρ2, h2, d2, e2, hs2, p2, f2⟩ => ?_
      exact bm_ok hr I2 hs2 (p1.mono e2) r1 p2 r2 f2
    · exact False.elim f1
/-! ### tests -/
theorem s_val {x : E} (h : PE X e (tE C X W x)) (he : notTest e = true) : PT X e (tT C X W (.val x)) := by
  have hp : ∀ whole, isTrue e X.env whole = (do let v ← whole; standAt e.pos; holding [v] (truthy v)) := by
    intro whole
    cases e with
    | UnaryOp op a p => cases op <;> first | rfl | cases he
    | BoolOp _ _ _ => cases he
    | IfExp _ _ _ _ => cases he
    | Compare _ _ _ _ => cases he
    | _ => rfl
  refine ⟨fun pins s σ H Q I ⟨ρ, h', σd, rl, f⟩ => isTrue_plain ?_ (hp _)⟩
  rw [evT] at f
  refine thn (h.run pins s σ H _ I ⟨ρ, h', σd, rl, Fin.bind f⟩) fun v s1 ⟨x, H1, I1, r1, ρ1, h1, d1, e1, hs1, p1, f1⟩ => ?_
  obtain ⟨b, e, q⟩ := Fin.of f1 hs1
  exact truth_any I1 p1 r1 e fun tk => ⟨H1, I1.tok tk, q _ rfl⟩
theorem s_tnt {t : B} (h : PT X l (tT C X W t)) : PT X (.UnaryOp .Not l pos) (tT C X W (.nt t)) := by
  refine ⟨fun pins s σ H Q I ⟨ρ, h', σd, rl, f⟩ => isTrue_not ?_⟩
  rw [evT] at f
  refine thn (h.run pins s σ H _ I ⟨ρ, h', σd, rl, Fin.bind f⟩) fun b s1 ⟨H1, I1, ρ1, h1, d1, e1, hs1, p1, f1⟩ => ?_
  obtain rfl : d1 = b := p1
  exact ⟨H1, I1, Fin.ok f1 hs1 rfl⟩
theorem s_tife {t a b : B} {c : Expr} (ht : PT X c (tT C X W t)) (ha : PT X l (tT C X W a)) (hb : PT X r (tT C X W b)) : PT X (.IfExp c l r pos) (tT C X W (.ife t a b)) := by
  refine ⟨fun pins s σ H Q I ⟨ρ, h', σd, rl, f⟩ => isTrue_IfExp ?_⟩
  rw [evT] at f
  refine thn (ht.run pins s σ H _ I ⟨ρ, h', σd, rl, Fin.bind f⟩) fun k s1 ⟨H1, I1, ρ1, h1, d1, e1, hs1, p1, f1⟩ => ?_
  obtain rfl : d1 = k := p1
  cases d1 with
  | true => exact ha.run pins s1 σ H1 _ I1 ⟨ρ1, h1, σd, rl.next e1 hs1, f1⟩
  | false => exact hb.run pins s1 σ H1 _ I1 ⟨ρ1, h1, σd, rl.next e1 hs1, f1⟩
theorem s_tnil {o : BoolOp} : L2.PW X (.BoolOp o [] pos) (tTs C X W o []) := by
  refine ⟨fun wh pins s σ H Q I ⟨ρ, h', σd, rl, f⟩ => ?_⟩
  rw [evTs] at f
  cases o with
  | And => exact isTrue_and_nil ⟨H, I, Fin.ok f rl.hs rfl⟩
  | Or => exact isTrue_or_nil ⟨H, I, Fin.ok f rl.hs rfl⟩
theorem s_tcons {o : BoolOp} {a : B} {xs : List B} {es : List Expr} (ha : PT X l (tT C X W a)) (hr : L2.PW X (.BoolOp o es pos) (tTs C X W o xs)) : L2.PW X (.BoolOp o (l :: es) pos) (tTs C X W o (a :: xs)) := by
  refine ⟨fun wh pins s σ H Q I ⟨ρ, h', σd, rl, f⟩ => ?_⟩
  rw [evTs] at f
  have key : wpAny (model X.prog X.w) X.A (isTrue l X.env (eval l X.env)) (fun c s' => if (c == bop o) = true then wpAny (model X.prog X.w) X.A (isTrue (.BoolOp o es pos) X.env wh) (TP X pins σ Q) X.xe s' else TP X pins σ Q c s') X.xe s := by
    refine thn (ha.run pins s σ H _ I ⟨ρ, h', σd, rl, Fin.bind f⟩) fun k s1 ⟨H1, I1, ρ1, h1, d1, e1, hs1, p1, f1⟩ => ?_
    obtain rfl : d1 = k := p1
    dsimp only at f1
    by_cases hc : (d1 == bop o) = true
    · rw [if_pos hc] at f1 ⊢
      exact hr.run wh pins s1 σ H1 _ I1 ⟨ρ1, h1, σd, rl.next e1 hs1, f1⟩
    · rw [if_neg hc] at f1 ⊢
      exact ⟨H1, I1, Fin.ok f1 hs1 rfl⟩
  cases o with
  | And =>
    refine isTrue_and (thn key fun c s1 h1 => ?_)
    cases c with
    | true => exact h1
    | false => exact h1
  | Or =>
    refine isTrue_or (thn key fun c s1 h1 => ?_)
    cases c with
    | true => exact h1
    | false => exact h1
theorem s_tbool {o : BoolOp} {xs : List B} {e : Expr} (h : L2.PW X e (tTs C X W o xs)) : PT X e (tT C X W (.bool o xs)) := by
  refine ⟨fun pins s σ H Q I ⟨ρ, h', σd, rl, f⟩ => h.run _ pins s σ H Q I ⟨ρ, h', σd, rl, ?_⟩⟩
  rw [evT] at f
  exact f
theorem bind_assoc {α β γ : Type} (a : R α) (f : α → Hd → R β) (g : β → Hd → R γ) : (a.bind fun x h => (f x h).bind g) = (a.bind f).bind g := by cases a <;> rfl
theorem s_tcmp1 (M : WOk P X.K X.mg X.w) (hP : C.P = P) (hr : RoomE n X.A) {a b : E} {o : CmpOp} (ha : PE X l (tE C X W a)) (hb : PE X r (tE C X W b)) (pr : plainE r = true) : PT X (.Compare l [o] [r] pos) (tT C X W (.cmp a [o] [b])) := by
  refine ⟨fun pins s σ H Q I ⟨ρ, h, σd, rl, f⟩ => wpAny_isTrue_Compare1 ?_ (plain_behind o pr)⟩
  rw [evT, bind_assoc] at f
  have f' : FinB X W ρ σ H Q ((evE C (.cmp a [o] [b]) σd h).bind fun y h2 => .of (truth y) h2) := by rw [evE]; exact f
  refine thn (cmp1 M hP hr ha hb (Qd := fun _ => True) (Q := fun c s3 => wpAny (model X.prog X.w) X.A (truthy c) (TP X pins σ Q) X.xe s3) I ⟨ρ, h, σd, rl, _, Fin.bind f', fun k H1 s1 I1 ⟨ρ1, h1, d1, e1, hs1, p1, f1⟩ => ?_⟩) fun v s1 h1 => thn h1 fun u s2 h2 => h2
  cases p1
  exact wpAny_truthy_bool ⟨H1, I1, Fin.ok f1 hs1 rfl⟩
theorem s_tcmp2 (M : WOk P X.K X.mg X.w) (hP : C.P = P) (hr : RoomE n X.A) {a b c : E} {o o' : CmpOp} (ha : PE X l (tE C X W a)) (hb : PE X r (tE C X W b)) (hc : PE X r2 (tE C X W c)) (pr2 : plainE r2 = true) : PT X (.Compare l [o, o'] [r, r2] pos) (tT C X W (.cmp a [o, o'] [b, c])) := by
  refine ⟨fun pins s σ H Q I ⟨ρ, h, σd, rl, f⟩ => ?_⟩
  rw [evT] at f
  refine isTrue_chain (thn (ha.run pins s σ H _ I ⟨ρ, h, σd, rl, Fin.bind f⟩) fun v s1 ⟨x, H1, I1, r1, ρ1, h1, d1, e1, hs1, p1, f1⟩ => test_link ?_) (plain_behind o' pr2)
  dsimp only at f1
  rw [evChain2, ← bind_assoc] at f1
  refine thn (hb.run pins s1 σ H1 _ I1 ⟨ρ1, h1, σd, rl.next e1 hs1, Fin.bind f1⟩) fun u s2 ⟨y, H2, I2, r2, ρ2, h2, d2, e2, hs2, p2, f2⟩ => ?_
  dsimp only at f2
  split at f2
  · rename_i hk
    rw [hP] at hk
    refine thn (cmp_ok (Q := fun v H => v = .bl true ∧ H = H2) hr M.md I2 hs2 (p1.mono e2) r1 p2 r2 hk ⟨rfl, rfl⟩) fun w s3 ⟨v3, H3, I3, r3, e3, eH⟩ => ?_
    subst e3; subst eH
    cases r3
    refine wpAny_truthy_bool (test_last ?_)
    rw [← bind_assoc] at f2
    refine thn (hc.run pins s3 σ H3 _ I3 ⟨ρ2, h2, σd, (rl.next e1 hs1).next e2 hs2, Fin.bind f2⟩) fun u s4 ⟨z, H4, I4, r4, ρ4, h4, d4, e4, hs4, p4, f4⟩ => ?_
    dsimp only at f4
    split at f4
    · rename_i k hk4
      rw [hP] at hk4
      refine thn (cmp_ok (Q := fun v H => v = .bl k ∧ H = H4) hr M.md I4 hs4 (p2.mono e4) r2 p4 r4 hk4 ⟨rfl, rfl⟩) fun w s5 ⟨v5, H5, I5, r5, e5, eH⟩ => ?_
      subst e5; subst eH
      cases r5
      exact wpAny_truthy_bool ⟨H5, I5, Fin.ok f4 hs4 rfl⟩
    · exact False.elim f4
  · rename_i hk
    rw [hP] at hk
    refine thn (cmp_ok (Q := fun v H => v = .bl false ∧ H = H2) hr M.md I2 hs2 (p1.mono e2) r1 p2 r2 hk ⟨rfl, rfl⟩) fun w s3 ⟨v3, H3, I3, r3, e3, eH⟩ => ?_
    subst e3; subst eH
    cases r3
    exact wpAny_truthy_bool ⟨H3, I3, Fin.ok f2 hs2 rfl⟩
  · exact False.elim f2
/-! ### targets -/
def FinG (X : L2.Cx) (W : WX) (x : Option (Str × List (Str × D))) (ρ : List Addr) (σ : L2.St) (H : Hp) (ns : List Nat) (Q : L2.St → Hp → Prop) : R Sl → Prop
  | .bad => False
  | .ok σd' h' => ∀ ρ' σ' H', Ext ρ H ρ' H' → Rl X x ρ' h' σd' σ' H' → σ'.length = σ.length → (∀ i, i ∉ ns → σ'[i]? = σ[i]?) → Q σ' H'
  | .exc c fs h' => ∀ ρ' σ' cls dict H', Ext ρ H ρ' H' → HS X.K X.mg ρ' h' H' → ExcRep X.K X.mg ρ' H' c fs cls dict → W cls dict σ' H'
def tG (C : Cx) (X : L2.Cx) (W : WX) (t : T) : L2.TG := fun v σ H Q => ∃ ρ h σd d, Rl X C.ex ρ h σd σ H ∧ Rp X.K X.mg ρ H d v ∧ FinG X W C.ex ρ σ H (tgN t) Q (evTg C t d σd h)
def tGs (C : Cx) (X : L2.Cx) (W : WX) (ts : List T) : L2.TGs := fun vs σ H Q => ∃ ρ h σd ds, Rl X C.ex ρ h σd σ H ∧ RpL X.K X.mg ρ H ds vs ∧ FinG X W C.ex ρ σ H (tgNs ts) Q (evTgs C ts ds σd h)
theorem SLr.set {K : PySem.W.Frag} {mg : Str → Option Value} {ρ : List Addr} {H : Hp} {σd : Sl} {σ : L2.St} {d : D} {v : V} (i : Nat) (r : SLr K mg ρ H σd σ) (rp : Rp K mg ρ H d v) : SLr K mg ρ H (σd.set i (some d)) (σ.set i (some v)) := by
  refine ⟨by simp [r.1], fun j d' e => ?_⟩
  by_cases hj : i = j
  · subst hj
    by_cases hl : i < σd.length
    · rw [List.getElem?_set_self hl] at e
      cases e
      exact ⟨v, by rw [List.getElem?_set_self (by rw [← r.1]; exact hl)], rp⟩
    · rw [List.getElem?_eq_none (by simpa using hl)] at e
      cases e
  · rw [List.getElem?_set_ne hj] at e ⊢
    exact r.2 j d' e
theorem s_nm {i : Nat} {x : Str} (nd : X.N.Nodup) (hfn : X.env.scope.names.lookup x = some .cell → X.fn x = true) (hN : X.N[i]? = some x) (hx : locB X.env.scope x = true) : L2.PG X (.Name x pos) (tG C X W (.nm i)) := by
  have hf : X.fn x = true ∨ X.env.scope.names.lookup x = some .local := by
    rcases locB_ok hx with h | h
    · exact .inr h
    · exact .inl (hfn h)
  refine ⟨fun pins s σ H v u Q I r ⟨ρ, h, σd, d, rl, rp, f⟩ => (L2.pg_name nd hN (locB_ok hx) hf).run pins s σ H v u Q I r ?_⟩
  rw [evTg] at f
  split at f
  · exact f.elim
  · rename_i hz
    refine f ρ _ H (Ext.refl _ _) ⟨rl.hs, rl.sl.set i rp, fun c fs e => ?_⟩ (by simp) (fun j hj => ?_)
    · have hi : i ≠ 0 := by
        intro z
        subst z
        rw [e] at hz
        exact hz rfl
      exact (rl.ex c fs e).mono (Ext.refl _ _) (List.getElem?_set_ne hi)
    · exact List.getElem?_set_ne (fun z => hj (by simp [tgN, z]))
theorem FinG.trans {x : Option (Str × List (Str × D))} {ρ ρ1 : List Addr} {σ σ1 : L2.St} {H H1 : Hp} {ns ms : List Nat} {Q : L2.St → Hp → Prop} {r : R Sl} (e : Ext ρ H ρ1 H1) (hl : σ1.length = σ.length) (hn : ∀ i, i ∉ ns → σ1[i]? = σ[i]?) (f : FinG X W x ρ σ H (ns ++ ms) Q r) : FinG X W x ρ1 σ1 H1 ms Q r := by
  cases r with
  | bad => exact f
  | ok σd' h' => exact fun ρ2 σ2 H2 e2 rl2 l2 n2 => f ρ2 σ2 H2 (e.trans e2) rl2 (l2.trans hl) fun i hi => (n2 i fun z => hi (List.mem_append_right _ z)).trans (hn i fun z => hi (List.mem_append_left _ z))
  | exc c fs h' => exact fun ρ2 σ2 cls dict H2 e2 hs q => f ρ2 σ2 cls dict H2 (e.trans e2) hs q
theorem FinG.bindE {x : Option (Str × List (Str × D))} {ρ : List Addr} {σ : L2.St} {H : Hp} {ns : List Nat} {Q : L2.St → Hp → Prop} {r : R D} {g : D → Hd → R Sl} (f : FinG X W x ρ σ H ns Q (r.bind g)) :
    FinE X W ρ σ H (fun v H' => ∃ ρ' h' d, Ext ρ H ρ' H' ∧ HS X.K X.mg ρ' h' H' ∧ Rp X.K X.mg ρ' H' d v ∧ FinG X W x ρ' σ H' ns Q (g d h')) r := by
  cases r with
  | bad => exact f
  | ok d h' => exact fun ρ2 b H2 e hs z => ⟨ρ2, h', d, e, hs, z, FinG.trans (ns := []) e rfl (fun _ _ => rfl) f⟩
  | exc c fs h' => exact fun ρ2 cls dict H2 e hs q => f ρ2 σ cls dict H2 e hs q
theorem s_tgnil : L2.PGs X [] (tGs C X W []) := by
  refine ⟨fun pins s σ H vs us Q I r ⟨ρ, h, σd, ds, rl, rp, f⟩ => ?_⟩
  cases rp with
  | nil =>
    cases r
    rw [evTgs] at f
    exact assignInOrder_nil ⟨σ, H, I, f ρ σ H (Ext.refl _ _) rl rfl fun _ _ => rfl⟩
  | cons a b => exact f.elim
theorem s_tgcons {t : T} {ts : List T} {es : List Expr} (h1 : L2.PG X l (tG C X W t)) (h2 : L2.PGs X es (tGs C X W ts)) (hs : (assignEach (l :: es) X.env).map (·.2) = assign l X.env :: (assignEach es X.env).map (·.2)) : L2.PGs X (l :: es) (tGs C X W (t :: ts)) := by
  refine ⟨fun pins s σ H vs us Q I r ⟨ρ, h, σd, ds, rl, rp, f⟩ => ?_⟩
  cases rp with
  | nil => exact f.elim
  | @cons d ds v vr ra rb =>
    cases r with
    | cons r rr =>
      rw [hs]
      rw [evTgs] at f
      refine assignInOrder_cons (thn (h1.run pins s σ H _ _ (fun σ1 H1 => ∃ ρ1 h1 σd1, Ext ρ H ρ1 H1 ∧ Rl X C.ex ρ1 h1 σd1 σ1 H1 ∧ FinG X W C.ex ρ1 σ1 H1 (tgNs ts) Q (evTgs C ts ds σd1 h1)) I r ⟨ρ, h, σd, d, rl, ra, ?_⟩) fun _ s1 ⟨σ1, H1, I1, ρ1, h1, σd1, e1, rl1, f1⟩ => ?_)
      · cases hr : evTg C t d σd h with
        | bad => rw [hr] at f; exact f
        | ok σd1 h1 =>
          rw [hr] at f
          exact fun ρ1 σ1 H1 e1 rl1 l1 n1 => ⟨ρ1, h1, σd1, e1, rl1, FinG.trans (ns := tgN t) e1 l1 n1 (by simpa [tgNs] using f)⟩
        | exc c fs h1 =>
          rw [hr] at f
          exact f
      · exact h2.run pins s1 σ1 H1 _ _ Q I1 rr ⟨ρ1, h1, σd1, ds, rl1, rb.mono e1, f1⟩
theorem s_tgtup {ts : List T} {es : List Expr} {k : Nat} (hc : X.calm = true) (h : L2.PGs X es (tGs C X W ts)) (hl : es.length = ts.length) (hn : (assignEach es X.env).length = es.length) (hst : (assignEach es X.env).findIdx? (·.1) = none) : L2.PG X (.Tuple es k pos) (tG C X W (.tup ts)) := by
  refine ⟨fun pins s σ H v u Q I r ⟨ρ, h', σd, d, rl, rp, f⟩ => ?_⟩
  cases d with
  | tup ds =>
    rw [evTg] at f
    split at f
    · rename_i hz
      rw [tgN] at f
      cases rp with
      | @tup _ a vs ht lr => exact (L2.pg_tup (n := es.length) hc h hn hst).run pins s σ H (.ref a) u Q I r ⟨a, vs, rfl, ht, by rw [← lr.length, hl, hz], ρ, h', σd, ds, rl, lr, f⟩
    · exact f.elim
  | _ => exact False.elim f
theorem s_tgatt (M : WOk P X.K X.mg X.w) (hP : C.P = P) {o : E} {m : Str} (ho : PE X l (tE C X W o)) : L2.PG X (.Attribute l m pos) (tG C X W (.att o m)) := by
  refine ⟨fun pins s σ H v u Q I r ⟨ρ, h, σd, d, rl, rp, f⟩ => ?_⟩
  rw [evTg] at f
  show wpAny _ _ (do
    let ov ← holding [u] (eval l X.env)
    standAt pos.atName
    holding [u, ov] (setAttr ov m u)
    release [u, ov] []) _ _ s
  refine wpAny_bind (wpAny_holding (thn (ho.run pins s σ H _ I ⟨ρ, h, σd, rl, FinG.bindE f⟩) fun ov s1 ⟨x, H1, I1, r1, ρ1, h1, d1, e1, hs1, p1, f1⟩ => ?_))
  split at f1
  · rename_i h2 hset
    rw [hP] at hset
    refine wpAny_bind (wpAny_standAt (wpAny_bind (wpAny_holding (thn (setAtt_ok M.cl I1 hs1 p1 r1 (rp.mono e1) r hset (Qh := Q σ) fun H' e' hs' => ?_) fun _ s2 ⟨H2, I2, q2⟩ => ?_))))
    · exact f1 ρ1 σ H' e' ((rl.next e1 hs1).next e' hs') rfl fun _ _ => rfl
    · exact wpAny_release ⟨σ, H2, I2, q2⟩
  · exact f1.elim
theorem s_tgix {o i : E} (ho : PE X l (tE C X W o)) (hi : PE X r (tE C X W i)) (pr : plainE r = true) : L2.PG X (.Subscript l r pos) (tG C X W (.ix o i)) := by
  refine ⟨fun pins s σ H v u Q I rv ⟨ρ, h, σd, d, rl, rp, f⟩ => ?_⟩
  rw [evTg] at f
  have ha : assign (.Subscript l r pos) X.env u = (do
      let ov ← holding [u] (eval l X.env)
      let iv ← holding [u, ov] (eval r X.env)
      standAt pos
      holding [u, ov, iv] (setItem ov iv u)
      release [u, ov, iv] []) := by cases r <;> first | rfl | cases pr
  rw [ha]
  refine wpAny_bind (wpAny_holding (thn (ho.run pins s σ H _ I ⟨ρ, h, σd, rl, FinG.bindE f⟩) fun ov s1 ⟨x, H1, I1, r1, ρ1, h1, d1, e1, hs1, p1, f1⟩ => ?_))
  refine wpAny_bind (wpAny_holding (thn (hi.run pins s1 σ H1 _ I1 ⟨ρ1, h1, σd, rl.next e1 hs1, FinG.bindE f1⟩) fun iv s2 ⟨y, H2, I2, r2, ρ2, h2, d2, e2, hs2, p2, f2⟩ => ?_))
  split at f2
  · rename_i h3 hset
    refine wpAny_bind (wpAny_standAt (wpAny_bind (wpAny_holding (thn (setIx_ok I2 hs2 (p1.mono e2) r1 p2 r2 ((rp.mono e1).mono e2) rv hset (Qh := Q σ) fun H' e' hs' => ?_) fun _ s3 ⟨H3, I3, q3⟩ => ?_))))
    · exact f2 ρ2 σ H' e' (((rl.next e1 hs1).next e2 hs2).next e' hs') rfl fun _ _ => rfl
    · exact wpAny_release ⟨σ, H3, I3, q3⟩
  · exact f2.elim
end
end Ev
end
section
set_option Elab.async false
set_option linter.all false
set_option maxRecDepth 100000
set_option maxHeartbeats 1000000
/-! Snd8: what is walked. -/
namespace Ev
open PySem PySem.Spec PyProof.Rows
open L2 (V Hp HO upd upd_same upd_ne SqT SqL Rd Key RelV Vals VK WX TE TT TA PE PT PA XK Inv EP TP AP Gl thn FpOk PIE)
/-- our walk and HandS's -/
def ItRel (K : PySem.W.Frag) (mg : Str → Option Value) (ρ0 : List Addr) (H0 : Hp) (J : It) (L : L2.It) : Prop :=
  ∀ ρ h H i, Ext ρ0 H0 ρ H → HS K mg ρ h H → (J.next h i = some none → L.stop i H) ∧
    ∀ d, J.next h i = some (some d) → L.go i H ∧ ∀ x H', L.yld i H x H' → Ext ρ H ρ H' ∧ HS K mg ρ h H' ∧ Rp K mg ρ H' d x
section
variable {K : PySem.W.Frag} {mg : Str → Option Value} {ρ ρ' : List Addr} {H H' : Hp} {h : Hd}
theorem ItRel.mono {J : It} {L : L2.It} (x : Ext ρ H ρ' H') (r : ItRel K mg ρ H J L) : ItRel K mg ρ' H' J L := fun ρ2 h2 H2 i e hs => r ρ2 h2 H2 i (x.trans e) hs
/-- a list, as it stands at each turn -/
theorem it_lst {c : Nat} {a : Addr} (hc : ρ[c]? = some a) : ItRel K mg ρ H (.lst c) (L2.Itl K a) := by
  intro ρ2 h2 H2 i e hs
  have ea := e.at hc
  refine ⟨fun z => ?_, fun d z => ?_⟩
  · simp only [It.next] at z
    split at z
    · rename_i xs hx
      simp only [Option.some.injEq] at z
      cases hs.cell _ _ _ hx ea with
      | lst hl l => exact ⟨_, SqL.of hl, by rw [← l.length]; exact List.getElem?_eq_none_iff.mp z⟩
    · cases z
  · simp only [It.next] at z
    split at z
    · rename_i xs hx
      simp only [Option.some.injEq] at z
      cases hs.cell _ _ _ hx ea with
      | lst hl l =>
        obtain ⟨v, e1, rv⟩ := l.get z
        refine ⟨⟨_, v, SqL.of hl, e1⟩, fun x H' ⟨eH, hy⟩ => ?_⟩
        subst eH
        have q := hy _ (SqL.of hl)
        rw [e1] at q
        cases q
        exact ⟨Ext.refl _ _, hs, rv⟩
    · cases z
/-- a tuple -/
theorem it_tup {xs : List D} {vs : List V} {a : Addr} (ht : SqT K H a vs) (l : RpL K mg ρ H xs vs) : ItRel K mg ρ H (.fix xs) (L2.Itt K a) := by
  intro ρ2 h2 H2 i e hs
  have ht2 := e.rdT ht
  have l2 := l.mono e
  refine ⟨fun z => ?_, fun d z => ?_⟩
  · simp only [It.next, Option.some.injEq] at z
    exact ⟨_, ht2, by rw [← l2.length]; exact List.getElem?_eq_none_iff.mp z⟩
  · simp only [It.next, Option.some.injEq] at z
    obtain ⟨v, e1, rv⟩ := l2.get z
    refine ⟨⟨_, v, ht2, e1⟩, fun x H' ⟨eH, hy⟩ => ?_⟩
    subst eH
    have q := hy _ ht2
    rw [e1] at q
    cases q
    exact ⟨Ext.refl _ _, hs, rv⟩
theorem it_str (z : Str) : ItRel K mg ρ H (.fix (z.cps.toList.map fun c => .str ⟨#[c]⟩)) (L2.Its z) := by
  intro ρ2 h2 H2 i e hs
  refine ⟨fun q => ?_, fun d q => ?_⟩
  · simp only [It.next, Option.some.injEq] at q
    have := List.getElem?_eq_none_iff.mp q
    show z.cps.size ≤ i
    simpa using this
  · simp only [It.next, Option.some.injEq] at q
    rw [List.getElem?_map, Option.map_eq_some_iff] at q
    obtain ⟨c, q, rfl⟩ := q
    rw [Array.getElem?_toList] at q
    refine ⟨(Array.getElem?_eq_some_iff.mp q).1, fun x H' ⟨eH, c', e1, e2⟩ => ?_⟩
    subst eH; subst e2
    rw [q] at e1
    cases e1
    exact ⟨Ext.refl _ _, hs, .str _⟩
theorem it_up (lo : Int) (n : Nat) : ItRel K mg ρ H (.rng lo 1 n) (L2.Itr lo n) := by
  intro ρ2 h2 H2 i e hs
  refine ⟨fun q => ?_, fun d q => ?_⟩
  · simp only [It.next, Option.some.injEq] at q
    split at q
    · cases q
    · rename_i hi; exact Nat.le_of_not_lt hi
  · simp only [It.next, Option.some.injEq] at q
    split at q
    · rename_i hi
      cases q
      refine ⟨hi, fun x H' ⟨eH, ex⟩ => ?_⟩
      subst eH; subst ex
      rw [Int.one_mul]
      exact ⟨Ext.refl _ _, hs, .int _⟩
    · cases q
theorem it_dn (lo : Int) (n : Nat) : ItRel K mg ρ H (.rng lo (-1) n) (L2.Itc lo (-1) n) := by
  intro ρ2 h2 H2 i e hs
  refine ⟨fun q => ?_, fun d q => ?_⟩
  · simp only [It.next, Option.some.injEq] at q
    split at q
    · cases q
    · rename_i hi; exact Nat.le_of_not_lt hi
  · simp only [It.next, Option.some.injEq] at q
    split at q
    · rename_i hi
      cases q
      refine ⟨hi, fun x H' ⟨eH, ex⟩ => ?_⟩
      subst eH; subst ex
      have e3 : lo + -1 * (i : Int) = lo + (i : Nat) * (-1 : Int) := by omega
      rw [e3]
      exact ⟨Ext.refl _ _, hs, .int _⟩
    · cases q
/-- pairs of a place and an item of a list -/
theorem it_enl {c : Nat} {a : Addr} (hc : ρ[c]? = some a) : ItRel K mg ρ H (.enm (.lst c)) (L2.Ite K a) := by
  intro ρ2 h2 H2 i e hs
  have ea := e.at hc
  refine ⟨fun z => ?_, fun d z => ?_⟩
  · simp only [It.next] at z
    split at z
    · rename_i xs hx
      simp only [Option.map_some, Option.some.injEq, Option.map_eq_none_iff] at z
      cases hs.cell _ _ _ hx ea with
      | lst hl l => exact ⟨_, SqL.of hl, by rw [← l.length]; exact List.getElem?_eq_none_iff.mp z⟩
    · cases z
  · simp only [It.next] at z
    split at z
    · rename_i xs hx
      simp only [Option.map_some, Option.some.injEq, Option.map_eq_some_iff] at z
      obtain ⟨d', z, rfl⟩ := z
      cases hs.cell _ _ _ hx ea with
      | lst hl l =>
        obtain ⟨v, e1, rv⟩ := l.get z
        refine ⟨⟨_, v, SqL.of hl, e1⟩, fun x H' ⟨T, y, ex, hT, eH, hy⟩ => ?_⟩
        subst eH; subst ex
        have q := hy _ (SqL.of hl)
        rw [e1] at q
        cases q
        exact ⟨Ext.beside hT, hs.beside hT, .tup (SqT.of upd_same) (.cons (.int _) (.cons (rv.mono (Ext.beside hT)) .nil))⟩
    · cases z
end
/-! ### enumerate of a text -/
def Itns (z : Str) : L2.It := ⟨fun i _ => i < z.cps.size, fun i H v H' => ∃ T c, v = .ref T ∧ H T = none ∧ H' = upd H T (.tup [.int (i : Nat), .str ⟨#[c]⟩]) ∧ z.cps[i]? = some c, fun i _ => z.cps.size ≤ i⟩
theorem it_ens {K : PySem.W.Frag} {mg : Str → Option Value} {ρ : List Addr} {H : Hp} (z : Str) : ItRel K mg ρ H (.enm (.fix (z.cps.toList.map fun c => .str ⟨#[c]⟩))) (Itns z) := by
  intro ρ2 h2 H2 i e hs
  refine ⟨fun q => ?_, fun d q => ?_⟩
  · simp only [It.next, Option.map_some, Option.some.injEq, Option.map_eq_none_iff] at q
    have := List.getElem?_eq_none_iff.mp q
    show z.cps.size ≤ i
    simpa using this
  · simp only [It.next, Option.map_some, Option.some.injEq, Option.map_eq_some_iff] at q
    obtain ⟨d', q, rfl⟩ := q
    rw [List.getElem?_map, Option.map_eq_some_iff] at q
    obtain ⟨c, q, rfl⟩ := q
    rw [Array.getElem?_toList] at q
    refine ⟨(Array.getElem?_eq_some_iff.mp q).1, fun x H' ⟨T, c', ex, hT, eH, e1⟩ => ?_⟩
    subst eH; subst ex
    rw [q] at e1
    cases e1
    exact ⟨Ext.beside hT, hs.beside hT, .tup (SqT.of upd_same) (.cons (.int _) (.cons (.str _) .nil))⟩
theorem turn_ens {P : Program} {w : World} {K : PySem.W.Frag} {elts : List Expr} {kk : Nat} {tpos : Pos} (z : Str) (t : Tok) (e it : Addr) :
    L2.Turn P w K (.Tuple elts kk tpos) (Itns z) [e, it] e (fun i h => i ≤ z.cps.size ∧ (∃ old, IsEnum h e it ((i : Nat) : Int) old) ∧ h.IsStrIter it (strIterType z) z t i ∧ e ≠ it) where
  mem := by simp
  obj := fun i h st b hb => by
    obtain ⟨_, ⟨old, he⟩, ⟨o, ho, hc, hd⟩, _⟩ := st
    have e' : b = e ∨ b = it := by simpa using hb
    rcases e' with z | z
    · rw [z]; exact ⟨_, he, fun v q => nomatch q⟩
    · rw [z]; exact ⟨o, ho, fun v q => by rw [hd] at q; cases q⟩
  keep := fun i h h' st k => by
    obtain ⟨hz, ⟨old, he⟩, ⟨o, ho, r⟩, hne⟩ := st
    exact ⟨hz, ⟨old, k e (by simp) _ he⟩, ⟨o, k it (by simp) o ho, r⟩, hne⟩
  item := by
    intro X hP hw hK hc i pins s σ H E I hf st hg
    subst hP hw hK
    obtain ⟨hzi, ⟨old, he⟩, hit, hne⟩ := st
    have hel : e < s.heap.objs.size := Heap.lt_size he
    have hil : it < s.heap.objs.size := by obtain ⟨_, q, _⟩ := hit; exact Heap.lt_size q
    have D : Draws X.prog X.w X.A.in1 it [it] z.cps.size _ _ := Draws.text (by show X.A.handled = none; exact I.ok.hd hc) it z t
    refine wpAny_pyNext_enum_itemD D he hit hg hne (by simpa using hne) fun x h' tk hx ho hit' hT hsz hk => ?_
    obtain ⟨c, u, hcx, rfl⟩ := hx
    refine ⟨_, rfl, wpAny_letOwnedTupleGo_enum (s := { s with heap := h', toks := tk + 1 }) ho fun h'' he' sb => ?_⟩
    have hT2 : h''.get? s.heap.objs.size = some { cls := .type "tuple", data := .seq #[.int i tk, .str ⟨#[c]⟩ u] } := (sb.2 _ (Nat.ne_of_gt hel)).trans hT
    have new : L2.ObjOk X.prog X.w (upd H s.heap.objs.size (.tup [.int (i : Nat), .str ⟨#[c]⟩])) h'' s.heap.objs.size (.tup [.int (i : Nat), .str ⟨#[c]⟩]) :=
      ⟨by show 2 ≤ sizeLine; decide, [.int i tk, .str ⟨#[c]⟩ u], .cons ⟨_, rfl⟩ (.cons ⟨_, rfl⟩ .nil), ⟨_, hT2, rfl, _, rfl⟩⟩
    have I1 : Inv X pins σ (upd H s.heap.objs.size (.tup [.int (i : Nat), .str ⟨#[c]⟩])) { s with heap := h'', toks := tk + 1 } :=
      I.turnedNew (ch := [e, it]) (fun b ob hb q => (sb.2 b (fun z => hb (by simp [z]))).trans (hk b ob (fun z => hb (by simp [z])) (fun z => hb (by simp [z])) q)) hf (Nat.le_refl _) new
    refine ⟨.ref s.heap.objs.size, _, I1, rfl, ⟨_, c, rfl, I.hok.fresh (Nat.le_refl _), rfl, hcx⟩, ⟨Nat.succ_le_of_lt hg, ⟨.str ⟨#[c]⟩ u, ?_⟩, ?_, hne⟩, fun b hb => ?_⟩
    · have e1 : ((i + 1 : Nat) : Int) = (i : Int) + 1 := by omega
      rw [e1]; exact he'
    · obtain ⟨o, ho2, r⟩ := hit'
      exact ⟨o, (sb.2 it (Ne.symm hne)).trans ho2, r⟩
    · have hb' : b < s.heap.objs.size := by
        have e' : b = e ∨ b = it := by simpa using hb
        rcases e' with z | z
        · rw [z]; exact hel
        · rw [z]; exact hil
      rw [upd_ne (Nat.ne_of_lt hb')]
      exact (hf b hb).1
  done := by
    intro X hP hw hK hc i pins s σ H E I hf st hg
    subst hP hw hK
    obtain ⟨hzi, ⟨old, he⟩, hit, hne⟩ := st
    have ei : i = z.cps.size := Nat.le_antisymm hzi hg
    subst ei
    obtain ⟨f0, f1, f2, f3, f4, f5⟩ := hf it (by simp)
    have D : Draws X.prog X.w X.A.in1 it [it] z.cps.size _ _ := Draws.text (by show X.A.handled = none; exact I.ok.hd hc) it z t
    exact wpAny_pyNext_enum_endD D he hit fun h' eb => ⟨rfl, I.turned (t' := s.toks) (fun b o hb q => eb b o hb q) f0 f1 f3 f4 f5⟩
  self := fun A i s Q E st h => let ⟨_, ⟨_, he⟩, _⟩ := st; wpAny_pyIter_enum he h
end Ev
end
section
set_option Elab.async false
set_option linter.all false
set_option maxRecDepth 100000
set_option maxHeartbeats 1000000
/-! Snd9: what stands behind "in"; list comprehensions. -/
namespace Ev
open PySem PySem.Spec PyProof.Rows
open L2 (V Hp HO upd upd_same upd_ne SqT SqL Rd Key RelV Vals VK WX TE TT TA PE PT PA XK Inv EP TP AP Gl thn FpOk PIE PI TI PG)
section
variable {P : Prog} {C : Cx} {X : L2.Cx} {W : WX} {hot : Bool} {n : Nat} {e l r tg : Expr} {pos p : Pos}
def tI (C : Cx) (X : L2.Cx) (W : WX) (it : IE) : TI := fun σ H R => ∃ ρ h σd, Rl X C.ex ρ h σd σ H ∧ Fin X.K X.mg (ItRel X.K X.mg) W ρ σ H R (evIt C it σd h)
theorem piOr {t1 t2 : TI} (h1 : PI X tg e t1) (h2 : PI X tg e t2) : PI X tg e (fun σ H R => t1 σ H R ∨ t2 σ H R) :=
  ⟨fun pins s σ H R I h => h.elim (h1.run pins s σ H R I) (h2.run pins s σ H R I)⟩
theorem paOne {a : E} (h : PE X e (tE C X W a)) (pe : plainE e = true) : PA X [e] (L2.tCons (tE C X W a) L2.tNil) := L2.pa_cons h L2.pa_nil (plain_star X.env [] pe)
theorem s_ival {x : E} (h : PE X e (tE C X W x)) : PI X tg e (tI C X W (.val x)) := by
  refine ⟨fun pins s σ H R I ⟨ρ, h', σd, rl, f⟩ => (piOr (L2.pi_list h) (piOr (L2.pi_tup h) (L2.pi_str h))).run pins s σ H R I ?_⟩
  rw [evIt] at f
  cases hr : evE C x σd h' with
  | bad => rw [hr] at f; exact False.elim f
  | exc c fs h1 => rw [hr] at f; exact .inl ⟨ρ, h', σd, rl, by rw [hr]; exact f⟩
  | ok d h1 =>
    rw [hr] at f
    cases d with
    | tup xs =>
      refine .inr (.inl ⟨ρ, h', σd, rl, ?_⟩)
      rw [hr]
      intro ρ1 v H1 e1 hs1 p1
      cases p1 with
      | tup ht l => exact ⟨_, rfl, ⟨_, ht⟩, f ρ1 _ H1 e1 hs1 (it_tup ht l)⟩
    | str z =>
      refine .inr (.inr ⟨ρ, h', σd, rl, ?_⟩)
      rw [hr]
      intro ρ1 v H1 e1 hs1 p1
      cases p1
      exact ⟨z, rfl, f ρ1 _ H1 e1 hs1 (it_str z)⟩
    | ref c =>
      refine .inl ⟨ρ, h', σd, rl, ?_⟩
      rw [hr]
      intro ρ1 v H1 e1 hs1 p1
      have f' : Fin X.K X.mg (ItRel X.K X.mg) W ρ σ H R (.of (itOf (.ref c) h1) h1) := f
      unfold itOf at f'
      dsimp only at f'
      split at f'
      · rename_i hc
        obtain ⟨a, vs, rfl, ea, hl, _⟩ := lst_at hs1 p1 hc
        exact ⟨a, rfl, ⟨_, SqL.of hl⟩, f' ρ1 _ H1 e1 hs1 (it_lst ea)⟩
      · exact False.elim f'
    | _ => exact False.elim f
theorem small_ok {i : Int} (h : smallI i = true) : -(2 ^ 62) ≤ i ∧ i < 2 ^ 62 := by
  have := of_decide_eq_true h
  omega
theorem s_rng1 (M : WOk P X.K X.mg X.w) {x : E} (hg : glB X.env.scope "range" = true) (h : PE X e (tE C X W x)) (pe : plainE e = true) : PI X tg (.Call (.Name "range" p) [e] [] pos) (tI C X W (.rng1 x)) := by
  refine ⟨fun pins s σ H R I ⟨ρ, h', σd, rl, f⟩ => (L2.pi_range1 (glB_ok hg) M.it.1 (paOne h pe) (plain_star X.env [] pe)).run pins s σ H R I ?_⟩
  rw [evIt] at f
  refine ⟨ρ, h', σd, rl, Fin.imp (Fin.bind f) fun v H1 ⟨ρ1, h1, d1, e1, hs1, p1, f1⟩ => ?_⟩
  cases d1 with
  | int i =>
    cases p1
    have f' : Fin X.K X.mg (ItRel X.K X.mg) W ρ1 σ H1 R (.of (rngUp 0 i) h1) := f1
    unfold rngUp at f'
    split at f'
    · rename_i hz
      obtain ⟨b1, b2⟩ := small_ok hz.2
      refine ⟨i, rfl, b1, b2, ?_⟩
      have := f' ρ1 _ H1 (Ext.refl _ _) hs1 (it_up 0 (i - 0).toNat)
      simpa using this
    · exact False.elim f'
  | _ => exact False.elim f1
theorem s_rng2 (M : WOk P X.K X.mg X.w) {x y : E} (hg : glB X.env.scope "range" = true) (h : PE X l (tE C X W x)) (h2 : PE X r (tE C X W y)) (pl : plainE l = true) (pr : plainE r = true) : PI X tg (.Call (.Name "range" p) [l, r] [] pos) (tI C X W (.rng2 x y)) := by
  have hs : starEach [l, r] X.env = [(false, eval l X.env), (false, eval r X.env)] := by rw [plain_star X.env [r] pl, plain_star X.env [] pr]; rfl
  refine ⟨fun pins s σ H R I ⟨ρ, h', σd, rl, f⟩ => (L2.pi_range2 (glB_ok hg) M.it.1 (L2.pa_cons h (paOne h2 pr) (plain_star X.env [r] pl)) hs (plain_star X.env [] pr)).run pins s σ H R I ?_⟩
  rw [evIt] at f
  refine ⟨ρ, h', σd, rl, Fin.imp (Fin.bind f) fun v H1 ⟨ρ1, h1, d1, e1, hs1, p1, f1⟩ => ?_⟩
  refine ⟨ρ1, h1, σd, rl.next e1 hs1, Fin.imp (Fin.bind f1) fun u H2 ⟨ρ2, h2, d2, e2, hs2, p2, f2⟩ => ?_⟩
  cases d1 with
  | int i =>
    cases d2 with
    | int j =>
      cases p1; cases p2
      have f' : Fin X.K X.mg (ItRel X.K X.mg) W ρ2 σ H2 R (.of (rngUp i j) h2) := f2
      unfold rngUp at f'
      split at f'
      · rename_i hz
        obtain ⟨b1, b2⟩ := small_ok hz.1
        obtain ⟨b3, b4⟩ := small_ok hz.2
        exact ⟨i, j, rfl, ⟨b1, b2, b3, b4⟩, f' ρ2 _ H2 (Ext.refl _ _) hs2 (it_up i _)⟩
      · exact False.elim f'
    | _ => exact False.elim f2
  | _ => exact False.elim f2
theorem s_rng3 (M : WOk P X.K X.mg X.w) {x y z : E} {r2 : Expr} (hg : glB X.env.scope "range" = true) (h : PE X l (tE C X W x)) (h2 : PE X r (tE C X W y)) (h3 : PE X r2 (tE C X W z)) (pl : plainE l = true) (pr : plainE r = true) (pr2 : plainE r2 = true) :
    PI X tg (.Call (.Name "range" p) [l, r, r2] [] pos) (tI C X W (.rng3 x y z)) := by
  have hpl := plain_any pos X.env (es := [r, r2]) (by intro e he; simp at he; rcases he with rfl | rfl <;> assumption)
  refine ⟨fun pins s σ H R I ⟨ρ, h', σd, rl, f⟩ => (L2.pi_range3 (glB_ok hg) M.it.1 (L2.pa_cons h (L2.pa_cons h2 (paOne h3 pr2) (plain_star X.env [r2] pr)) (plain_star X.env [r, r2] pl)) (plain_star X.env [r, r2] pl) hpl).run pins s σ H R I ?_⟩
  rw [evIt] at f
  refine ⟨ρ, h', σd, rl, Fin.imp (Fin.bind f) fun v H1 ⟨ρ1, h1, d1, e1, hs1, p1, f1⟩ => ?_⟩
  refine ⟨ρ1, h1, σd, rl.next e1 hs1, Fin.imp (Fin.bind f1) fun u H2 ⟨ρ2, h2, d2, e2, hs2, p2, f2⟩ => ?_⟩
  refine ⟨ρ2, h2, σd, (rl.next e1 hs1).next e2 hs2, Fin.imp (Fin.bind f2) fun u H3 ⟨ρ3, h3, d3, e3, hs3, p3, f3⟩ => ?_⟩
  cases d1 with
  | int i =>
    cases d2 with
    | int j =>
      cases d3 with
      | int k =>
        cases p1; cases p2; cases p3
        have f' : Fin X.K X.mg (ItRel X.K X.mg) W ρ3 σ H3 R (if k = -1 then .of (rngDn i j) h3 else .bad) := f3
        split at f'
        · rename_i hk
          subst hk
          unfold rngDn at f'
          split at f'
          · rename_i hz
            obtain ⟨b1, b2⟩ := small_ok hz.1
            obtain ⟨b3, b4⟩ := small_ok hz.2
            exact ⟨i, j, -1, _, rfl, L2.RgC.neg b1 b2 b3 b4, f' ρ3 _ H3 (Ext.refl _ _) hs3 (it_dn i _)⟩
          · exact False.elim f'
        · exact False.elim f'
      | _ => exact False.elim f3
    | _ => exact False.elim f3
  | _ => exact False.elim f3
/-- enumerate of a text -/
def iEnumS (te : TE) : TI := fun σ H R => te σ H fun v H1 => ∃ z, v = .str z ∧ R (Itns z) H1
def oneS (R : L2.It → Hp → Prop) : List V → Hp → Prop
  | [v], H1 => ∃ z, v = .str z ∧ R (Itns z) H1
  | _, _ => False
theorem pi_enumS {te : TE} {elts : List Expr} {kk : Nat} {tpos : Pos} (hg : Gl X "enumerate") (hm : X.mg "enumerate" = none) (h : PE X e te) (pe : plainE e = true) : PI X (.Tuple elts kk tpos) (.Call (.Name "enumerate" p) [e] [] pos) (iEnumS te) := by
  have hs : starEach [e] X.env = [(false, eval e X.env)] := plain_star X.env [] pe
  refine ⟨fun pins s σ H R I hw => ?_⟩
  refine Call_ (L2.ld_blt I hg hm boot_enumerate (callWith_type1 (thn ((L2.pa_cons h L2.pa_nil (plain_star X.env [] pe)).run pos pins s σ H (oneS R) I hw) fun us s1 ⟨vs, H1, I1, r1, q1⟩ => ?_) hs rfl))
  cases r1 with
  | nil => exact False.elim q1
  | cons ra rb =>
    cases rb with
    | cons _ _ => exact False.elim q1
    | nil =>
      obtain ⟨z, ev, q⟩ := q1
      subst ev
      obtain ⟨t, rfl⟩ := ra
      refine call_enumerate_str fun h' he hit hsz hk => wpAny_pyIter_enum he ?_
      have I2 : Inv X pins σ H1 { s1 with heap := h' } := I1.kept (t' := s1.toks) hk
      refine ⟨s1.heap.objs.size + 1, [s1.heap.objs.size + 1, s1.heap.objs.size], _, _, H1, rfl, I2, turn_ens z t (s1.heap.objs.size + 1) s1.heap.objs.size, ⟨Nat.zero_le _, ⟨.none, he⟩, hit, Nat.succ_ne_self _⟩, fun b hb => ?_, q⟩
      have hle : s1.heap.objs.size ≤ b := by
        simp at hb
        rcases hb with rfl | rfl
        · exact Nat.le_succ _
        · exact Nat.le_refl _
      exact I1.fpOk hle (I1.hok.fresh hle)
theorem isTupE_ok (h : isTupE e = true) : ∃ es k p, e = .Tuple es k p := by
  cases e <;> first | exact ⟨_, _, _, rfl⟩ | cases h
theorem s_enm (M : WOk P X.K X.mg X.w) {x : E} (hg : glB X.env.scope "enumerate" = true) (h : PE X e (tE C X W x)) (pe : plainE e = true) (ht : isTupE tg = true) : PI X tg (.Call (.Name "enumerate" p) [e] [] pos) (tI C X W (.enm x)) := by
  obtain ⟨es, k, tp, rfl⟩ := isTupE_ok ht
  refine ⟨fun pins s σ H R I ⟨ρ, h', σd, rl, f⟩ => (piOr (L2.pi_enum (glB_ok hg) M.it.2.1 (paOne h pe) (plain_star X.env [] pe)) (pi_enumS (glB_ok hg) M.it.2.1 h pe)).run pins s σ H R I ?_⟩
  rw [evIt] at f
  cases hr : evE C x σd h' with
  | bad => rw [hr] at f; exact False.elim f
  | exc c fs h1 => rw [hr] at f; exact .inl ⟨ρ, h', σd, rl, by rw [hr]; exact f⟩
  | ok d h1 =>
    rw [hr] at f
    cases d with
    | str z =>
      refine .inr ⟨ρ, h', σd, rl, ?_⟩
      rw [hr]
      intro ρ1 v H1 e1 hs1 p1
      cases p1
      exact ⟨z, rfl, f ρ1 _ H1 e1 hs1 (it_ens z)⟩
    | ref c =>
      refine .inl ⟨ρ, h', σd, rl, ?_⟩
      rw [hr]
      intro ρ1 v H1 e1 hs1 p1
      have f' : Fin X.K X.mg (ItRel X.K X.mg) W ρ σ H R (.of ((enmIt (.ref c) h1).map .enm) h1) := f
      unfold enmIt at f'
      dsimp only at f'
      split at f'
      · rename_i hc
        obtain ⟨a, vs, rfl, ea, hl, _⟩ := lst_at hs1 p1 hc
        exact ⟨a, _, rfl, SqL.of hl, f' ρ1 _ H1 e1 hs1 (it_enl ea)⟩
      · exact False.elim f'
    | _ => exact False.elim f
/-! ### list comprehensions -/
def tIf (C : Cx) (X : L2.Cx) (W : WX) (t : Option B) : TT := fun σ H Q => ∃ ρ h σd, Rl X C.ex ρ h σd σ H ∧ FinB X W ρ σ H Q (evIfs C t σd h)
theorem s_if0 : L2.PTs X [] (tIf C X W none) := ⟨fun pins s σ H Q I ⟨ρ, h, σd, rl, f⟩ => L2.pts_nil.run pins s σ H Q I (by rw [evIfs] at f; exact Fin.ok f rl.hs rfl)⟩
theorem s_if1 {t : B} (h : PT X e (tT C X W t)) : L2.PTs X [e] (tIf C X W (some t)) := ⟨fun pins s σ H Q I ⟨ρ, h', σd, rl, f⟩ => (L2.pts_one h).run pins s σ H Q I ⟨ρ, h', σd, rl, by rw [evIfs] at f; exact f⟩⟩
theorem wipe_eq {σ σ' : L2.St} : ∀ {vs : List Nat}, σ'.length = σ.length → (∀ i, i ∉ vs → σ'[i]? = σ[i]?) → L2.wipe σ' vs = L2.wipe σ vs := by
  have get : ∀ (vs : List Nat) (τ : L2.St) (i : Nat), (L2.wipe τ vs)[i]? = if i ∈ vs ∧ i < τ.length then some none else τ[i]? := by
    intro vs
    induction vs with
    | nil => intro τ i; simp [L2.wipe]
    | cons v vs ih =>
      intro τ i
      unfold L2.wipe
      by_cases hv : v = i
      · subst hv
        by_cases hl : v < τ.length
        · rw [List.getElem?_set_self (by rw [L2.wipe_length]; exact hl)]
          simp [hl]
        · rw [List.getElem?_eq_none (by rw [List.length_set, L2.wipe_length]; omega), if_neg (fun z => hl z.2), List.getElem?_eq_none (by omega)]
      · rw [List.getElem?_set_ne hv, ih]
        have : (i ∈ v :: vs) ↔ i ∈ vs := by simp [Ne.symm hv]
        simp [this]
  intro vs hl hn
  apply List.ext_getElem?
  intro i
  rw [get, get, hl]
  by_cases hi : i ∈ vs
  · by_cases h2 : i < σ.length
    · simp [hi, h2]
    · rw [if_neg (fun z => h2 z.2), if_neg (fun z => h2 z.2), List.getElem?_eq_none (by omega), List.getElem?_eq_none (by omega)]
  · rw [if_neg (fun z => hi z.1), if_neg (fun z => hi z.1)]
    exact hn i hi
theorem SLr.wipe {K : PySem.W.Frag} {mg : Str → Option Value} {ρ : List Addr} {H : Hp} {σd : Sl} {σ : L2.St} (r : SLr K mg ρ H σd σ) : ∀ (vs : List Nat), SLr K mg ρ H (wipe σd vs) (L2.wipe σ vs)
  | [] => r
  | v :: vs => by
    have ih := SLr.wipe r vs
    unfold Ev.wipe L2.wipe
    refine ⟨by simp [ih.1], fun i d e => ?_⟩
    by_cases hi : v = i
    · subst hi
      by_cases hl : v < (Ev.wipe σd vs).length
      · rw [List.getElem?_set_self hl] at e; cases e
      · rw [List.getElem?_eq_none (by simpa using hl)] at e; cases e
    · rw [List.getElem?_set_ne hi] at e ⊢
      exact ih.2 i d e
theorem HS.add {K : PySem.W.Frag} {mg : Str → Option Value} {ρ : List Addr} {H : Hp} {hd : Hd} {p : Addr} {x : Cell} (h : HS K mg ρ hd H) (hn : p ∉ ρ) (r : RCell K mg (ρ ++ [p]) H x p) : HS K mg (ρ ++ [p]) (hd ++ [x]) H := by
  refine ⟨by simp [h.len], ?_, fun c y a e ea => ?_⟩
  · refine List.nodup_append.mpr ⟨h.nd, by simp, fun a ha b hb e => ?_⟩
    simp at hb
    exact hn (by rw [← hb, ← e]; exact ha)
  · by_cases hc : c < hd.length
    · rw [List.getElem?_append_left hc] at e
      rw [List.getElem?_append_left (by rw [h.len]; exact hc)] at ea
      exact (h.cell c y a e ea).mono (Ext0.snoc ρ _ p) (fun _ q => q)
    · have hc2 : c = hd.length := by
        have := (List.getElem?_eq_some_iff.mp e).1
        simp at this; omega
      subst hc2
      simp at e
      rw [← h.len] at ea
      simp at ea
      subst e; subst ea
      exact r
abbrev W0 : WX := fun _ _ _ _ => False
/-- what is asked of a comprehension's turns -/
theorem lc_turns (hex : C.ex = none) {elt : E} {t : T} {it : IE} {ifs : Option B} {own : List Nat} (hown : ∀ i ∈ tgN t, i ∈ own) {σ : L2.St} {H : Hp} {Q : VK} (h : tE C X W (.lc elt t it ifs own) σ H Q) :
    L2.tLc (tI C X W it) (tG C X W0 t) (tIf C X W0 ifs) (tE C X W0 elt) own σ H Q := by
  obtain ⟨ρ, h, σd, rl, f⟩ := h
  rw [evE] at f
  refine ⟨ρ, h, σd, rl, Fin.imp (Fin.bind f) fun L H1 ⟨ρ1, h1, J, e1, hs1, hJ, f1⟩ D hD => ?_⟩
  dsimp only at f1
  have rl1 := rl.next e1 hs1
  refine ⟨fun i m H' => ∃ ρ' h' acc av, Ext ρ1 H1 ρ' H' ∧ HS X.K X.mg ρ' h' H' ∧ D ∉ ρ' ∧ H' D = some (.lst av) ∧ RpL X.K X.mg ρ' H' acc av ∧
    FinE X W ρ1 σ H1 Q ((lcLoop (evTg C t) (evIfs C ifs) (evE C elt) own J σd m i acc h').bind fun ys h2 => new (.lst ys) h2), ⟨C.fuel, ρ1, h1, [], [], Ext.beside hD, hs1.beside hD, hs1.notIn hD, upd_same, .nil, f1⟩, ?_⟩
  rintro i m H' ⟨ρ', h', acc, av, e', hs', hn, hHD, racc, f'⟩
  cases m with
  | zero => exact False.elim f'
  | succ m =>
    unfold lcLoop at f'
    obtain ⟨j1, j2⟩ := hJ ρ' h' H' i e' hs'
    cases hj : J.next h' i with
    | none => rw [hj] at f'; exact False.elim f'
    | some o =>
      cases o with
      | none =>
        rw [hj] at f'
        refine .inl ⟨j1 hj, ?_⟩
        have eD : Ext ρ1 H1 (ρ' ++ [D]) H' := ⟨⟨by obtain ⟨l, q⟩ := e'.pre; exact ⟨l ++ [D], by rw [q, List.append_assoc]⟩, e'.imm⟩, e'.frm, fun a ha => by
          rcases List.mem_append.mp ha with z | z
          · exact e'.frs a z
          · simp at z; subst z; exact .inr hD⟩
        refine f' (ρ' ++ [D]) (.ref D) H' eD (hs'.add hn (.lst hHD (racc.mono0 (Ext0.snoc ρ' H' D)))) ?_
        rw [← hs'.len]
        exact Rp.new ρ'
      | some d =>
        rw [hj] at f'
        obtain ⟨g1, g2⟩ := j2 d hj
        refine .inr ⟨g1, fun H'' => ∃ ρ' h' acc av, Ext ρ1 H1 ρ' H'' ∧ HS X.K X.mg ρ' h' H'' ∧ D ∉ ρ' ∧ H'' D = some (.lst av) ∧ RpL X.K X.mg ρ' H'' acc av ∧
          FinE X W ρ1 σ H1 Q ((lcLoop (evTg C t) (evIfs C ifs) (evE C elt) own J σd m (i + 1) acc h').bind fun ys h2 => new (.lst ys) h2), fun H'' q => ⟨m, Nat.lt_succ_self m, q⟩, fun x H2 hy => ?_⟩
        obtain ⟨e2, hs2, rx⟩ := g2 x H2 hy
        have hHD2 := e2.frm _ _ hHD hn
        dsimp only at f'
        refine ⟨ρ', h', Ev.wipe σd own, d, ⟨hs2, ((rl1.sl.mono e').mono e2).wipe own, fun c fs z => by rw [hex] at z; cases z⟩, rx, ?_⟩
        cases ht : evTg C t d (Ev.wipe σd own) h' with
        | bad => rw [ht] at f'; exact False.elim f'
        | exc c fs h3 => rw [ht] at f'; exact False.elim f'
        | ok σ3 h3 =>
          rw [ht] at f'
          intro ρ3 τ3 H3 e3 rl3 l3 n3
          refine ⟨?_, ρ3, h3, σ3, rl3, ?_⟩
          · have : L2.wipe τ3 own = L2.wipe (L2.wipe σ own) own := wipe_eq l3 fun i hi => n3 i fun z => hi (hown i z)
            rw [this]
            apply wipe_eq (L2.wipe_length _ _)
            intro i hi
            have : ∀ (vs : List Nat), i ∉ vs → (L2.wipe σ vs)[i]? = σ[i]? := by
              intro vs
              induction vs with
              | nil => intro _; rfl
              | cons v vs ih =>
                intro hi
                simp only [List.mem_cons, not_or] at hi
                unfold L2.wipe
                rw [List.getElem?_set_ne (Ne.symm hi.1)]
                exact ih hi.2
            exact this own hi
          · dsimp only at f'
            have nD : ∀ {ρa ρb : List Addr} {Ha Hb : Hp}, Ext ρa Ha ρb Hb → D ∉ ρa → (∃ o, Ha D = some o) → D ∉ ρb := fun e hn ⟨o, ho⟩ hm => by
              rcases e.frs _ hm with z | z
              · exact hn z
              · rw [ho] at z; cases z
            have hn3 := nD e3 hn ⟨_, hHD2⟩
            have hHD3 := e3.frm _ _ hHD2 hn
            cases hf : evIfs C ifs σ3 h3 with
            | bad => rw [hf] at f'; exact False.elim f'
            | exc c fs h4 => rw [hf] at f'; exact False.elim f'
            | ok b h4 =>
              rw [hf] at f'
              intro ρ4 b' H4 e4 hs4 hb
              obtain rfl : b = b' := hb
              have hn4 := nD e4 hn3 ⟨_, hHD3⟩
              have hHD4 := e4.frm _ _ hHD3 hn3
              cases b with
              | false =>
                dsimp only at f'
                rw [if_neg Bool.false_ne_true]
                exact ⟨ρ4, h4, acc, av, ((e'.trans e2).trans e3).trans e4, hs4, hn4, hHD4, ((racc.mono e2).mono e3).mono e4, f'⟩
              | true =>
                dsimp only at f'
                rw [if_pos rfl]
                refine ⟨ρ4, h4, σ3, rl3.next e4 hs4, ?_⟩
                cases he : evE C elt σ3 h4 with
                | bad => rw [he] at f'; exact False.elim f'
                | exc c fs h5 => rw [he] at f'; exact False.elim f'
                | ok y h5 =>
                  rw [he] at f'
                  dsimp only at f'
                  intro ρ5 v5 H5 e5 hs5 r5
                  split at f'
                  · rename_i hz
                    have hn5 := nD e5 hn4 ⟨_, hHD4⟩
                    have hHD5 := e5.frm _ _ hHD4 hn4
                    have racc5 := (((racc.mono e2).mono e3).mono e4).mono e5
                    have e15 := (((e'.trans e2).trans e3).trans e4).trans e5
                    have hx0 : Ext0 ρ5 H5 ρ5 (upd H5 D (.lst (av ++ [v5]))) := ⟨⟨[], by simp⟩, fun a o q i => by
                      by_cases ha : a = D
                      · subst ha; rw [hHD5] at q; cases q; exact False.elim i
                      · rw [upd_ne ha]; exact q⟩
                    refine ⟨av, hHD5, by rw [← racc.length]; have := lim_line (Nat.succ_le_of_lt hz); omega, ρ5, h5, acc ++ [y], av ++ [v5], ?_, ?_, hn5, upd_same, (racc5.snoc r5).mono0 hx0, f'⟩
                    · refine ⟨⟨e15.pre, fun a o q i => hx0.imm _ _ (e15.imm a o q i) i⟩, fun a o q nm => ?_, e15.frs⟩
                      rw [upd_ne (fun z => by rw [z, hD] at q; cases q)]
                      exact e15.frm a o q nm
                    · refine ⟨hs5.len, hs5.nd, fun c x a q ea => (hs5.cell c x a q ea).mono hx0 fun o z => ?_⟩
                      rw [upd_ne (fun z' => hn5 (by rw [← z']; exact List.mem_of_getElem? ea))]
                      exact z
                  · exact False.elim f'
end
end Ev
end
section
set_option Elab.async false
set_option linter.all false
set_option maxRecDepth 100000
set_option maxHeartbeats 1000000
/-! Snd10: calls of own defs; what is raised; the exception in a hot def; try. -/
namespace Ev
open PySem PySem.Spec PyProof.Rows
open L2 (V Hp HO upd upd_same upd_ne SqT SqL Rd Key RelV Vals VK WX TE TT TA PE PT PA XK Inv EP TP AP Gl thn FpOk PIE PI TI PG)
/-! ### what defs promise -/
/-- a def of ours computes sp -/
structure FnE (prog : Program) (w : World) (K : PySem.W.Frag) (mg : Str → Option Value) (base : Heap) (n : Nat) (f : Addr) (fd : FuncData) (ps : List Str) (sp : List D → Hd → R D) : Prop where
  run : ∀ (A : Around) (outer : List Env) (s : Shared) (H : Hp) (args : Args) (us : List Value) (vs : List V) (Q : VK) (E : XK) (ρ : List Addr) (h : Hd) (ds : List D), RoomE n A → A.handled = none → L2.Env0 prog w K mg base A outer s H →
    BindsTo s fd args (ps.zip us) → us.length = ps.length → Vals vs us → HS K mg ρ h H → RpL K mg ρ H ds vs → Fin K mg (Rp K mg) (fun c d _ H => E c d H) ρ [] H Q (sp ds h) →
    codeAny (model prog w) A (.call (.ref f) args) (L2.CR (L2.CX prog w) outer prog w H s Q E) s
/-- a def that is handed a caught exception -/
structure FnEH (prog : Program) (w : World) (K : PySem.W.Frag) (mg : Str → Option Value) (base : Heap) (n : Nat) (f : Addr) (fd : FuncData) (ps : List Str) (sp : Str → List (Str × D) → Hd → R D) : Prop where
  run : ∀ (A : Around) (outer : List Env) (s : Shared) (H : Hp) (args : Args) (Q : VK) (ρ : List Addr) (h : Hd) (c : Str) (fs : List (Str × D)) (a : Addr) (oe : Obj) (cls : Value) (d : Option Addr) (d' : D) (h' : Hd), RoomE n A → L2.Env0 prog w K mg base A outer s H →
    L2H.PinOk outer H s (a, oe) → L2.Zc cls d oe → (∃ vs, oe.data = .fields vs) → ExcRep K mg ρ H c fs cls d → BindsTo s fd args (ps.zip [.ref a]) → ps.length = 1 → HS K mg ρ h H → sp c fs h = .ok d' h' →
    (∀ ρ' v H', Ext ρ H ρ' H' → HS K mg ρ' h' H' → Rp K mg ρ' H' d' v → Q v H') → codeAny (model prog w) A (.call (.ref f) args) (L2.CR (L2.CX prog w) outer prog w H s Q (fun _ _ _ => False)) s
/-- how a def of ours stands in the written part -/
structure Own (K : PySem.W.Frag) (mg : Str → Option Value) (P : Prog) (hot : Bool) (c x : Str) (f : Fn) (a : Addr) (fd : FuncData) (ps : List Str) : Prop where
  at_ : c = "" → mg x = some (.ref a)
  kp : PySem.W.keepIn K (.ref a) = true
  bd : L2.Binds K fd ps []
  np : ps.length = f.np
  h1 : hot = true → ps.length = 1
  tx : ∃ (name qual : Str) (params : Arguments) (body : List Stmt) (scope : Scope) (dV kV doc pm cdv ct oc : Value) (an od : Option Addr) (osl : Array (Option Value)) (N : List Str), fd = PySem.W.fnOf name qual params body scope dV kV doc pm an cdv ct ∧
    K.lookup a = some ⟨oc, od, .func fd, osl⟩ ∧ PySem.W.codeIn K cdv qual = true ∧ L2.FnScope N ps scope ∧ N.length = f.ns ∧ okSs P N hot f.body scope body = true
/-- the calls that an evaluator makes are kept -/
structure CallOk (P : Prog) (C : Cx) (prog : Program) (w : World) (K : PySem.W.Frag) (mg : Str → Option Value) (base : Heap) (n : Nat) : Prop where
  call : ∀ k x f a fd ps, P.fn k x = some f → P.hot x = false → Own K mg P false k x f a fd ps → FnE prog w K mg base n a fd ps (C.call k x)
  callE : ∀ x f a fd ps, P.fn "" x = some f → P.hot x = true → Own K mg P true "" x f a fd ps → FnEH prog w K mg base n a fd ps (C.callE x)
  len : ∀ k x f ds h, P.fn k x = some f → ds.length ≠ f.np → C.call k x ds h = .bad
/-- own classes of exceptions -/
structure EOk (K : PySem.W.Frag) (mg : Str → Option Value) (P : Prog) : Prop where
  raises : ∀ c, P.exc c = some [] → ∃ C, mg c = some (.ref C) ∧ PySem.W.excIn K C He.veBase "ValueError.__new__" = true ∧ PySem.W.keepIn K (.ref C) = true ∧ PySem.W.subIn K (.ref C) (.type "BaseException") = some true ∧ PySem.W.typeIn K (.ref C) = some (.type "type")
  at_ : ∀ c ps, P.exc c = some ps → ∃ C, mg c = some (.ref C)
  exm : ∀ c k C D, (P.exc c).isSome = true → (P.exc k).isSome = true → mg c = some (.ref C) → mg k = some (.ref D) → PySem.W.exmOne K (.ref C) (.ref D) = some (P.sub c k)
  ec : ∀ c C, (P.exc c).isSome = true → mg c = some (.ref C) → L2.ExcC K C
  isg : ∀ c k C D b, (P.exc c).isSome = true → mg c = some (.ref C) → mg k = some (.ref D) → isExc1 P c (.glob k) = some b → PySem.W.kitOne K (.ref C) (.ref D) = some b
  ist : ∀ c n C b, (P.exc c).isSome = true → mg c = some (.ref C) → isExc1 P c (.ty n) = some b → PySem.W.kitOne K (.ref C) (.type n) = some b
/-- every def of the program stands -/
structure DOk (K : PySem.W.Frag) (mg : Str → Option Value) (P : Prog) : Prop where
  own : ∀ x f, P.fn "" x = some f → ∃ a fd ps, Own K mg P (P.hot x) "" x f a fd ps
section
variable {P : Prog} {C : Cx} {X : L2.Cx} {W : WX} {hot : Bool} {n m : Nat} {e l r tg : Expr} {pos p : Pos}
theorem fin_out {ρ : List Addr} {σ : L2.St} {H : Hp} {Q : VK} {r : R D} (f : FinE X W ρ σ H Q r) : Fin X.K X.mg (Rp X.K X.mg) (fun c d _ H => (L2.WE W σ) c d H) ρ [] H Q r := by
  cases r with
  | bad => exact f
  | ok d h => exact f
  | exc c fs h => exact f
theorem run_fnE {pins : List (Addr × Obj)} {σ : L2.St} {H : Hp} {s : Shared} {Q : VK} {us : List Value} {vs : List V} {f : Addr} {fd : FuncData} {ps : List Str} {sp : List D → Hd → R D} {ρ : List Addr} {h : Hd} {ds : List D} (F : FnE X.prog X.w X.K X.mg X.base n f fd ps sp) (hr : RoomE n X.A) (hc : X.calm = true) (tk : L2.Takes X W)
    (hb : L2.Binds X.K fd ps []) (I : Inv X pins σ H s) (rv : Vals vs us) (hl : us.length = ps.length) (hs : HS X.K X.mg ρ h H) (rp : RpL X.K X.mg ρ H ds vs) (fe : FinE X W ρ σ H Q (sp ds h)) : wpAny (model X.prog X.w) X.A (call (.ref f) us) (EP X pins σ Q) X.xe s := by
  have b := hb s us I.kIn (by rw [List.append_nil]; exact hl)
  rw [List.append_nil] at b
  refine wpAny_call (codeAny_mono (F.run X.A X.stack s H ⟨us, []⟩ us vs Q (L2.WE W σ) ρ h ds hr (I.ok.hd hc) I.env0 b hl rv hs rp (fin_out fe)) fun res s' hq => ?_)
  cases res with
  | error x => exact L2.passAt tk σ pins H s x s' I hq
  | ok fl => cases fl <;> first | exact I.after hq | exact False.elim hq
/-- the call itself, behind the arguments -/
theorem call_now (CO : CallOk P C X.prog X.w X.K X.mg X.base n) (Xk : XOk false n X W) {k x : Str} {f : Fn} {a : Addr} {fd : FuncData} {ps : List Str} (ef : P.fn k x = some f) (hh : P.hot x = false) (OW : Own X.K X.mg P false k x f a fd ps)
    {pins : List (Addr × Obj)} {σ : L2.St} {H : Hp} {s : Shared} {Q : VK} {us : List Value} {vs : List V} {ρ : List Addr} {h : Hd} {ds : List D} (I : Inv X pins σ H s) (rv : Vals vs us) (hs : HS X.K X.mg ρ h H) (rp : RpL X.K X.mg ρ H ds vs) (fe : FinE X W ρ σ H Q (C.call k x ds h)) :
    wpAny (model X.prog X.w) X.A (call (.ref a) us) (EP X pins σ Q) X.xe s := by
  have hl : ds.length = f.np := by
    by_cases hz : ds.length = f.np
    · exact hz
    · rw [CO.len k x f ds h ef hz] at fe
      exact False.elim fe
  exact run_fnE (CO.call k x f a fd ps ef hh OW) Xk.rm (Xk.calm rfl) Xk.tk OW.bd I rv (by rw [← rv.length, ← rp.length, hl, OW.np]) hs rp fe
/-- f(..), f by its name -/
theorem s_call (O : DOk X.K X.mg P) (CO : CallOk P C X.prog X.w X.K X.mg X.base n) (hP : C.P = P) (Xk : XOk false n X W) {x : Str} {xs : List E} {es : List Expr} (hg : glB X.env.scope x = true) (ha : PA X es (tEs C X W xs)) (hp : ∀ e ∈ es, plainE e = true) (hx : es.length = xs.length)
    (pb : plainB x = true) (hf : (P.fn "" x).isSome = true) (hh : P.hot x = false) (hcl : P.cls x = false) : PE X (.Call (.Name x p) es [] pos) (tE C X W (.call x xs)) := by
  obtain ⟨f, ef⟩ := Option.isSome_iff_exists.mp hf
  obtain ⟨a, fd, ps, OW⟩ := O.own x f ef
  rw [hh] at OW
  refine ⟨fun pins s σ H Q I ⟨ρ, h, σd, rl, fe⟩ => wpAny_Call_Name_kw (L2.ld_glob I (glB_ok hg) (OW.at_ rfl) ?_ (plainB_ok pb).1)⟩
  rw [evE, hP, hcl] at fe
  simp only [Bool.false_eq_true, if_false] at fe
  cases es with
  | nil =>
    cases xs with
    | cons _ _ => cases hx
    | nil => exact PySem.W.callWith_K0 I.kIn OW.kp (call_now CO Xk ef hh OW (us := []) I .nil rl.hs .nil fe)
  | cons e es =>
    refine PySem.W.callWith_K (h₀ := X.base) I.ok.mod.kin OW.kp (thn (ha.run pos pins s σ H _ I ⟨ρ, h, σd, rl, Fin.bind fe⟩) fun us s1 ⟨vs, H1, I1, r1, ρ1, h1, ds, e1, hs1, p1, f1⟩ => ⟨I1.kIn, ?_⟩) (plain_star X.env es (hp e List.mem_cons_self))
      (plain_any pos X.env fun x hx => hp x (List.mem_cons_of_mem _ hx))
    exact call_now CO Xk ef hh OW I1 r1 hs1 p1 f1
/-- e(..), e a value that is a def -/
theorem s_callv (O : DOk X.K X.mg P) (CO : CallOk P C X.prog X.w X.K X.mg X.base n) (hP : C.P = P) (Xk : XOk false n X W) {g : E} {xs : List E} {es : List Expr} (hgo : PE X l (tE C X W g)) (ha : PA X es (tEs C X W xs)) (hp : ∀ e ∈ es, plainE e = true) (hx : es.length = xs.length)
    (hcall : ∀ {Q : Value → Shared → Prop} {s : Shared}, wpAny (model X.prog X.w) X.A (eval l X.env) (fun f s₁ => wpAny (model X.prog X.w) X.A (callWith pos f [] (backTo pos (starEach es X.env)) []) Q X.xe s₁) X.xe s → wpAny (model X.prog X.w) X.A (eval (.Call l es [] pos) X.env) Q X.xe s) :
    PE X (.Call l es [] pos) (tE C X W (.callv g xs)) := by
  refine ⟨fun pins s σ H Q I ⟨ρ, h, σd, rl, fe⟩ => hcall ?_⟩
  rw [evE] at fe
  refine thn (hgo.run pins s σ H _ I ⟨ρ, h, σd, rl, Fin.bind fe⟩) fun v s1 ⟨y, H1, I1, r1, ρ1, h1, d1, e1, hs1, p1, f1⟩ => ?_
  cases d1 with
  | glob x =>
    have f1' : FinE X W ρ1 σ H1 Q (if (C.P.fn "" x).isSome && !C.P.hot x then (evEs C xs σd h1).bind fun ds h2 => C.call "" x ds h2 else .bad) := f1
    split at f1'
    · rename_i hc
      rw [Bool.and_eq_true, Bool.not_eq_true', hP] at hc
      obtain ⟨f, ef⟩ := Option.isSome_iff_exists.mp hc.1
      obtain ⟨a, fd, ps, OW⟩ := O.own x f ef
      rw [hc.2] at OW
      cases p1 with
      | glob hm =>
        have ea := (OW.at_ rfl).symm.trans hm
        cases ea
        cases r1
        cases es with
        | nil =>
          cases xs with
          | cons _ _ => cases hx
          | nil => exact PySem.W.callWith_K0 I1.kIn OW.kp (call_now CO Xk ef hc.2 OW (us := []) I1 .nil hs1 .nil f1')
        | cons e es =>
          refine PySem.W.callWith_K (h₀ := X.base) I1.ok.mod.kin OW.kp (thn (ha.run pos pins s1 σ H1 _ I1 ⟨ρ1, h1, σd, rl.next e1 hs1, Fin.bind f1'⟩) fun us s2 ⟨vs, H2, I2, r2, ρ2, h2, ds, e2, hs2, p2, f2⟩ => ⟨I2.kIn, ?_⟩) (plain_star X.env es (hp e List.mem_cons_self))
            (plain_any pos X.env fun x hx => hp x (List.mem_cons_of_mem _ hx))
          exact call_now CO Xk ef hc.2 OW I2 r2 hs2 p2 f2
    · exact False.elim f1'
  | _ => exact False.elim f1
/-! ### the exception in a hot def -/
theorem val_one {t : D} {u : V} {c : Value} {ρ : List Addr} {H : Hp} {x : Str} {cc : Addr} {b : Bool} (EK : EOk X.K X.mg P) (hx : (P.exc x).isSome = true) (hm : X.mg x = some (.ref cc)) (rt : Rp X.K X.mg ρ H t u) (ru : RelV u c) (e : isExc1 P x t = some b) : PySem.W.kitOne X.K (.ref cc) c = some b := by
  cases t with
  | glob k =>
    cases rt with
    | glob hk =>
      cases ru
      exact EK.isg x k cc _ b hx hm hk e
  | ty n =>
    cases rt
    cases ru
    exact EK.ist x n cc b hx hm e
  | _ => cases e
theorem val_any {ρ : List Addr} {H : Hp} {x : Str} {cc : Addr} (EK : EOk X.K X.mg P) (hx : (P.exc x).isSome = true) (hm : X.mg x = some (.ref cc)) : ∀ {ts : List D} {us : List V} {cs : List Value} {b : Bool}, RpL X.K X.mg ρ H ts us → Vals us cs → isExcs P x ts = some b → PySem.W.kitAny X.K (.ref cc) cs = some b := by
  intro ts
  induction ts with
  | nil =>
    intro us cs b r q e
    cases r; cases q
    exact e
  | cons t ts ih =>
    intro us cs b r q e
    cases r with
    | cons r1 r2 =>
      cases q with
      | cons q1 q2 =>
        unfold isExcs at e
        unfold PySem.W.kitAny
        split at e
        · rename_i h1
          rw [val_one EK hx hm r1 q1 h1]
          exact e
        · rename_i h1
          rw [val_one EK hx hm r1 q1 h1]
          exact ih r2 q2 e
        · cases e
theorem s_isE (M : WOk P X.K X.mg X.w) (EK : EOk X.K X.mg P) (hP : C.P = P) (hC : ∀ c fs, C.ex = some (c, fs) → (P.exc c).isSome = true) {t : E} {v : Str} {vp : Pos} (hg : glB X.env.scope "isinstance" = true) (hN : X.N[0]? = some v) (hv : visB X.env.scope v = true) (hp : plainB v = true) (ht : PE X r (tE C X W t)) (pr : plainE r = true) :
    PE X (.Call (.Name "isinstance" p) [.Name v vp, r] [] pos) (tE C X W (.isE t)) := by
  obtain ⟨n1, n2⟩ := boot_bi (b := .isinst) rfl
  obtain ⟨f', e1, e2, _⟩ := boot_bi2 (b := .isinst) rfl
  cases e1
  refine ⟨fun pins s σ H Q I ⟨ρ, h, σd, rl, fe⟩ => wpAny_Call_Name_kw (L2.ld_blt I (glB_ok hg) (M.blt .isinst rfl) e2 ?_ n1 n2)⟩
  rw [evE] at fe
  obtain ⟨p1, p2⟩ := plainB_ok hp
  have hs : starEach [.Name v vp, r] X.env = (false, eval (.Name v vp) X.env) :: starEach [r] X.env := rfl
  refine PyProof.Rows.callWith_builtin1 ?_ hs (plain_any pos X.env (by intro e he; simp at he; subst he; exact pr))
  split at fe
  · rename_i c hex
    obtain ⟨a, oe, CC, d, g1, g2, g3, g4, ⟨ws, g5⟩, g6⟩ := rl.ex c [] hex
    have hargs : PA X [.Name v vp, r] (L2.tCons (L2.tVar 0) (L2.tCons (tE C X W t) L2.tNil)) := L2.pa_cons (L2.pe_var hN (visB_ok hv) p1 p2) (L2.pa_cons ht L2.pa_nil (plain_star X.env [] pr)) hs
    refine thn (hargs.run pos pins s σ H (fun vs H1 => ∃ u, vs = [.ref a, u] ∧ (Nxt X.K X.mg (Rp X.K X.mg) (Rp X.K X.mg) W ρ σ H Q fun d h1 => .of ((isExc C.P c d).map .bl) h1) u H1) I ⟨.ref a, g1, ρ, h, σd, rl, Fin.imp (Fin.bind fe) fun u H1 q => ⟨u, rfl, q⟩⟩) fun us s1 ⟨vs, H1, I1, r1, u, ev, ρ1, h1, d1, e1, hs1, q1, f1⟩ => ?_
    subst ev
    cases r1 with
    | cons ra rb =>
      cases rb with
      | cons rb rc =>
          cases rc
          cases ra
          obtain ⟨z, e, q⟩ := Fin.of f1 hs1
          simp only [Option.map_eq_some_iff] at e
          obtain ⟨b, e, rfl⟩ := e
          rw [hP] at e
          have hx := hC c [] hex
          have EC := EK.ec c CC hx g3
          obtain ⟨hget, _⟩ := I1.pin (a, oe) (List.mem_append_left _ g2)
          have dn : d = none := by
            rcases g6 with ⟨_, g6⟩ | ⟨dd, gs, g, _⟩
            · exact g6
            · exact absurd rfl g
          have J : PySem.W.InstAt s1.heap a oe CC none := by
            obtain ⟨oc, od, oda, osl⟩ := oe
            obtain ⟨k1, k2⟩ := g4
            dsimp only at k1 k2 g5
            subst k1 k2 g5
            subst dn
            exact ⟨hget, rfl, rfl, trivial⟩
          have KX := PySem.W.handS_kitx_exc (x := a) (ox := oe) EC.hg EC.hk EC.hs EC.hd EC.ha EC.hn EC.ht EC.hm
          unfold isExc at e
          split at e
          · rename_i ts
            cases q1 with
            | @tup _ tp us ht l =>
              cases rb
              obtain ⟨its, rv, ⟨o, h1', h2', n', h3'⟩, _⟩ := I1.tuple ht
              obtain ⟨oc, od, dt, sl⟩ := o
              simp only at h2' h3'
              subst h2' h3'
              exact PySem.W.kia_tup KX I1.kIn J h1' (val_any EK hx g3 l rv e) (fun z => nomatch z) fun tk => ⟨.bl b, H1, I1.kept (t' := tk) fun _ _ z => z, rfl, q _ (.bl _)⟩
          · exact PySem.W.kia_one KX I1.kIn J (val_one EK hx g3 q1 rb e) (fun z => nomatch z) fun tk => ⟨.bl b, H1, I1.kept (t' := tk) fun _ _ z => z, rfl, q _ (.bl _)⟩
  · exact False.elim fe
theorem s_attE {v m : Str} {vp : Pos} {name : Str} : PE X (.Attribute (.Name v vp) name pos) (tE C X W (.attE m)) := ⟨fun pins s σ H Q I ⟨ρ, h, σd, rl, fe⟩ => False.elim (by rw [evE] at fe; exact fe)⟩
/-! ### raise -/
theorem pmk_own0 {CC : Addr} {x : Str} (q : PySem.W.excIn X.K CC He.veBase "ValueError.__new__" = true) (gC : X.mg x = some (.ref CC)) (kC : PySem.W.keepIn X.K (.ref CC) = true) (rs : L2.Raises X (.ref CC)) (hg : Gl X x) (hd : (x == ("__debug__" : Str)) = false) :
    L2.PMk X (.Call (.Name x p) [] [] pos) (fun _ H Q => Q (.ref CC) none H) := by
  intro pins s σ H Q I h
  refine wpAny_Call_Name_kw (L2.ld_glob I hg gC ?_ hd)
  refine PySem.W.callWith_K0 I.kIn kC ?_
  obtain ⟨bm, N, nm, qn, bs, hdct, sn, sub, ab, col, dd, k0, k1, k2, k3, k5, mN, hC, hN, hni, T⟩ := L2.exc_obj I.kIn q
  refine wpAny_call_exc_subT PySem.F.excBase_ValueError T hC hN hni (fun h' e hm => ?_) (Nat.zero_le _)
  exact L2.mk_of I hm rs h (I.hok.gone hm.new)
end
end Ev
end
section
set_option Elab.async false
set_option linter.all false
set_option maxRecDepth 100000
set_option maxHeartbeats 1000000
/-! Snd11: statements. -/
namespace Ev
open PySem PySem.Spec PyProof.Rows
open L2 (V Hp HO upd upd_same upd_ne SqT SqL Rd Key RelV Vals VK WX TE TT TA PE PT PA XK Inv EP TP AP Gl thn FpOk PIE PI TI PG PS PSs TS Ends)
/-- what is wanted of a statement's end -/
def FinS (X : L2.Cx) (E : XK) (x : Option (Str × List (Str × D))) (ρ : List Addr) (H : Hp) (De : Ends) : RS → Prop
  | .bad => False
  | .nx σd' h' => ∀ ρ' σ' H', Ext ρ H ρ' H' → Rl X x ρ' h' σd' σ' H' → De.nx σ' H'
  | .ret d h' => ∀ ρ' v H', Ext ρ H ρ' H' → HS X.K X.mg ρ' h' H' → Rp X.K X.mg ρ' H' d v → De.rt v H'
  | .exc c fs h' => ∀ ρ' cls dict H', Ext ρ H ρ' H' → HS X.K X.mg ρ' h' H' → ExcRep X.K X.mg ρ' H' c fs cls dict → E cls dict H'
abbrev WK (E : XK) : WX := fun c d _ H => E c d H
def tS (C : Cx) (X : L2.Cx) (E : XK) (s : S) : TS := fun De σ H => ∃ ρ h σd, Rl X C.ex ρ h σd σ H ∧ FinS X E C.ex ρ H De (evS C s σd h)
def tSs (C : Cx) (X : L2.Cx) (E : XK) (ss : List S) : TS := fun De σ H => ∃ ρ h σd, Rl X C.ex ρ h σd σ H ∧ FinS X E C.ex ρ H De (evSs C ss σd h)
section
variable {P : Prog} {C : Cx} {X : L2.Cx} {EX : XK} {hot : Bool} {n m : Nat} {e l r tg : Expr} {pos p : Pos}
theorem FinS.mono {x : Option (Str × List (Str × D))} {ρ ρ1 : List Addr} {H H1 : Hp} {De : Ends} {r : RS} (e : Ext ρ H ρ1 H1) (f : FinS X EX x ρ H De r) : FinS X EX x ρ1 H1 De r := by
  cases r with
  | bad => exact f
  | nx σ h => exact fun ρ2 σ2 H2 e2 q => f ρ2 σ2 H2 (e.trans e2) q
  | ret d h => exact fun ρ2 v H2 e2 hs q => f ρ2 v H2 (e.trans e2) hs q
  | exc c fs h => exact fun ρ2 cls dict H2 e2 hs q => f ρ2 cls dict H2 (e.trans e2) hs q
/-- an expression ahead of a statement -/
theorem FinS.st {α β : Type} {rel : List Addr → Hp → α → β → Prop} {x : Option (Str × List (Str × D))} {ρ : List Addr} {σ : L2.St} {H : Hp} {De : Ends} {r : R α} {g : α → Hd → RS} (f : FinS X EX x ρ H De (r.st g)) :
    Fin X.K X.mg rel (WK EX) ρ σ H (fun b H' => ∃ ρ' h' a, Ext ρ H ρ' H' ∧ HS X.K X.mg ρ' h' H' ∧ rel ρ' H' a b ∧ FinS X EX x ρ' H' De (g a h')) r := by
  cases r with
  | bad => exact f
  | ok a h' => exact fun ρ2 b H2 e hs z => ⟨ρ2, h', a, e, hs, z, f.mono e⟩
  | exc c fs h' => exact f
theorem s_pnil : PSs X [] (tSs C X EX []) := ⟨fun pins s σ H De I ⟨ρ, h, σd, rl, f⟩ => L2.pss_nil.run pins s σ H De I (f ρ σ H (Ext.refl _ _) rl)⟩
theorem s_pcons {s0 : S} {ss : List S} {st : Stmt} {sts : List Stmt} (h1 : PS X st (tS C X EX s0)) (h2 : PSs X sts (tSs C X EX ss)) : PSs X (st :: sts) (tSs C X EX (s0 :: ss)) := by
  refine ⟨fun pins s σ H De I ⟨ρ, h, σd, rl, f⟩ => (L2.pss_cons h1 h2).run pins s σ H De I ⟨ρ, h, σd, rl, ?_⟩⟩
  rw [evSs] at f
  cases hr : evS C s0 σd h with
  | bad => rw [hr] at f; exact f
  | ret d h1 => rw [hr] at f; exact f
  | exc c fs h1 => rw [hr] at f; exact f
  | nx σ1 h1 =>
    rw [hr] at f
    exact fun ρ1 σ1' H1 e1 q => ⟨ρ1, h1, σ1, q, f.mono e1⟩
theorem s_exp {x : E} {v : Expr} (h : PE X v (tE C X (WK EX) x)) (hl : isLC v = false) (hp : swapsWith v none pos.line X.env = pure false) : PS X (.Expr v pos) (tS C X EX (.exp x)) := by
  refine ⟨fun pins s σ H De I ⟨ρ, h', σd, rl, f⟩ => (L2.ps_expr h hp).run pins s σ H De I ⟨ρ, h', σd, rl, ?_⟩⟩
  rw [evS] at f
  exact Fin.imp (FinS.st f) fun v H1 ⟨ρ1, h1, d1, e1, hs1, p1, f1⟩ => f1 ρ1 σ H1 (Ext.refl _ _) (rl.next e1 hs1)
theorem s_ifs {t : B} {a b : List S} {c : Expr} {x y : List Stmt} (ht : PT X c (tT C X (WK EX) t)) (ha : PSs X x (tSs C X EX a)) (hb : PSs X y (tSs C X EX b)) : PS X (.If c x y pos) (tS C X EX (.ife t a b)) := by
  refine ⟨fun pins s σ H De I ⟨ρ, h', σd, rl, f⟩ => (L2.ps_if ht ha hb).run pins s σ H De I ⟨ρ, h', σd, rl, ?_⟩⟩
  rw [evS] at f
  refine Fin.imp (FinS.st f) fun k H1 ⟨ρ1, h1, d1, e1, hs1, p1, f1⟩ => ?_
  obtain rfl : d1 = k := p1
  cases d1 with
  | true => exact ⟨ρ1, h1, σd, rl.next e1 hs1, f1⟩
  | false => exact ⟨ρ1, h1, σd, rl.next e1 hs1, f1⟩
theorem s_ret {x : E} {v : Expr} (h : PE X v (tE C X (WK EX) x)) : PS X (.Return (some v) pos) (tS C X EX (.ret (some x))) := by
  refine ⟨fun pins s σ H De I ⟨ρ, h', σd, rl, f⟩ => (L2.ps_ret h).run pins s σ H De I ⟨ρ, h', σd, rl, ?_⟩⟩
  rw [evS] at f
  exact Fin.imp (FinS.st f) fun v H1 ⟨ρ1, h1, d1, e1, hs1, p1, f1⟩ => f1 ρ1 v H1 (Ext.refl _ _) hs1 p1
theorem s_retN : PS X (.Return none pos) (tS C X EX (.ret none)) := by
  refine ⟨fun pins s σ H De I ⟨ρ, h', σd, rl, f⟩ => L2.ps_retN.run pins s σ H De I ?_⟩
  rw [evS] at f
  exact f ρ .non H (Ext.refl _ _) rl.hs .non
theorem s_pass : PS X (.Pass pos) (tS C X EX .pass) := by
  refine ⟨fun pins s σ H De I ⟨ρ, h', σd, rl, f⟩ => L2.ps_pass.run pins s σ H De I ?_⟩
  rw [evS] at f
  exact f ρ σ H (Ext.refl _ _) rl
theorem s_raise (EK : EOk X.K X.mg P) (hP : C.P = P) (hc : X.calm = true) (tk : L2.Takes X (WK EX)) {c : Str} (hg : glB X.env.scope c = true) (pb : plainB c = true) {rp : Pos} (he : P.exc c = some []) : PS X (.Raise (some (.Call (.Name c p) [] [] pos)) none rp) (tS C X EX (.raise c [])) := by
  obtain ⟨CC, m1, m2, m3, m4, m5⟩ := EK.raises c he
  refine ⟨fun pins s σ H De I ⟨ρ, h', σd, rl, f⟩ => (L2.ps_raise hc tk (pmk_own0 m2 m1 m3 (L2.raises_own m4 m5) (glB_ok hg) (plainB_ok pb).1)).run pins s σ H De I ?_⟩
  rw [evS, evEs, R.st_ok, hP, he] at f
  exact f ρ (.ref CC) none H (Ext.refl _ _) rl.hs ⟨CC, rfl, m1, .inl ⟨rfl, rfl⟩⟩
/-! ### stores -/
theorem kindF {pins : List (Addr × Obj)} {σ : L2.St} {H : Hp} {s : Shared} (I : Inv X pins σ H s) : X.env.blockKind = .function := by
  unfold Env.blockKind
  rw [I.ok.kind]
  rfl
theorem swap_ok {tg v : Expr} {env : Env} (hk : env.blockKind = .function) (hc : constVs tg v = false) (hl : ∀ ts p, tg ≠ .List ts p) (hs : ∀ vs k p, v = .Tuple vs k p → (vs.any fun | .Starred .. => true | _ => false) = false) : swappedStores [tg] v env = pure (tupSwap env.scope tg v) := by
  cases tg with
  | Tuple ts k1 p1 =>
    cases v with
    | Tuple vs k2 p2 =>
      have h1 := hs vs k2 p2 rfl
      unfold swappedStores tupSwap
      simp only
      by_cases c1 : ((ts.length == 2 || ts.length == 3) && vs.length == ts.length) = true
      · rw [if_pos c1]
        have c1' : (!(ts.length == 2 || ts.length == 3) || vs.length != ts.length || env.blockKind != .function) = false := by
          rw [Bool.and_eq_true] at c1
          rw [hk, c1.1, bne, c1.2]
          rfl
        rw [c1', if_neg Bool.false_ne_true]
        refine (if_neg fun z => Bool.false_ne_true (h1.symm.trans z)).trans ?_
        show (if ((nmsOf env.scope ((ts.head?.map (·.pos.line)).getD 0) ts).length != ts.length || (nmsOf env.scope ((ts.head?.map (·.pos.line)).getD 0) ts).eraseDups.length != (nmsOf env.scope ((ts.head?.map (·.pos.line)).getD 0) ts).length) = true then pure none else if vs.all (foldedForSure 8) = true then pure none else if vs.all (constantsAlone 8) = true then _ else pure (some (nmsOf env.scope ((ts.head?.map (·.pos.line)).getD 0) ts)) : Sem (Option (List Str))) = _
        generalize nmsOf env.scope ((ts.head?.map (·.pos.line)).getD 0) ts = nm
        by_cases c2 : (nm.length == ts.length && nm.eraseDups.length == nm.length) = true
        · have c2' : (nm.length != ts.length || nm.eraseDups.length != nm.length) = false := by
            rw [Bool.and_eq_true] at c2
            rw [bne, bne, c2.1, c2.2]
            rfl
          rw [c2', if_neg Bool.false_ne_true]
          cases c3 : vs.all (foldedForSure 8) with
          | true =>
            rw [if_pos rfl, c2]
            simp
          | false =>
            rw [if_neg Bool.false_ne_true, c2]
            have c4 : vs.all (constantsAlone 8) = false := by
              have : (vs.all (constantsAlone 8) && !(vs.all (foldedForSure 8))) = false := hc
              rw [c3] at this
              simpa using this
            rw [c4, if_neg Bool.false_ne_true]
            simp
        · have c2' : (nm.length != ts.length || nm.eraseDups.length != nm.length) = true := by
            cases a : (nm.length == ts.length) <;> cases b : (nm.eraseDups.length == nm.length) <;> simp_all [bne]
          rw [c2', if_pos rfl]
          have : (nm.length == ts.length && nm.eraseDups.length == nm.length && !(vs.all (foldedForSure 8))) = false := by
            rw [Bool.eq_false_iff.mpr c2]
            rfl
          rw [this, if_neg Bool.false_ne_true]
      · rw [if_neg c1]
        have c1' : (!(ts.length == 2 || ts.length == 3) || vs.length != ts.length || env.blockKind != .function) = true := by
          cases a : (ts.length == 2 || ts.length == 3) <;> cases b : (vs.length == ts.length) <;> simp_all [bne]
        rw [c1', if_pos rfl]
    | _ => rfl
  | List ts p => exact absurd rfl (hl ts p)
  | _ => rfl
theorem sole_ok {tg v : Expr} {env : Env} {line : Nat} (hk : env.blockKind = .function) (hl : lcSwap env.scope tg v = false) (hs : ∀ a b c d, v ≠ .SetComp a b c d) (hd : ∀ a b c d f, v ≠ .DictComp a b c d f) : swapsWithSole [tg] v line env = pure false := by
  show swapsWith v (some tg) line env = pure false
  cases v with
  | SetComp a b c d => exact absurd rfl (hs a b c d)
  | DictComp a b c d f => exact absurd rfl (hd a b c d f)
  | ListComp elt gs sc p =>
    cases tg with
    | Name id q =>
      unfold lcSwap at hl
      unfold swapsWith
      simp only [hk]
      have : (ScopeKind.function == ScopeKind.function && env.kindOf id == some .local && q.line == (Expr.ListComp elt gs sc p).pos.line && !(sc.names.any fun (n, k) => n == id && (k == .local || k == .cell))) = false := by
        have e : ownB env.scope id = (env.kindOf id == some .local) := by
          unfold ownB Env.kindOf
          cases env.scope.names.lookup id with
          | none => rfl
          | some k => cases k <;> rfl
        rw [← e]
        exact hl
      rw [this]
    | _ => rfl
  | _ => rfl
theorem s_asg {x : E} {t : T} {v : Expr} (he : PE X v (tE C X (WK EX) x)) (ht : PG X tg (tG C X (WK EX) t)) (hc : constVs tg v = false) (hl : lcSwap X.env.scope tg v = false) (hsw : tupSwap X.env.scope tg v = none) (hL : ∀ ts p, tg ≠ .List ts p) (hS : ∀ a p, tg ≠ .Starred a p)
    (hst : ∀ vs k p, v = .Tuple vs k p → (vs.any fun | .Starred .. => true | _ => false) = false) (hs : ∀ a b c d, v ≠ .SetComp a b c d) (hd : ∀ a b c d f, v ≠ .DictComp a b c d f) : PS X (.Assign [tg] v pos) (tS C X EX (.asg t x)) := by
  refine ⟨fun pins s σ H De I ⟨ρ, h', σd, rl, f⟩ => ?_⟩
  have h1 : (assignEach [tg] X.env).map (·.2) = [assign tg X.env] := by cases tg <;> first | rfl | exact absurd rfl (hS _ _)
  refine (L2.ps_asg he ht (sole_ok (kindF I) hl hs hd) (by rw [swap_ok (kindF I) hc hL hst, hsw]) h1).run pins s σ H De I ⟨ρ, h', σd, rl, ?_⟩
  rw [evS] at f
  refine Fin.imp (FinS.st f) fun v H1 ⟨ρ1, h1, d1, e1, hs1, p1, f1⟩ => ⟨ρ1, h1, σd, d1, rl.next e1 hs1, p1, ?_⟩
  cases hr : evTg C t d1 σd h1 with
  | bad => rw [hr] at f1; exact f1
  | ok σ2 h2 => rw [hr] at f1; exact fun ρ2 σ2' H2 e2 rl2 _ _ => f1 ρ2 σ2' H2 e2 rl2
  | exc c fs h2 => rw [hr] at f1; exact fun ρ2 σ2' cls dict H2 e2 hs2 q => f1 ρ2 cls dict H2 e2 hs2 q
end
end Ev
end
section
set_option Elab.async false
set_option linter.all false
set_option maxRecDepth 100000
set_option maxHeartbeats 1000000
/-! Snd12: stores that are exchanged; loops; try. -/
namespace Ev
open PySem PySem.Spec PyProof.Rows
open L2 (V Hp HO upd upd_same upd_ne SqT SqL Rd Key RelV Vals VK WX TE TT TA PE PT PA XK Inv EP TP AP Gl thn FpOk PIE PI TI PG PS PSs TS Ends)
section
variable {P : Prog} {C : Cx} {X : L2.Cx} {EX : XK} {hot : Bool} {n m : Nat} {e l r tg : Expr} {pos p : Pos}
def idOf : Expr → Str
  | .Name id _ => id
  | _ => ""
theorem filt_le {α β : Type} (f : α → Option β) : ∀ l : List α, (l.filterMap f).length ≤ l.length := fun l => List.length_filterMap_le f l
theorem nms_all {sc : Scope} {line : Nat} : ∀ {ts : List Expr}, (nmsOf sc line ts).length = ts.length → ∀ t ∈ ts, ∃ id q, t = .Name id q ∧ sc.names.lookup id = some .local
  | [], _, t, ht => by cases ht
  | a :: ts, h, t, ht => by
    unfold nmsOf at h
    rw [List.filterMap_cons] at h
    have le : (nmsOf sc line ts).length ≤ ts.length := filt_le _ ts
    split at h
    · rename_i hn
      have : (nmsOf sc line ts).length = (a :: ts).length := h
      simp at this
      omega
    · rename_i b hb
      have h' : (nmsOf sc line ts).length = ts.length := by
        have : (b :: nmsOf sc line ts).length = (a :: ts).length := h
        simpa using this
      rcases List.mem_cons.mp ht with rfl | ht
      · split at hb
        · rename_i id q
          split at hb
          · rename_i hc
            rw [Bool.and_eq_true] at hc
            exact ⟨id, q, rfl, by simpa using hc.1⟩
          · cases hb
        · cases hb
      · exact nms_all h' t ht
theorem nms_eq {sc : Scope} {line : Nat} : ∀ {ts : List Expr}, (nmsOf sc line ts).length = ts.length → nmsOf sc line ts = ts.map idOf
  | [], _ => rfl
  | a :: ts, h => by
    unfold nmsOf at h ⊢
    rw [List.filterMap_cons] at h ⊢
    have le : (nmsOf sc line ts).length ≤ ts.length := filt_le _ ts
    split at h
    · rename_i hn
      have : (nmsOf sc line ts).length = (a :: ts).length := h
      simp at this
      omega
    · rename_i b hb
      have h' : (nmsOf sc line ts).length = ts.length := by
        have : (b :: nmsOf sc line ts).length = (a :: ts).length := h
        simpa using this
      have ih := nms_eq h'
      have hb2 : b = idOf a := by
        cases a with
        | Name id q =>
          dsimp only at hb
          split at hb
          · exact (Option.some.inj hb).symm
          · cases hb
        | _ => cases hb
      show b :: nmsOf sc line ts = _
      rw [ih, hb2]
      rfl
theorem swap_shape {sc : Scope} {v : Expr} {nm : List Str} (h : tupSwap sc tg v = some nm) : ∃ ts k q vs k' q', tg = .Tuple ts k q ∧ v = .Tuple vs k' q' ∧ vs.length = ts.length ∧ (ts.length = 2 ∨ ts.length = 3) ∧ (∀ t ∈ ts, ∃ id q, t = .Name id q ∧ sc.names.lookup id = some .local) ∧ nm = ts.map idOf ∧ nm.eraseDups.length = nm.length := by
  unfold tupSwap at h
  split at h
  · rename_i ts k q vs k' q'
    split at h
    · rename_i hc
      rw [Bool.and_eq_true, Bool.or_eq_true, beq_iff_eq, beq_iff_eq, beq_iff_eq] at hc
      dsimp only at h
      split at h
      · rename_i h2
        cases h
        rw [Bool.and_eq_true, Bool.and_eq_true, beq_iff_eq, beq_iff_eq] at h2
        exact ⟨ts, k, q, vs, k', q', rfl, rfl, hc.2, hc.1, nms_all h2.1.1, nms_eq h2.1.1, h2.1.2⟩
      · cases h
    · cases h
  · cases h
theorem okT_nm {P : Prog} {N : List Str} {sc : Scope} {t : T} {id : Str} {q : Pos} (h : okT P N hot t sc (.Name id q) = true) : ∃ i, t = .nm i ∧ N[i]? = some id := by
  cases t with
  | nm i =>
    simp only [okT, Bool.and_eq_true] at h
    exact ⟨i, rfl, of_decide_eq_true h.1⟩
  | tup ts => simp [okT] at h
  | att o m => simp [okT] at h
  | ix o i => simp [okT] at h
theorem okTs_len {P : Prog} {N : List Str} {sc : Scope} : ∀ {ts : List T} {es : List Expr}, okTs P N hot ts sc es = true → ts.length = es.length
  | [], es, h => by simp only [okTs, List.isEmpty_iff] at h; subst h; rfl
  | t :: ts, [], h => by simp [okTs] at h
  | t :: ts, e :: es, h => by
    simp only [okTs, Bool.and_eq_true] at h
    simp [okTs_len h.2]
theorem s_asgSw (hex : C.ex = none) (hc : X.calm = true) (nd : X.N.Nodup) {xs : List E} {t : T} {v : Expr} {nm : List Str} (hsw : tupSwap X.env.scope tg v = some nm) (hcv : constVs tg v = false) (hok : okT P X.N hot t X.env.scope tg = true)
    (hv : ∀ vs k q, v = .Tuple vs k q → PA X vs (tEs C X (WK EX) xs) ∧ xs.length = vs.length ∧ (vs.any fun | .Starred .. => true | _ => false) = false) : PS X (.Assign [tg] v pos) (tS C X EX (.asg t (.tup xs))) := by
  obtain ⟨ts, k, q, vs, k', q', rfl, rfl, hl, h23, hall, rfl, hdup⟩ := swap_shape hsw
  obtain ⟨hA, hxl, hst⟩ := hv vs k' q' rfl
  cases t with
  | nm i => simp [okT] at hok
  | att o m => simp [okT] at hok
  | ix o i => simp [okT] at hok
  | tup T =>
    simp only [okT, Bool.and_eq_true] at hok
    have hT := hok.1
    have noex : ∀ i : Nat, (C.ex.isSome && i == 0) = false := fun i => by rw [hex]; rfl
    rcases h23 with h2 | h3
    · obtain ⟨t1, t2, rfl⟩ : ∃ t1 t2, ts = [t1, t2] := by
        match ts, h2 with
        | [a, b], _ => exact ⟨a, b, rfl⟩
      obtain ⟨v1, v2, rfl⟩ : ∃ v1 v2, vs = [v1, v2] := by
        match vs, hl with
        | [a, b], _ => exact ⟨a, b, rfl⟩
      obtain ⟨id1, q1, rfl, l1⟩ := hall t1 (by simp)
      obtain ⟨id2, q2, rfl, l2⟩ := hall t2 (by simp)
      match T, okTs_len hT, hT with
      | [T1, T2], _, hT =>
        simp only [okTs, Bool.and_eq_true] at hT
        obtain ⟨i, rfl, n1⟩ := okT_nm hT.1
        obtain ⟨j, rfl, n2⟩ := okT_nm hT.2.1
        have hne : id1 ≠ id2 := by
          have hd : ([id1, id2] : List Str).eraseDups.length = 2 := hdup
          intro z
          subst z
          simp [List.eraseDups_cons] at hd
        have hij : i ≠ j := fun z => hne (by rw [z, n2] at n1; exact (Option.some.inj n1).symm)
        refine ⟨fun pins s σ H De I ⟨ρ, h', σd, rl, f⟩ => (L2.ps_par hc nd n1 n2 hij l1 l2 hA (by rw [swap_ok (kindF I) hcv (by intro _ _ z; cases z) (by intro _ _ _ z; cases z; exact hst), hsw]; rfl)).run pins s σ H De I ⟨ρ, h', σd, rl, ?_⟩⟩
        rw [evS, evE] at f
        have f' : FinS X EX C.ex ρ H De ((evEs C xs σd h').st fun ds h1 => ((if ds.length ≤ 1000 then R.ok (D.tup ds) h1 else .bad) : R D).st fun d h1 => (evTg C (.tup [.nm i, .nm j]) d σd h1).st fun σ1 h2 => .nx σ1 h2) := by
          cases hr : evEs C xs σd h' with
          | bad => rw [hr] at f; exact f
          | ok ds h1 => rw [hr] at f; exact f
          | exc c fs h1 => rw [hr] at f; exact f
        refine Fin.imp (FinS.st f') fun us H1 ⟨ρ1, h1, ds, e1, hs1, p1, f1⟩ => ?_
        split at f1
        · cases ds with
          | nil => exact False.elim f1
          | cons d1 ds =>
            cases ds with
            | nil => exact False.elim f1
            | cons d2 ds =>
              cases ds with
              | cons _ _ => exact False.elim f1
              | nil =>
                rw [R.st_ok] at f1
                simp only [evTg, evTgs, List.length_cons, List.length_nil, if_true, noex, Bool.false_eq_true, if_false, R.bind_ok, R.st_ok] at f1
                cases p1 with
                | cons pa pb =>
                  cases pb with
                  | cons pb pc =>
                    cases pc
                    refine ⟨_, _, rfl, f1 ρ1 _ H1 (Ext.refl _ _) ⟨hs1, ((rl.next e1 hs1).sl.set i pa).set j pb, fun c fs z => by rw [hex] at z; cases z⟩⟩
        · exact False.elim f1
    · obtain ⟨t1, t2, t3, rfl⟩ : ∃ t1 t2 t3, ts = [t1, t2, t3] := by
        match ts, h3 with
        | [a, b, c], _ => exact ⟨a, b, c, rfl⟩
      obtain ⟨v1, v2, v3, rfl⟩ : ∃ v1 v2 v3, vs = [v1, v2, v3] := by
        match vs, hl with
        | [a, b, c], _ => exact ⟨a, b, c, rfl⟩
      obtain ⟨id1, q1, rfl, l1⟩ := hall t1 (by simp)
      obtain ⟨id2, q2, rfl, l2⟩ := hall t2 (by simp)
      obtain ⟨id3, q3, rfl, l3⟩ := hall t3 (by simp)
      match T, okTs_len hT, hT with
      | [T1, T2, T3], _, hT =>
        simp only [okTs, Bool.and_eq_true] at hT
        obtain ⟨i, rfl, n1⟩ := okT_nm hT.1
        obtain ⟨j, rfl, n2⟩ := okT_nm hT.2.1
        obtain ⟨k2, rfl, n3⟩ := okT_nm hT.2.2.1
        have hd : ([id1, id2, id3] : List Str).eraseDups.length = 3 := hdup
        have nodup3 : ∀ {a b c : Str}, ([a, b, c] : List Str).eraseDups.length = 3 → a ≠ b ∧ a ≠ c ∧ b ≠ c := by
          intro a b c h
          refine ⟨?_, ?_, ?_⟩ <;> intro z <;> subst z
          · simp [List.eraseDups_cons] at h
            by_cases e : c = a <;> simp [e, List.eraseDups_cons] at h
          · simp [List.eraseDups_cons] at h
            by_cases e : b = a <;> simp [e, List.eraseDups_cons] at h
          · simp [List.eraseDups_cons] at h
            by_cases e : b = a <;> simp [e, List.eraseDups_cons] at h
        obtain ⟨ne12, ne13, ne23⟩ := nodup3 hd
        have hij : i ≠ j := fun z => ne12 (by rw [z, n2] at n1; exact (Option.some.inj n1).symm)
        have hik : i ≠ k2 := fun z => ne13 (by rw [z, n3] at n1; exact (Option.some.inj n1).symm)
        have hjk : j ≠ k2 := fun z => ne23 (by rw [z, n3] at n2; exact (Option.some.inj n2).symm)
        refine ⟨fun pins s σ H De I ⟨ρ, h', σd, rl, f⟩ => (L2.ps_par3 hc nd n1 n2 n3 hij hik hjk l1 l2 l3 hA (by rw [swap_ok (kindF I) hcv (by intro _ _ z; cases z) (by intro _ _ _ z; cases z; exact hst), hsw]; rfl)).run pins s σ H De I ⟨ρ, h', σd, rl, ?_⟩⟩
        rw [evS, evE] at f
        have f' : FinS X EX C.ex ρ H De ((evEs C xs σd h').st fun ds h1 => ((if ds.length ≤ 1000 then R.ok (D.tup ds) h1 else .bad) : R D).st fun d h1 => (evTg C (.tup [.nm i, .nm j, .nm k2]) d σd h1).st fun σ1 h2 => .nx σ1 h2) := by
          cases hr : evEs C xs σd h' with
          | bad => rw [hr] at f; exact f
          | ok ds h1 => rw [hr] at f; exact f
          | exc c fs h1 => rw [hr] at f; exact f
        refine Fin.imp (FinS.st f') fun us H1 ⟨ρ1, h1, ds, e1, hs1, p1, f1⟩ => ?_
        split at f1
        · cases ds with
          | nil => exact False.elim f1
          | cons d1 ds =>
            cases ds with
            | nil => exact False.elim f1
            | cons d2 ds =>
              cases ds with
              | nil => exact False.elim f1
              | cons d3 ds =>
                cases ds with
                | cons _ _ => exact False.elim f1
                | nil =>
                  rw [R.st_ok] at f1
                  simp only [evTg, evTgs, List.length_cons, List.length_nil, if_true, noex, Bool.false_eq_true, if_false, R.bind_ok, R.st_ok] at f1
                  cases p1 with
                  | cons pa pb =>
                    cases pb with
                    | cons pb pc =>
                      cases pc with
                      | cons pc pd =>
                        cases pd
                        refine ⟨_, _, _, rfl, f1 ρ1 _ H1 (Ext.refl _ _) ⟨hs1, (((rl.next e1 hs1).sl.set i pa).set j pb).set k2 pc, fun c fs z => by rw [hex] at z; cases z⟩⟩
        · exact False.elim f1
end
end Ev
end
section
set_option Elab.async false
set_option linter.all false
set_option maxRecDepth 100000
set_option maxHeartbeats 1000000
/-! Snd13: name = [..]; for; while; try. -/
namespace Ev
open PySem PySem.Spec PyProof.Rows
open L2 (V Hp HO upd upd_same upd_ne SqT SqL Rd Key RelV Vals VK WX TE TT TA PE PT PA XK Inv EP TP AP Gl thn FpOk PIE PI TI PG PS PSs TS Ends)
section
variable {P : Prog} {C : Cx} {X : L2.Cx} {EX : XK} {hot : Bool} {n m : Nat} {e l r tg iter : Expr} {pos p : Pos}
/-- name = [..], the stores exchanged -/
theorem s_asgLc (hex : C.ex = none) (hc : X.calm = true) (nd : X.N.Nodup) {i : Nat} {y : Str} {py : Pos} {elt' tg' : Expr} {ifs' : List Expr} {scope : Scope} {own : List Nat} {elt : E} {t : T} {it : IE} {ifs : Option B} (hy : X.N[i]? = some y) (hsw : lcSwap X.env.scope (.Name y py) (.ListComp elt' [⟨tg', iter, ifs', 0⟩] scope p) = true)
    (hi : PI X tg' iter (tI C X (WK EX) it)) (ok : L2.BlkOk X.N X.env.scope scope (ownP X.N own))
    (hg : ∀ (s : Shared) (H : Hp) (Cc : Addr) (cl : List (Str × Addr)) (fp : List Addr), PG (X.blk s H scope (compEnvC scope cl Cc X.env) fp) tg' (tG C X W0 t)) (ht : ∀ (s : Shared) (H : Hp) (Cc : Addr) (cl : List (Str × Addr)) (fp : List Addr), L2.PTs (X.blk s H scope (compEnvC scope cl Cc X.env) fp) ifs' (tIf C X W0 ifs))
    (he : ∀ (s : Shared) (H : Hp) (Cc : Addr) (cl : List (Str × Addr)) (fp : List Addr), PE (X.blk s H scope (compEnvC scope cl Cc X.env) fp) elt' (tE C X W0 elt)) (hs : plainE iter = true) (hown : ∀ i ∈ tgN t, i ∈ own) :
    PS X (.Assign [.Name y py] (.ListComp elt' [⟨tg', iter, ifs', 0⟩] scope p) pos) (tS C X EX (.asg (.nm i) (.lc elt t it ifs own))) := by
  have ho : (ownP X.N own).map (·.2) = own := by
    unfold ownP
    rw [List.map_map]
    exact List.map_id own
  have hsw' : ownB X.env.scope y = true ∧ (py.line == p.line) = true ∧ (scope.names.any fun (n, k) => n == y && (k == .local || k == .cell)) = false := by
    unfold lcSwap at hsw
    rw [Bool.and_eq_true, Bool.and_eq_true, Bool.not_eq_true'] at hsw
    exact ⟨hsw.1.1, hsw.1.2, hsw.2⟩
  refine ⟨fun pins s σ H De I ⟨ρ, h', σd, rl, f⟩ => (L2.ps_setLc hc nd hy (ownB_ok hsw'.1) (L2.sw_true I.ok.kind (ownB_ok hsw'.1) hsw'.2.1 hsw'.2.2) hi ok hg ht he (fun x => plain_fold X.env x hs)).run pins s σ H De I ?_⟩
  rw [ho]
  rw [evS] at f
  refine lc_turns hex hown ⟨ρ, h', σd, rl, Fin.imp (FinS.st f) fun v H1 ⟨ρ1, h1, d1, e1, hs1, p1, f1⟩ => ?_⟩
  have f2 : FinS X EX C.ex ρ1 H1 De ((evTg C (.nm i) d1 σd h1).st fun σ1 h2 => .nx σ1 h2) := f1
  rw [evTg, hex] at f2
  exact f2 ρ1 _ H1 (Ext.refl _ _) ⟨hs1, (rl.next e1 hs1).sl.set i p1, fun c fs z => by cases z⟩
/-- [..] as a value -/
theorem s_lc {W : WX} (hex : C.ex = none) (hc : X.calm = true) (nd : X.N.Nodup) {elt' tg' : Expr} {ifs' : List Expr} {scope : Scope} {own : List Nat} {elt : E} {t : T} {it : IE} {ifs : Option B}
    (hi : PI X tg' iter (tI C X W it)) (ok : L2.BlkOk X.N X.env.scope scope (ownP X.N own))
    (hg : ∀ (s : Shared) (H : Hp) (Cc : Addr) (cl : List (Str × Addr)) (fp : List Addr), PG (X.blk s H scope (compEnvC scope cl Cc X.env) fp) tg' (tG C X W0 t)) (ht : ∀ (s : Shared) (H : Hp) (Cc : Addr) (cl : List (Str × Addr)) (fp : List Addr), L2.PTs (X.blk s H scope (compEnvC scope cl Cc X.env) fp) ifs' (tIf C X W0 ifs))
    (he : ∀ (s : Shared) (H : Hp) (Cc : Addr) (cl : List (Str × Addr)) (fp : List Addr), PE (X.blk s H scope (compEnvC scope cl Cc X.env) fp) elt' (tE C X W0 elt)) (hs : plainE iter = true) (hown : ∀ i ∈ tgN t, i ∈ own) :
    PE X (.ListComp elt' [⟨tg', iter, ifs', 0⟩] scope p) (tE C X W (.lc elt t it ifs own)) := by
  have ho : (ownP X.N own).map (·.2) = own := by
    unfold ownP
    rw [List.map_map]
    exact List.map_id own
  refine ⟨fun pins s σ H Q I h => (L2.pe_lc hc nd hi ok hg ht he (fun x => plain_fold X.env x hs)).run pins s σ H Q I ?_⟩
  rw [ho]
  exact lc_turns hex hown h
/-- a target's end, in a loop -/
theorem FinG.loop {ρ : List Addr} {σ : L2.St} {H : Hp} {De : Ends} {ns : List Nat} {r : R Sl} {g : Sl → Hd → RS} (f : FinS X EX C.ex ρ H De (r.st g)) :
    FinG X (WK EX) C.ex ρ σ H ns (fun σ' H' => ∃ ρ' h' σd', Ext ρ H ρ' H' ∧ Rl X C.ex ρ' h' σd' σ' H' ∧ FinS X EX C.ex ρ' H' De (g σd' h')) r := by
  cases r with
  | bad => exact f
  | ok σ2 h2 => exact fun ρ2 σ2' H2 e2 rl2 _ _ => ⟨ρ2, h2, σ2, e2, rl2, f.mono e2⟩
  | exc c fs h2 => exact fun ρ2 σ2' cls dict H2 e2 hs2 q => f ρ2 cls dict H2 e2 hs2 q
theorem s_for (hc : X.calm = true) (hp : PassesOwn (model X.prog X.w) X.A X.env X.xe) {t : T} {it : IE} {body : List S} {bd : List Stmt} (hi : PI X tg iter (tI C X (WK EX) it)) (hg : PG X tg (tG C X (WK EX) t)) (hb : PSs X bd (tSs C X EX body)) (hs : plainE iter = true) :
    PS X (.For tg iter bd [] pos) (tS C X EX (.for t it body)) := by
  refine ⟨fun pins s σ H De I ⟨ρ, h', σd, rl, f⟩ => (L2.ps_for hp hc hi hg hb (fun x => plain_fold X.env x hs)).run pins s σ H De I ?_⟩
  rw [evS] at f
  refine ⟨ρ, h', σd, rl, Fin.imp (FinS.st f) fun L H1 ⟨ρ1, h1, J, e1, hs1, hJ, f1⟩ => ?_⟩
  refine ⟨fun i m σ' H' => ∃ ρ' h' σd', Ext ρ1 H1 ρ' H' ∧ Rl X C.ex ρ' h' σd' σ' H' ∧ FinS X EX C.ex ρ1 H1 De (forLoop (evTg C t) (evSs C body) J m i σd' h'), ⟨C.fuel, ρ1, h1, σd, Ext.refl _ _, rl.next e1 hs1, f1⟩, ?_⟩
  rintro i m σ' H' ⟨ρ', h2, σd', e2, rl2, f2⟩
  cases m with
  | zero => exact False.elim f2
  | succ m =>
    unfold forLoop at f2
    obtain ⟨j1, j2⟩ := hJ ρ' h2 H' i e2 rl2.hs
    cases hj : J.next h2 i with
    | none => rw [hj] at f2; exact False.elim f2
    | some o =>
      cases o with
      | none =>
        rw [hj] at f2
        exact .inl ⟨j1 hj, f2 ρ' σ' H' e2 rl2⟩
      | some d =>
        rw [hj] at f2
        dsimp only at f2
        obtain ⟨g1, g2⟩ := j2 d hj
        refine .inr ⟨g1, fun σ' H' => ∃ ρ' h' σd', Ext ρ1 H1 ρ' H' ∧ Rl X C.ex ρ' h' σd' σ' H' ∧ FinS X EX C.ex ρ1 H1 De (forLoop (evTg C t) (evSs C body) J m (i + 1) σd' h'), fun σ'' H'' q => ⟨m, Nat.lt_succ_self m, q⟩, fun x H3 hy => ?_⟩
        obtain ⟨e3, hs3, rx⟩ := g2 x H3 hy
        have f3 := f2.mono (e2.trans e3)
        refine ⟨ρ', h2, σd', d, rl2.next e3 hs3, rx, ?_⟩
        have fl := FinG.loop (ns := tgN t) (σ := σ') f3
        cases hr : evTg C t d σd' h2 with
        | bad => rw [hr] at f3; exact f3
        | exc c fs h4 => rw [hr] at fl; exact fl
        | ok σ4 h4 =>
          rw [hr] at f3
          intro ρ4 τ4 H4 e4 rl4 _ _
          have e14 := (e2.trans e3).trans e4
          refine ⟨ρ4, h4, σ4, rl4, ?_⟩
          have f4 : FinS X EX C.ex ρ' H3 De (match evSs C body σ4 h4 with | .nx σ2 h2 => forLoop (evTg C t) (evSs C body) J m (i + 1) σ2 h2 | r => r) := f3
          cases hb : evSs C body σ4 h4 with
          | bad => rw [hb] at f4; exact f4
          | ret d h5 => rw [hb] at f4; exact f4.mono e4
          | exc c fs h5 => rw [hb] at f4; exact f4.mono e4
          | nx σ5 h5 =>
            intro ρ5 τ5 H5 e5 rl5
            refine ⟨ρ5, h5, σ5, e14.trans e5, rl5, ?_⟩
            have f2' := f2
            rw [hr] at f2'
            have f6 : FinS X EX C.ex ρ1 H1 De (match evSs C body σ4 h4 with | .nx σ2 h2 => forLoop (evTg C t) (evSs C body) J m (i + 1) σ2 h2 | r => r) := f2'
            rw [hb] at f6
            exact f6
theorem s_whl (hp : PassesOwn (model X.prog X.w) X.A X.env X.xe) {t : B} {body : List S} {c : Expr} {bd : List Stmt} (ht : PT X c (tT C X (WK EX) t)) (hb : PSs X bd (tSs C X EX body)) : PS X (.While c bd [] pos) (tS C X EX (.whl t body)) := by
  refine ⟨fun pins s σ H De I ⟨ρ, h', σd, rl, f⟩ => (L2.ps_while hp ht hb).run pins s σ H De I ?_⟩
  rw [evS] at f
  refine ⟨fun m σ' H' => ∃ ρ' h' σd', Ext ρ H ρ' H' ∧ Rl X C.ex ρ' h' σd' σ' H' ∧ FinS X EX C.ex ρ H De (whileLoop (evT C t) (evSs C body) m σd' h'), ⟨C.fuel, ρ, h', σd, Ext.refl _ _, rl, f⟩, ?_⟩
  rintro m σ' H' ⟨ρ', h2, σd', e2, rl2, f2⟩
  cases m with
  | zero => exact False.elim f2
  | succ m =>
    unfold whileLoop at f2
    have f3 := f2.mono e2
    refine ⟨ρ', h2, σd', rl2, ?_⟩
    cases hr : evT C t σd' h2 with
    | bad => rw [hr] at f3; exact f3
    | exc c fs h4 => rw [hr] at f3; exact f3
    | ok b h4 =>
      rw [hr] at f2 f3
      intro ρ4 b' H4 e4 hs4 hbb
      obtain rfl : b = b' := hbb
      have rl4 := rl2.next e4 hs4
      cases b with
      | false =>
        rw [if_neg Bool.false_ne_true]
        exact f3 ρ4 σ' H4 e4 rl4
      | true =>
        rw [if_pos rfl]
        refine ⟨fun σ'' H'' => ∃ ρ' h' σd', Ext ρ H ρ' H'' ∧ Rl X C.ex ρ' h' σd' σ'' H'' ∧ FinS X EX C.ex ρ H De (whileLoop (evT C t) (evSs C body) m σd' h'), fun σ'' H'' q => ⟨m, Nat.lt_succ_self m, q⟩, ρ4, h4, σd', rl4, ?_⟩
        have f4 : FinS X EX C.ex ρ' H' De (match evSs C body σd' h4 with | .nx σ2 h2 => whileLoop (evT C t) (evSs C body) m σ2 h2 | r => r) := f3
        have f5 : FinS X EX C.ex ρ H De (match evSs C body σd' h4 with | .nx σ2 h2 => whileLoop (evT C t) (evSs C body) m σ2 h2 | r => r) := f2
        cases hb : evSs C body σd' h4 with
        | bad => rw [hb] at f4; exact f4
        | ret d h5 => rw [hb] at f4; exact f4.mono e4
        | exc c fs h5 => rw [hb] at f4; exact f4.mono e4
        | nx σ5 h5 =>
          rw [hb] at f5
          exact fun ρ5 τ5 H5 e5 rl5 => ⟨ρ5, h5, σ5, (e2.trans e4).trans e5, rl5, f5⟩
/-! ### try: return e / except K as n: return g(n) -/
theorem s_try (O : DOk X.K X.mg P) (EK : EOk X.K X.mg P) (CO : CallOk P C X.prog X.w X.K X.mg X.base n) (hP : C.P = P) (hex : C.ex = none) (nd : X.N.Nodup) (hr : RoomE n X.A) (tk : L2.Takes X (WK EX)) (hstk : X.stack = X.env :: X.outer) (hfr : X.env.frame = some X.env.locals)
    {x : E} {k g y : Str} {i : Nat} {v : Expr} {p1 p2 p3 p4 p5 p6 p7 : Pos} (hN : X.N[i]? = some y) (hy : ownB X.env.scope y = true) (hk : glB X.env.scope k = true) (pk : plainB k = true) (hg : glB X.env.scope g = true) (pg : plainB g = true) (py : plainB y = true)
    (hek : (P.exc k).isSome = true) (hfg : (P.fn "" g).isSome = true) (hhot : P.hot g = true)
    (hx : ∀ (pn : List (Addr × Obj)) (xe : Value → Shared → Prop) (W : WX), L2.Takes (X.tr pn xe) W → PE (X.tr pn xe) v (tE C X W x)) :
    PS X (.Try [.Return (some v) p1] [.ExceptHandler (some (.Name k p2)) (some y) [.Return (some (.Call (.Name g p3) [.Name y p4] [] p5)) p6] p7] [] [] pos) (tS C X EX (.tryRet x k i g)) := by
  obtain ⟨KC, mK⟩ : ∃ KC, X.mg k = some (.ref KC) := by
    obtain ⟨ps, e⟩ := Option.isSome_iff_exists.mp hek
    exact EK.at_ k ps e
  obtain ⟨fg, efg⟩ := Option.isSome_iff_exists.mp hfg
  obtain ⟨ga, gfd, gps, OW⟩ := O.own g fg efg
  rw [hhot] at OW
  have F := CO.callE g fg ga gfd gps efg hhot OW
  refine ⟨fun pins s σ H De I ⟨ρ, h', σd, rl, f⟩ => ?_⟩
  refine (L2.ps_try_as (n := y) (x := k) (c := .ref KC) (i := i) (tb := fun W => L2.tRet (tE C X W x)) (Wout := WK EX)
    (ts := fun a cls d De σ H => σ[i]? = some (some (.ref a)) ∧ ∃ ρ h c fs d' h', HS X.K X.mg ρ h H ∧ ExcRep X.K X.mg ρ H c fs cls d ∧ H a = none ∧ C.callE g c fs h = .ok d' h' ∧ ∀ ρ' v H', Ext ρ H ρ' H' → HS X.K X.mg ρ' h' H' → Rp X.K X.mg ρ' H' d' v → De.rt v H')
    hstk hfr nd hN (ownB_ok hy) ⟨glB_ok hk, (plainB_ok pk).1, .inl mK⟩ tk (fun W pn xe tk' po => L2.pss_one (L2.ps_ret (hx pn xe W tk'))) (fun a oe cls d pn hz hf => ?_)).run pins s σ H De I ?_
  · -- the suite
    refine L2.pss_one ⟨fun pins' s' σ' H' De' I' ⟨hσ, ρ', h1, c, fs, d', h2, hs', hrep, hna, hcall, hq⟩ => ?_⟩
    refine wpAny_Return_some (wpAny_Call_Name_kw (L2.ld_glob I' (glB_ok (X := X.suite a ((a, oe) :: pn)) hg) (OW.at_ rfl) ?_ (plainB_ok pg).1))
    obtain ⟨q1, q2⟩ := plainB_ok py
    have hvar : PE (X.suite a ((a, oe) :: pn)) (.Name y p4) (L2.tVar i) := L2.pe_var hN (.inl (ownB_ok hy)) q1 q2
    have hs1 : starEach [.Name y p4] X.env = (false, eval (.Name y p4) X.env) :: starEach [] X.env := rfl
    refine PySem.W.callWith_K (h₀ := X.base) I'.ok.mod.kin OW.kp (thn ((L2.pa_cons hvar L2.pa_nil hs1).run _ pins' s' σ' H' (fun vs H1 => vs = [.ref a] ∧ H1 = H') I' ⟨.ref a, hσ, rfl, rfl⟩) fun us s1 ⟨vs, H1, I1, r1, ev, eH⟩ => ⟨I1.kIn, ?_⟩) hs1 rfl
    subst ev; subst eH
    cases r1 with
    | cons ra rb =>
      cases rb
      cases ra
      have P1 := I1.pin (a, oe) (List.mem_append_left _ List.mem_cons_self)
      have hpin : L2H.PinOk X.stack H1 s1 (a, oe) := ⟨P1.1, P1.2.1, fun hm => (List.mem_cons.mp (I1.stkSub a hm)).elim P1.2.2.1 P1.2.2.2.1, P1.2.2.2.2⟩
      have hl : gps.length = 1 := OW.h1 rfl
      have b := OW.bd s1 [.ref a] I1.kIn (by rw [List.append_nil]; exact hl.symm)
      rw [List.append_nil] at b
      have hrm : RoomE n (X.suite a ((a, oe) :: pn)).A := ⟨hr.dp, hr.un, hr.gd⟩
      refine wpAny_call (codeAny_mono (F.run (X.suite a ((a, oe) :: pn)).A X.stack s1 H1 ⟨[.ref a], []⟩ De'.rt ρ' h1 c fs a oe cls d d' h2 hrm I1.env0 hpin hz hf hrep b hl hs' hcall hq) fun res s2 hq2 => ?_)
      cases res with
      | error x =>
        obtain ⟨_, _, _, _, _, _, _, _, _, _, _, _, z⟩ := hq2
        exact z.elim
      | ok fl =>
        cases fl with
        | ret u =>
          obtain ⟨v', H2, I2, rv, q⟩ := I1.after hq2
          exact ⟨v', σ', H2, I2, rv, q⟩
        | next => exact False.elim hq2
        | brk => exact False.elim hq2
        | cont => exact False.elim hq2
  · -- the body
    rw [evS] at f
    refine ⟨ρ, h', σd, rl, ?_⟩
    cases hr : evE C x σd h' with
    | bad => rw [hr] at f; exact f
    | ok d h1 => rw [hr] at f; exact fun ρ1 v H1 e1 hs1 q => f ρ1 v H1 e1 hs1 q
    | exc c fs h1 =>
      rw [hr] at f
      intro ρ1 cls dict H1 e1 hs1 hrep
      obtain ⟨CC, rfl, mC, hd⟩ := id hrep
      dsimp only at f
      rw [hP] at f
      split at f
      · rename_i hec
        refine ⟨P.sub c k, EK.exm c k CC KC hec hek mC mK, fun hb a hna => ⟨?_, ?_⟩, fun hb => ?_⟩
        · have hi : i < σ.length := by rw [I.len]; exact (List.getElem?_eq_some_iff.mp hN).1
          exact List.getElem?_set_self hi
        · rw [if_pos hb] at f
          cases hcall : C.callE g c fs h1 with
          | ok d' h2 =>
            rw [hcall] at f
            exact ⟨ρ1, h1, c, fs, d', h2, hs1, hrep, hna, hcall, fun ρ2 v H2 e2 hs2 q => f ρ2 v H2 (e1.trans e2) hs2 q⟩
          | bad => rw [hcall] at f; exact False.elim f
          | exc c fs h2 => rw [hcall] at f; exact False.elim f
        · rw [hb, if_neg Bool.false_ne_true] at f
          exact f ρ1 (.ref CC) dict H1 e1 hs1 hrep
      · exact False.elim f
end
end Ev
end
section
set_option Elab.async false
set_option linter.all false
set_option maxRecDepth 100000
set_option maxHeartbeats 4000000
/-! Snd14: what the checker has let by, the evaluator tells rightly. -/
namespace Ev
open PySem PySem.Spec PyProof.Rows
open L2 (V Hp HO upd upd_same upd_ne SqT SqL Rd Key RelV Vals VK WX TE TT TA PE PT PA XK Inv EP TP AP Gl thn FpOk PIE PI TI PG PS PSs TS Ends)
/-- all that one leans on -/
structure Gd (P : Prog) (C : Cx) (X : L2.Cx) (n : Nat) (hot : Bool) : Prop where
  M : WOk P X.K X.mg X.w
  O : DOk X.K X.mg P
  EK : EOk X.K X.mg P
  CO : CallOk P C X.prog X.w X.K X.mg X.base n
  hP : C.P = P
  hC : ∀ c fs, C.ex = some (c, fs) → (P.exc c).isSome = true
  hx : hot = false → C.ex = none
section
variable {P : Prog} {C : Cx} {hot : Bool} {n : Nat}
theorem tE_blk {X : L2.Cx} {s : Shared} {H : Hp} {scope : Scope} {cenv : Env} {fp : List Addr} {x : E} (hex : C.ex = none) {e : Expr} (h : PE (X.blk s H scope cenv fp) e (tE C (X.blk s H scope cenv fp) W0 x)) : PE (X.blk s H scope cenv fp) e (tE C X W0 x) :=
  ⟨fun pins s σ H Q I ⟨ρ, h', σd, rl, f⟩ => h.run pins s σ H Q I ⟨ρ, h', σd, ⟨rl.hs, rl.sl, fun c fs z => by rw [hex] at z; cases z⟩, f⟩⟩
theorem tIf_blk {X : L2.Cx} {s : Shared} {H : Hp} {scope : Scope} {cenv : Env} {fp : List Addr} {x : Option B} (hex : C.ex = none) {e : List Expr} (h : L2.PTs (X.blk s H scope cenv fp) e (tIf C (X.blk s H scope cenv fp) W0 x)) : L2.PTs (X.blk s H scope cenv fp) e (tIf C X W0 x) :=
  ⟨fun pins s σ H Q I ⟨ρ, h', σd, rl, f⟩ => h.run pins s σ H Q I ⟨ρ, h', σd, ⟨rl.hs, rl.sl, fun c fs z => by rw [hex] at z; cases z⟩, f⟩⟩
theorem tG_blk {X : L2.Cx} {s : Shared} {H : Hp} {scope : Scope} {cenv : Env} {fp : List Addr} {t : T} (hex : C.ex = none) {e : Expr} (h : PG (X.blk s H scope cenv fp) e (tG C (X.blk s H scope cenv fp) W0 t)) : PG (X.blk s H scope cenv fp) e (tG C X W0 t) :=
  ⟨fun pins s σ H v u Q I r ⟨ρ, h', σd, d, rl, rp, f⟩ => h.run pins s σ H v u Q I r ⟨ρ, h', σd, d, ⟨rl.hs, rl.sl, fun c fs z => by rw [hex] at z; cases z⟩, rp, by
    cases hr : evTg C t d σd h' with
    | bad => rw [hr] at f; exact f
    | ok σ2 h2 => rw [hr] at f; exact fun ρ2 σ2' H2 e2 rl2 l2 n2 => f ρ2 σ2' H2 e2 ⟨rl2.hs, rl2.sl, fun c fs z => by rw [hex] at z; cases z⟩ l2 n2
    | exc c fs h2 => rw [hr] at f; exact f⟩⟩
theorem relS_cell {scope sc : Scope} {x : Str} (h : locB scope x = true) (hc : (L2.relS scope sc).names.lookup x = some .cell) : (scope.names.lookup x == some NameKind.cell) = true := by
  rcases locB_ok h with k | k
  · have := L2.lookup_relS_keep (sc := sc) (x := x) (k := .local) (by decide) k
    have hc' : (scope.names.map fun (n, k) => if (k == NameKind.free && sc.kind == .function && sc.names.lookup n == some .cell) then (n, NameKind.cell) else (n, k)).lookup x = some .cell := hc
    rw [this] at hc'
    cases hc'
  · rw [k]; rfl
theorem assign_len (env : Env) : ∀ es : List Expr, (assignEach es env).length = es.length
  | [] => rfl
  | e :: es => by
    cases e <;> exact congrArg (· + 1) (assign_len env es)
theorem okT_notStar {N : List Str} {sc : Scope} {t : T} {e : Expr} (h : okT P N hot t sc e = true) : (∀ a p, e ≠ .Starred a p) ∧ ∀ ts p, e ≠ .List ts p := by
  refine ⟨fun a p z => ?_, fun ts p z => ?_⟩ <;> subst z <;> cases t <;> simp [okT] at h
theorem assign_cons {env : Env} {e : Expr} {es : List Expr} (h : ∀ a p, e ≠ .Starred a p) : (assignEach (e :: es) env).map (·.2) = assign e env :: (assignEach es env).map (·.2) := by
  cases e <;> first | rfl | exact absurd rfl (h _ _)
theorem okTs_star {N : List Str} {sc : Scope} {env : Env} : ∀ {ts : List T} {es : List Expr}, okTs P N hot ts sc es = true → (assignEach es env).findIdx? (·.1) = none
  | [], es, h => by simp only [okTs, List.isEmpty_iff] at h; subst h; rfl
  | t :: ts, [], h => rfl
  | t :: ts, e :: es, h => by
    simp only [okTs, Bool.and_eq_true] at h
    have ih := okTs_star (env := env) h.2
    have hn := (okT_notStar h.1).1
    have : assignEach (e :: es) env = (false, assign e env) :: assignEach es env := by cases e <;> first | rfl | exact absurd rfl (hn _ _)
    rw [this, List.findIdx?_cons]
    simp [ih]
theorem okI_plain {N : List Str} {sc : Scope} {it : IE} {tg e : Expr} (h : okI P N hot it sc tg e = true) : plainE e = true := by
  cases it with
  | val x => simp only [okI] at h; exact okE_plain h
  | _ =>
    cases e with
    | Call _ _ _ _ => rfl
    | _ => simp [okI] at h
theorem okEs_len {N : List Str} {sc : Scope} : ∀ {xs : List E} {es : List Expr}, okEs P N hot xs sc es = true → es.length = xs.length
  | [], es, h => by simp only [okEs, List.isEmpty_iff] at h; subst h; rfl
  | x :: xs, [], h => by simp [okEs] at h
  | x :: xs, e :: es, h => by
    simp only [okEs, Bool.and_eq_true] at h
    simp [okEs_len h.2]
end
section
variable (P : Prog) (C : Cx) (hot : Bool) (n : Nat)
mutual
theorem sE : ∀ (x : E) {X : L2.Cx} {W : WX} {e : Expr}, Gd P C X n hot → XOk hot n X W → okE P X.N hot x X.env.scope e = true → PE X e (tE C X W x)
  | .c d, X, W, e, G, K, h => s_c G.M (by simpa only [okE] using h)
  | .v i, X, W, e, G, K, h => by
    simp only [okE] at h
    split at h
    · rw [Bool.and_eq_true, Bool.and_eq_true] at h
      exact s_v (of_decide_eq_true h.1.1) h.1.2 h.2
    · cases h
  | .gl x, X, W, e, G, K, h => by
    simp only [okE] at h
    split at h
    · rw [Bool.and_eq_true, Bool.and_eq_true, Bool.and_eq_true] at h
      obtain ⟨⟨⟨h1, h2⟩, h3⟩, h4⟩ := h
      have e1 := of_decide_eq_true h1
      subst e1
      exact s_gl G.M G.hP h2 h3 h4
    · cases h
  | .bin o a b, X, W, e, G, K, h => by
    simp only [okE] at h
    split at h
    · rw [Bool.and_eq_true, Bool.and_eq_true] at h
      have e1 := of_decide_eq_true h.1.1
      subst e1
      exact s_bin (sE a G K h.1.2) (sE b G K h.2)
    · cases h
  | .neg a, X, W, e, G, K, h => by
    simp only [okE] at h
    split at h
    · exact s_neg (sE a G K h)
    · cases h
  | .nt a, X, W, e, G, K, h => by
    simp only [okE] at h
    split at h
    · exact s_nt (sE a G K h)
    · cases h
  | .bool o xs, X, W, e, G, K, h => by
    simp only [okE] at h
    split at h
    · rw [Bool.and_eq_true, Bool.and_eq_true] at h
      obtain ⟨⟨h1, h2⟩, h3⟩ := h
      have e1 := of_decide_eq_true h1
      subst e1
      exact s_bool (sBoo xs o G K h2 (by intro z; rw [z] at h3; cases h3))
    · cases h
  | .cmp a os bs, X, W, e, G, K, h => by
    simp only [okE] at h
    split at h
    · rename_i l os' cs _
      rw [Bool.and_eq_true, Bool.and_eq_true, Bool.and_eq_true, Bool.and_eq_true] at h
      obtain ⟨⟨⟨⟨h1, h2⟩, h3⟩, h4⟩, h5⟩ := h
      have e1 := of_decide_eq_true h1
      subst e1
      have hl := okEs_len h3
      have h4' := of_decide_eq_true h4
      have ha := sE a G K h2
      rw [Bool.or_eq_true, beq_iff_eq, beq_iff_eq] at h5
      have hp := okEs_plain  h3
      cases bs with
      | nil =>
        exfalso
        simp at hl
        subst hl
        simp at h4'
        subst h4'
        simp at h5
      | cons b bs =>
        cases cs with
        | nil => cases hl
        | cons r cs =>
          cases os with
          | nil => cases h4'
          | cons o os =>
            cases bs with
            | nil =>
              simp at hl
              subst hl
              simp at h4'
              subst h4'
              simp only [okEs, Bool.and_eq_true] at h3
              exact s_cmp1 G.M G.hP K.rm ha (sE b G K h3.1) (hp r (by simp))
            | cons c bs =>
              cases cs with
              | nil => cases hl
              | cons r2 cs =>
                cases os with
                | nil => cases h4'
                | cons o' os =>
                  have hz : os = [] := by
                    rcases h5 with h5 | h5 <;> simp at h5
                    exact h5
                  subst hz
                  have hz2 : cs = [] := by
                    simp at h4'
                    exact h4'
                  subst hz2
                  simp only [okEs, Bool.and_eq_true] at h3
                  have hz3 : bs = [] := by
                    simp at hl
                    exact hl
                  subst hz3
                  exact s_cmp2 G.M G.hP K.rm ha (sE b G K h3.1) (sE c G K h3.2.1) (hp r2 (by simp))
    · cases h
  | .ife t a b, X, W, e, G, K, h => by
    simp only [okE] at h
    split at h
    · rw [Bool.and_eq_true, Bool.and_eq_true] at h
      exact s_ife (sB t G K h.1.1) (sE a G K h.1.2) (sE b G K h.2)
    · cases h
  | .tup xs, X, W, e, G, K, h => by
    simp only [okE] at h
    split at h
    · exact s_tup (sEs xs G K h)
    · cases h
  | .lst xs, X, W, e, G, K, h => by
    simp only [okE] at h
    split at h
    · exact s_lst (sEs xs G K h)
    · cases h
  | .dct kvs, X, W, e, G, K, h => by
    simp only [okE] at h
    split at h
    · exact s_dct h
    · cases h
  | .call x xs, X, W, e, G, K, h => by
    simp only [okE] at h
    split at h
    · simp only [Bool.and_eq_true, Bool.not_eq_true'] at h
      obtain ⟨⟨⟨⟨⟨⟨⟨h1, h2⟩, h3⟩, h4⟩, h5⟩, h6⟩, h7⟩, h8⟩ := h
      have e1 := of_decide_eq_true h1
      subst e1
      have K' : XOk false n X W := by rw [← h4]; exact K
      exact s_call G.O G.CO G.hP K' h2 (sEs xs G K h3) (okEs_plain h3) (okEs_len h3) h5 h6 h7 h8
    · cases h
  | .callv f xs, X, W, e, G, K, h => by
    simp only [okE] at h
    split at h
    · simp only [Bool.and_eq_true, Bool.not_eq_true'] at h
      obtain ⟨⟨h1, h2⟩, h3⟩ := h
      have K' : XOk false n X W := by rw [← h3]; exact K
      exact s_callv G.O G.CO G.hP K' (sE f G K h1) (sEs xs G K h2) (okEs_plain h2) (okEs_len h2) fun hw => Call_ hw (by rfl)
    · simp only [Bool.and_eq_true, Bool.not_eq_true'] at h
      obtain ⟨⟨h1, h2⟩, h3⟩ := h
      have K' : XOk false n X W := by rw [← h3]; exact K
      exact s_callv G.O G.CO G.hP K' (sE f G K h1) (sEs xs G K h2) (okEs_plain h2) (okEs_len h2) fun hw => wpAny_Call_Name_kw hw
    · cases h
  | .bi b xs, X, W, e, G, K, h => by
    simp only [okE] at h
    split at h
    · rename_i as _
      simp only [Bool.and_eq_true, Bool.not_eq_true'] at h
      obtain ⟨⟨⟨⟨⟨h1, h2⟩, h3⟩, h4⟩, h5⟩, h6⟩ := h
      have e1 := of_decide_eq_true h1
      subst e1
      cases as with
      | nil => cases h6
      | cons a as => exact s_bi G.M G.hP K.rm (K.calm h5) h2 h3 (sEs xs G K h4) (okEs_plain h4)
    · cases h
  | .bm m o xs, X, W, e, G, K, h => by
    simp only [okE] at h
    split at h
    · simp only [Bool.and_eq_true] at h
      obtain ⟨⟨⟨⟨⟨h1, h2⟩, h3⟩, h4⟩, h5⟩, h6⟩ := h
      have e1 := of_decide_eq_true h1
      subst e1
      exact s_bm K.rm K.calm (sE o G K h2) (sEs xs G K h3) (okEs_plain h3) h4 h5 (of_decide_eq_true h6) (okEs_len h3)
    · cases h
  | .meth o m xs, X, W, e, G, K, h => by
    simp only [okE] at h
    split at h
    · simp at h
    · cases h
  | .att o m, X, W, e, G, K, h => by
    simp only [okE] at h
    split at h
    · rw [Bool.and_eq_true, Bool.and_eq_true] at h
      have e1 := of_decide_eq_true h.1.1
      subst e1
      exact s_att G.M G.hP (sE o G K h.1.2) h.2
    · cases h
  | .ix o i, X, W, e, G, K, h => by
    simp only [okE] at h
    split at h
    · rw [Bool.and_eq_true] at h
      exact s_ix G.M G.hP (sE o G K h.1) (sE i G K h.2) (okE_plain h.2)
    · cases h
  | .sl o lo hi, X, W, e, G, K, h => by
    simp only [okE] at h
    split at h
    · rw [Bool.and_eq_true, Bool.and_eq_true] at h
      exact s_sl (sE o G K h.1.1) (sO lo G K h.1.2) (sO hi G K h.2)
    · cases h
  | .rev o, X, W, e, G, K, h => by
    simp only [okE] at h
    split at h
    · rw [Bool.and_eq_true] at h
      exact s_rev (sE o G K h.1) h.2
    · cases h
  | .isE t, X, W, e, G, K, h => by
    simp only [okE] at h
    split at h
    · simp only [Bool.and_eq_true] at h
      obtain ⟨⟨⟨⟨⟨⟨h1, h2⟩, h3⟩, h4⟩, h5⟩, h6⟩, h7⟩ := h
      have e1 := of_decide_eq_true h1
      subst e1
      exact s_isE G.M G.EK G.hP G.hC h2 (of_decide_eq_true h3) h4 h5 (sE t G K h6) (okE_plain h6)
    · cases h
  | .attE m, X, W, e, G, K, h => by
    simp only [okE] at h
    split at h
    · exact s_attE
    · cases h
  | .lc elt tg it ifs own, X, W, e, G, K, h => by
    simp only [okE] at h
    split at h
    · rename_i elt' tg' iter' ifs' a scope _
      simp only [Bool.and_eq_true, Bool.not_eq_true'] at h
      obtain ⟨⟨⟨⟨⟨⟨⟨⟨h1, h2⟩, h3⟩, h4⟩, h5⟩, h6⟩, h7⟩, h8⟩, h9⟩ := h
      have e1 := of_decide_eq_true h1
      subst e1
      have hex := G.hx h2
      have hown : ∀ i ∈ tgN tg, i ∈ own := fun i hi => by simpa using List.all_eq_true.mp h6 i hi
      have hfn : ∀ i ∈ tgN tg, ∀ id, X.N[i]? = some id → (L2.relS scope X.env.scope).names.lookup id = some .cell → (scope.names.lookup id == some NameKind.cell) = true := fun i hi id hid hc => by
        have := List.all_eq_true.mp h7 i (hown i hi)
        rw [hid] at this
        exact relS_cell this hc
      have XB : ∀ (s : Shared) (H : Hp) (Cc : Addr) (cl : List (Str × Addr)) (fp : List Addr), XOk hot n (X.blk s H scope (compEnvC scope cl Cc X.env) fp) W0 := fun s H Cc cl fp => ⟨K.nd, K.calm, K.rm, L2.takes0⟩
      have GB : ∀ (s : Shared) (H : Hp) (Cc : Addr) (cl : List (Str × Addr)) (fp : List Addr), Gd P C (X.blk s H scope (compEnvC scope cl Cc X.env) fp) n hot := fun s H Cc cl fp => ⟨G.M, G.O, G.EK, G.CO, G.hP, G.hC, G.hx⟩
      exact s_lc hex (K.calm h2) K.nd (sI it tg' G K h4) (L2.blkOk_by h3)
        (fun s H Cc cl fp => tG_blk hex (sT tg (GB s H Cc cl fp) (XB s H Cc cl fp) hfn h5))
        (fun s H Cc cl fp => tIf_blk hex (sIf ifs (GB s H Cc cl fp) (XB s H Cc cl fp) h8))
        (fun s H Cc cl fp => tE_blk hex (sE elt (GB s H Cc cl fp) (XB s H Cc cl fp) h9)) (okI_plain h4) hown
    · cases h
theorem sEs : ∀ (xs : List E) {X : L2.Cx} {W : WX} {es : List Expr}, Gd P C X n hot → XOk hot n X W → okEs P X.N hot xs X.env.scope es = true → PA X es (tEs C X W xs)
  | [], X, W, es, G, K, h => by
    simp only [okEs, List.isEmpty_iff] at h
    subst h
    exact s_nil
  | x :: xs, X, W, [], G, K, h => by simp [okEs] at h
  | x :: xs, X, W, e :: es, G, K, h => by
    simp only [okEs, Bool.and_eq_true] at h
    exact s_cons (sE x G K h.1) (sEs xs G K h.2) (plain_star X.env es (okE_plain h.1))
theorem sBoo : ∀ (xs : List E) (o : BoolOp) {X : L2.Cx} {W : WX} {es : List Expr} {pos : Pos}, Gd P C X n hot → XOk hot n X W → okEs P X.N hot xs X.env.scope es = true → es ≠ [] → PE X (.BoolOp o es pos) (tBoo C X W o xs)
  | [], o, X, W, es, pos, G, K, h, hne => by
    simp only [okEs, List.isEmpty_iff] at h
    exact absurd h hne
  | x :: xs, o, X, W, [], pos, G, K, h, hne => absurd rfl hne
  | [x], o, X, W, e :: es, pos, G, K, h, hne => by
    simp only [okEs, Bool.and_eq_true, List.isEmpty_iff] at h
    obtain ⟨h1, h2⟩ := h
    subst h2
    exact s_boo1 (sE x G K h1)
  | x :: y :: xs, o, X, W, [e], pos, G, K, h, hne => by simp [okEs] at h
  | x :: y :: xs, o, X, W, e :: e2 :: es, pos, G, K, h, hne => by
    have h' : okE P X.N hot x X.env.scope e = true ∧ okEs P X.N hot (y :: xs) X.env.scope (e2 :: es) = true := by
      rw [okEs, Bool.and_eq_true] at h
      exact h
    exact s_boo (sE x G K h'.1) (sBoo (y :: xs) o G K h'.2 (by simp))
theorem sO : ∀ (x : Option E) {X : L2.Cx} {W : WX} {e : Option Expr}, Gd P C X n hot → XOk hot n X W → okO P X.N hot x X.env.scope e = true → L2.PO X e (tO C X W x)
  | none, X, W, e, G, K, h => by
    simp only [okO, Option.isNone_iff_eq_none] at h
    subst h
    exact s_po0
  | some x, X, W, none, G, K, h => by simp [okO] at h
  | some x, X, W, some e, G, K, h => by
    simp only [okO] at h
    exact s_po (sE x G K h)
theorem sB : ∀ (x : B) {X : L2.Cx} {W : WX} {e : Expr}, Gd P C X n hot → XOk hot n X W → okB P X.N hot x X.env.scope e = true → PT X e (tT C X W x)
  | .val x, X, W, e, G, K, h => by
    simp only [okB, Bool.and_eq_true] at h
    exact s_val (sE x G K h.1) h.2
  | .nt a, X, W, e, G, K, h => by
    simp only [okB] at h
    split at h
    · exact s_tnt (sB a G K h)
    · cases h
  | .bool o xs, X, W, e, G, K, h => by
    simp only [okB] at h
    split at h
    · rw [Bool.and_eq_true] at h
      have e1 := of_decide_eq_true h.1
      subst e1
      exact s_tbool (sBs xs o G K h.2)
    · cases h
  | .ife t a b, X, W, e, G, K, h => by
    simp only [okB] at h
    split at h
    · rw [Bool.and_eq_true, Bool.and_eq_true] at h
      exact s_tife (sB t G K h.1.1) (sB a G K h.1.2) (sB b G K h.2)
    · cases h
  | .cmp a os bs, X, W, e, G, K, h => by
    simp only [okB] at h
    split at h
    · rename_i l os' cs _
      rw [Bool.and_eq_true, Bool.and_eq_true, Bool.and_eq_true, Bool.and_eq_true] at h
      obtain ⟨⟨⟨⟨h1, h2⟩, h3⟩, h4⟩, h5⟩ := h
      have e1 := of_decide_eq_true h1
      subst e1
      have hl := okEs_len h3
      have h4' := of_decide_eq_true h4
      have ha := sE a G K h2
      rw [Bool.or_eq_true, beq_iff_eq, beq_iff_eq] at h5
      have hp := okEs_plain  h3
      cases bs with
      | nil =>
        exfalso
        simp at hl
        subst hl
        simp at h4'
        subst h4'
        simp at h5
      | cons b bs =>
        cases cs with
        | nil => cases hl
        | cons r cs =>
          cases os with
          | nil => cases h4'
          | cons o os =>
            cases bs with
            | nil =>
              simp at hl
              subst hl
              simp at h4'
              subst h4'
              simp only [okEs, Bool.and_eq_true] at h3
              exact s_tcmp1 G.M G.hP K.rm ha (sE b G K h3.1) (hp r (by simp))
            | cons c bs =>
              cases cs with
              | nil => cases hl
              | cons r2 cs =>
                cases os with
                | nil => cases h4'
                | cons o' os =>
                  have hz : os = [] := by
                    rcases h5 with h5 | h5 <;> simp at h5
                    exact h5
                  subst hz
                  have hz2 : cs = [] := by
                    simp at h4'
                    exact h4'
                  subst hz2
                  simp only [okEs, Bool.and_eq_true] at h3
                  have hz3 : bs = [] := by
                    simp at hl
                    exact hl
                  subst hz3
                  exact s_tcmp2 G.M G.hP K.rm ha (sE b G K h3.1) (sE c G K h3.2.1) (hp r2 (by simp))
    · cases h
theorem sBs : ∀ (xs : List B) (o : BoolOp) {X : L2.Cx} {W : WX} {es : List Expr} {pos : Pos}, Gd P C X n hot → XOk hot n X W → okBs P X.N hot xs X.env.scope es = true → L2.PW X (.BoolOp o es pos) (tTs C X W o xs)
  | [], o, X, W, es, pos, G, K, h => by
    simp only [okBs, List.isEmpty_iff] at h
    subst h
    exact s_tnil
  | x :: xs, o, X, W, [], pos, G, K, h => by simp [okBs] at h
  | x :: xs, o, X, W, e :: es, pos, G, K, h => by
    simp only [okBs, Bool.and_eq_true] at h
    exact s_tcons (sB x G K h.1) (sBs xs o G K h.2)
theorem sIf : ∀ (x : Option B) {X : L2.Cx} {W : WX} {es : List Expr}, Gd P C X n hot → XOk hot n X W → okIf P X.N hot x X.env.scope es = true → L2.PTs X es (tIf C X W x)
  | none, X, W, es, G, K, h => by
    simp only [okIf, List.isEmpty_iff] at h
    subst h
    exact s_if0
  | some x, X, W, es, G, K, h => by
    simp only [okIf] at h
    split at h
    · exact s_if1 (sB x G K h)
    · cases h
theorem sT : ∀ (t : T) {X : L2.Cx} {W : WX} {e : Expr}, Gd P C X n hot → XOk hot n X W → (∀ i ∈ tgN t, ∀ id, X.N[i]? = some id → X.env.scope.names.lookup id = some .cell → X.fn id = true) → okT P X.N hot t X.env.scope e = true → PG X e (tG C X W t)
  | .nm i, X, W, e, G, K, hf, h => by
    simp only [okT] at h
    split at h
    · rw [Bool.and_eq_true] at h
      have hN := of_decide_eq_true h.1
      exact s_nm K.nd (hf i (by simp [tgN]) _ hN) hN h.2
    · cases h
  | .tup ts, X, W, e, G, K, hf, h => by
    simp only [okT] at h
    split at h
    · rw [Bool.and_eq_true, Bool.not_eq_true'] at h
      exact s_tgtup (K.calm h.2) (sTs ts G K (by simpa only [tgN] using hf) h.1) (okTs_len h.1).symm (assign_len _ _) (okTs_star h.1)
    · cases h
  | .att o m, X, W, e, G, K, hf, h => by
    simp only [okT] at h
    split at h
    · rw [Bool.and_eq_true] at h
      have e1 := of_decide_eq_true h.1
      subst e1
      exact s_tgatt G.M G.hP (sE o G K h.2)
    · cases h
  | .ix o i, X, W, e, G, K, hf, h => by
    simp only [okT] at h
    split at h
    · rw [Bool.and_eq_true] at h
      exact s_tgix (sE o G K h.1) (sE i G K h.2) (okE_plain h.2)
    · cases h
theorem sTs : ∀ (ts : List T) {X : L2.Cx} {W : WX} {es : List Expr}, Gd P C X n hot → XOk hot n X W → (∀ i ∈ tgNs ts, ∀ id, X.N[i]? = some id → X.env.scope.names.lookup id = some .cell → X.fn id = true) → okTs P X.N hot ts X.env.scope es = true → L2.PGs X es (tGs C X W ts)
  | [], X, W, es, G, K, hf, h => by
    simp only [okTs, List.isEmpty_iff] at h
    subst h
    exact s_tgnil
  | t :: ts, X, W, [], G, K, hf, h => by simp [okTs] at h
  | t :: ts, X, W, e :: es, G, K, hf, h => by
    simp only [okTs, Bool.and_eq_true] at h
    simp only [tgNs] at hf
    exact s_tgcons (sT t G K (fun i hi => hf i (List.mem_append_left _ hi)) h.1) (sTs ts G K (fun i hi => hf i (List.mem_append_right _ hi)) h.2) (assign_cons (okT_notStar h.1).1)
theorem sI : ∀ (it : IE) (tg : Expr) {X : L2.Cx} {W : WX} {e : Expr}, Gd P C X n hot → XOk hot n X W → okI P X.N hot it X.env.scope tg e = true → PI X tg e (tI C X W it)
  | .val x, tg, X, W, e, G, K, h => by
    simp only [okI] at h
    exact s_ival (sE x G K h)
  | .enm x, tg, X, W, e, G, K, h => by
    simp only [okI] at h
    split at h
    · simp only [Bool.and_eq_true] at h
      obtain ⟨⟨⟨h1, h2⟩, h3⟩, h4⟩ := h
      have e1 := of_decide_eq_true h1
      subst e1
      exact s_enm G.M h2 (sE x G K h3) (okE_plain h3) h4
    · cases h
  | .zip x y, tg, X, W, e, G, K, h => by
    simp [okI] at h
  | .rng1 x, tg, X, W, e, G, K, h => by
    simp only [okI] at h
    split at h
    · simp only [Bool.and_eq_true] at h
      obtain ⟨⟨h1, h2⟩, h3⟩ := h
      have e1 := of_decide_eq_true h1
      subst e1
      exact s_rng1 G.M h2 (sE x G K h3) (okE_plain h3)
    · cases h
  | .rng2 x y, tg, X, W, e, G, K, h => by
    simp only [okI] at h
    split at h
    · simp only [Bool.and_eq_true] at h
      obtain ⟨⟨⟨h1, h2⟩, h3⟩, h4⟩ := h
      have e1 := of_decide_eq_true h1
      subst e1
      exact s_rng2 G.M h2 (sE x G K h3) (sE y G K h4) (okE_plain h3) (okE_plain h4)
    · cases h
  | .rng3 x y z, tg, X, W, e, G, K, h => by
    simp only [okI] at h
    split at h
    · simp only [Bool.and_eq_true] at h
      obtain ⟨⟨⟨⟨h1, h2⟩, h3⟩, h4⟩, h5⟩ := h
      have e1 := of_decide_eq_true h1
      subst e1
      exact s_rng3 G.M h2 (sE x G K h3) (sE y G K h4) (sE z G K h5) (okE_plain h3) (okE_plain h4) (okE_plain h5)
    · cases h
  | .rvd x, tg, X, W, e, G, K, h => by
    simp [okI] at h
end
end
end Ev
end
section
set_option Elab.async false
set_option linter.all false
set_option maxRecDepth 100000
set_option maxHeartbeats 4000000
/-! Snd15: statements, defs. -/
namespace Ev
open PySem PySem.Spec PyProof.Rows
open L2 (V Hp HO upd upd_same upd_ne SqT SqL Rd Key RelV Vals VK WX TE TT TA PE PT PA XK Inv EP TP AP Gl thn FpOk PIE PI TI PG PS PSs TS Ends)
/-- where statements stand -/
structure XSt (hot : Bool) (n : Nat) (X : L2.Cx) (EX : XK) : Prop where
  K : XOk hot n X (WK EX)
  fn : ∀ x, X.fn x = true
  po : PassesOwn (model X.prog X.w) X.A X.env X.xe
  top : X.stack = X.env :: X.outer ∧ X.env.frame = some X.env.locals
theorem tE_tr {C : Cx} {X : L2.Cx} {pn : List (Addr × Obj)} {xe : Value → Shared → Prop} {W : WX} {x : E} (hex : C.ex = none) {e : Expr} (h : PE (X.tr pn xe) e (tE C (X.tr pn xe) W x)) : PE (X.tr pn xe) e (tE C X W x) :=
  ⟨fun pins s σ H Q I ⟨ρ, h', σd, rl, f⟩ => h.run pins s σ H Q I ⟨ρ, h', σd, ⟨rl.hs, rl.sl, fun c fs z => by rw [hex] at z; cases z⟩, f⟩⟩
theorem okE_LC {P : Prog} {N : List Str} {hot : Bool} {sc : Scope} {x : E} {a : Expr} {b : List Comprehension} {c : Scope} {d : Pos} (h : okE P N hot x sc (.ListComp a b c d) = true) : ∃ elt tg it ifs own, x = .lc elt tg it ifs own := by
  cases x with
  | lc elt tg it ifs own => exact ⟨_, _, _, _, _, rfl⟩
  | _ => simp [okE, okC] at h
theorem okE_Tup {P : Prog} {N : List Str} {hot : Bool} {sc : Scope} {x : E} {es : List Expr} {k : Nat} {d : Pos} (h : okE P N hot x sc (.Tuple es k d) = true) : ∃ xs, x = .tup xs ∧ okEs P N hot xs sc es = true := by
  cases x with
  | tup xs => exact ⟨xs, rfl, by simpa only [okE] using h⟩
  | _ => simp [okE, okC] at h
theorem okE_noC {P : Prog} {N : List Str} {hot : Bool} {sc : Scope} {x : E} {v : Expr} (h : okE P N hot x sc v = true) : (∀ a b c d, v ≠ .SetComp a b c d) ∧ ∀ a b c d f, v ≠ .DictComp a b c d f := by
  refine ⟨fun a b c d z => ?_, fun a b c d f z => ?_⟩ <;> subst z <;> cases x <;> simp [okE, okC] at h
theorem stars_ok {es : List Expr} (h : ∀ e ∈ es, plainE e = true) : (es.any fun | .Starred .. => true | _ => false) = false := by
  rw [List.any_eq_false]
  intro e he
  have := h e he
  cases e <;> first | exact Bool.noConfusion (show false = true from this) | (intro z; cases z)
section
variable (P : Prog) (C : Cx) (hot : Bool) (n : Nat)
mutual
theorem sS : ∀ (x : S) {X : L2.Cx} {EX : XK} {st : Stmt}, Gd P C X n hot → XSt hot n X EX → okS P X.N hot x X.env.scope st = true → PS X st (tS C X EX x)
  | .asg t x, X, EX, st, G, K, h => by
    simp only [okS] at h
    split at h
    · rename_i tg v pos
      rw [Bool.and_eq_true, Bool.and_eq_true, Bool.not_eq_true'] at h
      obtain ⟨⟨hx, ht⟩, hcv⟩ := h
      have hT : PG X tg (tG C X (WK EX) t) := sT P C hot n t G K.K (fun i hi id hid hc => K.fn id) ht
      have hV : PE X v (tE C X (WK EX) x) := sE P C hot n x G K.K hx
      cases hl : lcSwap X.env.scope tg v with
      | true =>
        cases tg with
        | Name id py =>
          cases v with
          | ListComp elt' gs scope pv =>
            obtain ⟨elt, tg, it, ifs, own, rfl⟩ := okE_LC hx
            obtain ⟨i, rfl, hN⟩ := okT_nm ht
            simp only [okE] at hx
            split at hx
            · rename_i elt'' tg' iter' ifs' a scope' _ heq
              cases heq
              simp only [Bool.and_eq_true, Bool.not_eq_true'] at hx
              obtain ⟨⟨⟨⟨⟨⟨⟨⟨h1, h2⟩, h3⟩, h4⟩, h5⟩, h6⟩, h7⟩, h8⟩, h9⟩ := hx
              have e1 := of_decide_eq_true h1
              subst e1
              have hex := G.hx h2
              have hown : ∀ i ∈ tgN tg, i ∈ own := fun i hi => by simpa using List.all_eq_true.mp h6 i hi
              have hfn : ∀ i ∈ tgN tg, ∀ id, X.N[i]? = some id → (L2.relS scope X.env.scope).names.lookup id = some .cell → (scope.names.lookup id == some NameKind.cell) = true := fun i hi id hid hc => by
                have := List.all_eq_true.mp h7 i (hown i hi)
                rw [hid] at this
                exact relS_cell this hc
              have XB : ∀ (s : Shared) (H : Hp) (Cc : Addr) (cl : List (Str × Addr)) (fp : List Addr), XOk hot n (X.blk s H scope (compEnvC scope cl Cc X.env) fp) W0 := fun s H Cc cl fp => ⟨K.K.nd, K.K.calm, K.K.rm, L2.takes0⟩
              have GB : ∀ (s : Shared) (H : Hp) (Cc : Addr) (cl : List (Str × Addr)) (fp : List Addr), Gd P C (X.blk s H scope (compEnvC scope cl Cc X.env) fp) n hot := fun s H Cc cl fp => ⟨G.M, G.O, G.EK, G.CO, G.hP, G.hC, G.hx⟩
              exact s_asgLc hex (K.K.calm h2) K.K.nd hN hl (sI P C hot n it tg' G K.K h4) (L2.blkOk_by h3)
                (fun s H Cc cl fp => tG_blk hex (sT P C hot n tg (GB s H Cc cl fp) (XB s H Cc cl fp) hfn h5))
                (fun s H Cc cl fp => tIf_blk hex (sIf P C hot n ifs (GB s H Cc cl fp) (XB s H Cc cl fp) h8))
                (fun s H Cc cl fp => tE_blk hex (sE P C hot n elt (GB s H Cc cl fp) (XB s H Cc cl fp) h9)) (okI_plain h4) hown
            · cases hx
          | _ => simp [lcSwap] at hl
        | _ => simp [lcSwap] at hl
      | false =>
        cases hsw : tupSwap X.env.scope tg v with
        | none =>
          obtain ⟨c1, c2⟩ := okE_noC hx
          refine s_asg hV hT hcv hl hsw (okT_notStar ht).2 (okT_notStar ht).1 (fun vs k p z => ?_) c1 c2
          subst z
          obtain ⟨xs, rfl, hxs⟩ := okE_Tup hx
          exact stars_ok (okEs_plain hxs)
        | some nm =>
          obtain ⟨ts, k, q, vs, k', q', rfl, rfl, _⟩ := swap_shape hsw
          obtain ⟨xs, rfl, hxs⟩ := okE_Tup hx
          have hh : hot = false := by
            cases t with
            | tup ts' => simp only [okT, Bool.and_eq_true, Bool.not_eq_true'] at ht; exact ht.2
            | _ => simp [okT] at ht
          exact s_asgSw (G.hx hh) (K.K.calm hh) K.K.nd hsw hcv ht fun vs' k2 q2 z => by
            cases z
            exact ⟨sEs P C hot n xs G K.K hxs, (okEs_len hxs).symm, stars_ok (okEs_plain hxs)⟩
    · cases h
  | .exp x, X, EX, st, G, K, h => by
    simp only [okS] at h
    split at h
    · rename_i v pos
      rw [Bool.and_eq_true, Bool.not_eq_true'] at h
      obtain ⟨c1, c2⟩ := okE_noC h.1
      have hp : swapsWith v none pos.line X.env = pure false := by
        cases v with
        | ListComp _ _ _ _ => simp [isLC] at h
        | SetComp a b c d => exact absurd rfl (c1 a b c d)
        | DictComp a b c d f => exact absurd rfl (c2 a b c d f)
        | _ => rfl
      exact s_exp (sE P C hot n x G K.K h.1) h.2 hp
    · cases h
  | .ife t a b, X, EX, st, G, K, h => by
    simp only [okS] at h
    split at h
    · rw [Bool.and_eq_true, Bool.and_eq_true] at h
      exact s_ifs (sB P C hot n t G K.K h.1.1) (sSs a G K h.1.2) (sSs b G K h.2)
    · cases h
  | .for t it body, X, EX, st, G, K, h => by
    simp only [okS] at h
    split at h
    · simp only [Bool.and_eq_true, Bool.not_eq_true'] at h
      obtain ⟨⟨⟨h1, h2⟩, h3⟩, h4⟩ := h
      exact s_for (K.K.calm h4) K.po (sI P C hot n it _ G K.K h2) (sT P C hot n t G K.K (fun i hi id hid hc => K.fn id) h1) (sSs body G K h3) (okI_plain h2)
    · cases h
  | .whl t body, X, EX, st, G, K, h => by
    simp only [okS] at h
    split at h
    · rw [Bool.and_eq_true] at h
      exact s_whl K.po (sB P C hot n t G K.K h.1) (sSs body G K h.2)
    · cases h
  | .ret (some x), X, EX, st, G, K, h => by
    simp only [okS] at h
    split at h
    · exact s_ret (sE P C hot n x G K.K h)
    · cases h
  | .ret none, X, EX, st, G, K, h => by
    simp only [okS] at h
    split at h
    · exact s_retN
    · cases h
  | .raise c args, X, EX, st, G, K, h => by
    simp only [okS] at h
    split at h
    · simp only [Bool.and_eq_true, Bool.not_eq_true', List.isEmpty_iff] at h
      obtain ⟨⟨⟨⟨⟨⟨h1, h2⟩, h3⟩, h4⟩, h5⟩, h6⟩, h7⟩ := h
      have e1 := of_decide_eq_true h1
      subst e1
      subst h4
      have ha : args = [] := by
        cases args with
        | nil => rfl
        | cons a as => simp [okEs] at h3
      subst ha
      exact s_raise G.EK G.hP (K.K.calm h5) K.K.tk h2 h6 (of_decide_eq_true h7)
    · cases h
  | .tryRet x k i g, X, EX, st, G, K, h => by
    simp only [okS] at h
    split at h
    · simp only [Bool.and_eq_true, Bool.not_eq_true'] at h
      obtain ⟨⟨⟨⟨⟨⟨⟨⟨⟨⟨⟨⟨⟨⟨h1, h2⟩, h3⟩, h4⟩, h5⟩, h6⟩, h7⟩, h8⟩, h9⟩, h10⟩, h11⟩, h12⟩, h13⟩, h14⟩, h15⟩ := h
      have e2 := of_decide_eq_true h2
      have e7 := of_decide_eq_true h7
      have e8 := of_decide_eq_true h8
      subst e2; subst e7; subst e8
      have hex := G.hx h12
      exact s_try G.O G.EK G.CO G.hP hex K.K.nd K.K.rm K.K.tk K.top.1 K.top.2 (of_decide_eq_true h5) h6 h3 h4 h9 h10 h11 h15 h13 h14
        (fun pn xe W tk => tE_tr hex (sE P C hot n x ⟨G.M, G.O, G.EK, G.CO, G.hP, G.hC, G.hx⟩ ⟨K.K.nd, K.K.calm, K.K.rm, tk⟩ h1))
    · cases h
  | .pass, X, EX, st, G, K, h => by
    simp only [okS] at h
    split at h
    · exact s_pass
    · cases h
theorem sSs : ∀ (xs : List S) {X : L2.Cx} {EX : XK} {sts : List Stmt}, Gd P C X n hot → XSt hot n X EX → okSs P X.N hot xs X.env.scope sts = true → PSs X sts (tSs C X EX xs)
  | [], X, EX, sts, G, K, h => by
    simp only [okSs, List.isEmpty_iff] at h
    subst h
    exact s_pnil
  | x :: xs, X, EX, [], G, K, h => by simp [okSs] at h
  | x :: xs, X, EX, st :: sts, G, K, h => by
    simp only [okSs, Bool.and_eq_true] at h
    exact s_pcons (sS x G K h.1) (sSs xs G K h.2)
end
end
end Ev
end
section
set_option Elab.async false
set_option linter.all false
set_option maxRecDepth 100000
set_option maxHeartbeats 4000000
/-! Snd16: defs keep their promises; the law's own call. -/
namespace Ev
open PySem PySem.Spec PyProof.Rows
open L2 (V Hp HO upd upd_same upd_ne SqT SqL Rd Key RelV Vals VK WX TE TT TA PE PT PA XK Inv EP TP AP Gl thn FpOk PIE PI TI PG PS PSs TS Ends)
theorem RoomE.deeper {k : Nat} {A : Around} (r : RoomE (k + 1) A) (env : Env) : RoomE k (A.deeper env) :=
  ⟨by have := r.dp; show A.depth + 1 + 4 * k + 10 < _; omega, by have := r.un; show A.units + 3 + 20 * k + 400 < _; omega, r.gd⟩
/-- all that stands, ahead of any def's run -/
structure Wd (P : Prog) (prog : Program) (w : World) (K : PySem.W.Frag) (mg : Str → Option Value) : Prop where
  M : WOk P K mg w
  O : DOk K mg P
  EK : EOk K mg P
section
variable {P : Prog} {prog : Program} {w : World} {K : PySem.W.Frag} {mg : Str → Option Value} {base : Heap} {n : Nat} {C : Cx}
theorem slr_start {ρ : List Addr} {H : Hp} {N : List Str} {ds : List D} {vs : List V} {f : Fn} (r : RpL K mg ρ H ds vs) (hn : N.length = f.ns) (hl : ds.length = f.np) : SLr K mg ρ H (ds.map some ++ List.replicate (f.ns - f.np) none) (L2.start N vs) := by
  have hv := r.length
  unfold L2.start
  refine ⟨by simp [← hv, hn, hl], fun i d e => ?_⟩
  by_cases hi : i < ds.length
  · rw [List.getElem?_append_left (by simpa using hi), List.getElem?_map] at e
    cases q : ds[i]? with
    | none => rw [q] at e; cases e
    | some d' =>
      rw [q] at e
      cases e
      obtain ⟨v, e1, rv⟩ := r.get q
      refine ⟨v, ?_, rv⟩
      rw [List.getElem?_append_left (by simpa using (hv ▸ hi)), List.getElem?_map, e1]
      rfl
  · rw [List.getElem?_append_right (by simpa using hi), List.getElem?_replicate] at e
    split at e <;> cases e
theorem fnE_own (WD : Wd P prog w K mg) (CO : CallOk P C prog w K mg base n) (hP : C.P = P) (hex : C.ex = none) {k x : Str} {f : Fn} {a : Addr} {fd : FuncData} {ps : List Str} (OW : Own K mg P false k x f a fd ps) : FnE prog w K mg base (n + 1) a fd ps (run C f) := by
  obtain ⟨name, qual, params, body, scope, dV, kV, doc, pm, cdv, ct, oc, an, od, osl, N, rfl, lk, hcd, S, hNl, hok⟩ := OW.tx
  refine ⟨fun A outer s H args us vs Q E ρ h ds hr hd e0 hb hl rv hs rp fe => ?_⟩
  have hl2 : vs.length = ps.length := by rw [rv.length]; exact hl
  have hl3 : ds.length = f.np := by rw [rp.length, hl2]; exact OW.np
  have inK : K.In s.heap := e0.mod.kin.keeps fun b o z => (e0.bs b o z).1
  have noLim : s.heap.NoLimit := e0.mod.nolimit.keeps fun b o z => (e0.bs b o z).1
  have kinds : ∀ y ∈ ps.zip us, scope.names.lookup y.1 = some .local ∨ (scope.names.lookup y.1 = some .cell ∧ ((cellsFrom (s.heap.objs.size + 1) scope.names []).lookup y.1).isSome = true) := by
    rintro ⟨nm, u⟩ hy
    rcases S.par nm (List.of_mem_zip hy).1 with z | z
    · exact .inl z
    · exact .inr ⟨z, PySem.W.cellsFrom_some _ _ _ (.inl z)⟩
  have depth : A.depth < recursionLimit := by have := hr.dp; omega
  refine codeAny_call_function depth (inK _ _ lk) rfl S.co S.gen rfl (PySem.W.codeRec_of inK hcd) (hb _ _ _ _ ?_)
  refine wpAny_newFunctionEnv_cells S.kind kinds fun env henv s1 ic => ?_
  subst henv
  refine ⟨noLim.keeps ic.toInCall.keep, codeAny_func ?_⟩
  have I : Inv (L2.cxOf (L2.CX prog w) prog w K mg base N qual scope a cdv A outer s H E) [] (L2.start N vs) H s1 := L2.inv_start S hd e0 hl2 rv ic
  have G : Gd P C (L2.cxOf (L2.CX prog w) prog w K mg base N qual scope a cdv A outer s H E) n false := ⟨WD.M, WD.O, WD.EK, CO, hP, (fun c fs z => by rw [hex] at z; cases z), fun _ => hex⟩
  have tk : L2.Takes (L2.cxOf (L2.CX prog w) prog w K mg base N qual scope a cdv A outer s H E) (WK E) := L2.takes_of rfl rfl rfl rfl
  have K' : XSt false n (L2.cxOf (L2.CX prog w) prog w K mg base N qual scope a cdv A outer s H E) E := ⟨⟨S.nd, fun _ => rfl, hr.deeper _, tk⟩, fun _ => rfl, L2.passes_of rfl, ⟨rfl, rfl⟩⟩
  have B := sSs P C false n f.body (X := L2.cxOf (L2.CX prog w) prog w K mg base N qual scope a cdv A outer s H E) (EX := E) G K' hok
  have fin : ∀ {σ' : L2.St} {H' : Hp} {v : V} {u : Value} {s' : Shared}, Inv (L2.cxOf (L2.CX prog w) prog w K mg base N qual scope a cdv A outer s H E) [] σ' H' s' → RelV v u → Q v H' → L2.CE outer prog w H s Q u s' :=
    fun J rv' q => ⟨_, _, J.os, J.bare, J.base, J.hok, rv', q⟩
  refine wpAny_mono (B.run [] s1 (L2.start N vs) H { nx := fun _ H' => Q .non H', rt := Q } I ⟨ρ, h, _, ⟨hs, slr_start rp hNl hl3, fun c fs z => by rw [hex] at z; cases z⟩, ?_⟩) (fun fl s' hq => ?_) fun _ _ z => z
  · unfold run at fe
    rw [if_pos hl3] at fe
    cases hr2 : evSs C f.body (ds.map some ++ List.replicate (f.ns - f.np) none) h with
    | bad => rw [hr2] at fe; exact fe
    | nx σ2 h2 => rw [hr2] at fe; exact fun ρ2 σ2' H2 e2 rl2 => fe ρ2 .non H2 e2 rl2.hs .non
    | ret d h2 => rw [hr2] at fe; exact fun ρ2 v H2 e2 hs2 q => fe ρ2 v H2 e2 hs2 q
    | exc c fs h2 => rw [hr2] at fe; exact fun ρ2 cls dict H2 e2 hs2 q => fe ρ2 cls dict H2 e2 hs2 q
  · cases fl with
    | ret u =>
      obtain ⟨v, σ', H', J, rv', q⟩ := hq
      exact fin J rv' q
    | next =>
      obtain ⟨σ', H', J, q⟩ := hq
      exact fin (v := V.non) (u := Value.none) J rfl q
    | brk => exact False.elim (let ⟨_, _, _, q⟩ := hq; q)
    | cont => exact False.elim (let ⟨_, _, _, q⟩ := hq; q)
theorem fnEH_own (WD : Wd P prog w K mg) (hCO : ∀ c fs, CallOk P { C with ex := some (c, fs) } prog w K mg base n) (hP : C.P = P) {x : Str} {f : Fn} {a : Addr} {fd : FuncData} {ps : List Str} (OW : Own K mg P true "" x f a fd ps) : FnEH prog w K mg base (n + 1) a fd ps (runE C f) := by
  obtain ⟨name, qual, params, body, scope, dV, kV, doc, pm, cdv, ct, oc, an, od, osl, N, rfl, lk, hcd, S, hNl, hok⟩ := OW.tx
  refine ⟨fun A outer s H args Q ρ h c fs ax oe cls d d' h' hr e0 hpin hz hf hrep hb hl hs hrun hQ => ?_⟩
  unfold runE at hrun
  split at hrun
  · rename_i hnp
    rw [hP] at hnp
    have inK : K.In s.heap := e0.mod.kin.keeps fun b o z => (e0.bs b o z).1
    have noLim : s.heap.NoLimit := e0.mod.nolimit.keeps fun b o z => (e0.bs b o z).1
    have kinds : ∀ y ∈ ps.zip [Value.ref ax], scope.names.lookup y.1 = some .local ∨ (scope.names.lookup y.1 = some .cell ∧ ((cellsFrom (s.heap.objs.size + 1) scope.names []).lookup y.1).isSome = true) := by
      rintro ⟨nm, u⟩ hy
      rcases S.par nm (List.of_mem_zip hy).1 with z | z
      · exact .inl z
      · exact .inr ⟨z, PySem.W.cellsFrom_some _ _ _ (.inl z)⟩
    have depth : A.depth < recursionLimit := by have := hr.dp; omega
    obtain ⟨CC, rfl, mC, hd⟩ := id hrep
    refine codeAny_call_function depth (inK _ _ lk) rfl S.co S.gen rfl (PySem.W.codeRec_of inK hcd) (hb _ _ _ _ ?_)
    refine wpAny_newFunctionEnv_cells S.kind kinds fun env henv s1 ic => ?_
    subst henv
    refine ⟨noLim.keeps ic.toInCall.keep, codeAny_func ?_⟩
    have I : Inv (L2H.cxH (L2.CX prog w) prog w K mg base N qual scope a cdv A outer s H (fun _ _ _ => False) (ax, oe)) [] (L2.start N [.ref ax]) H s1 := L2H.inv_startH S hpin e0 hl.symm (.cons rfl .nil) ic
    have G : Gd P { C with ex := some (c, fs) } (L2H.cxH (L2.CX prog w) prog w K mg base N qual scope a cdv A outer s H (fun _ _ _ => False) (ax, oe)) n true :=
      ⟨WD.M, WD.O, WD.EK, hCO c fs, hP, (fun c' fs' z => by cases z; exact hnp.2), (fun z => by cases z)⟩
    have K' : XSt true n (L2H.cxH (L2.CX prog w) prog w K mg base N qual scope a cdv A outer s H (fun _ _ _ => False) (ax, oe)) (fun _ _ _ => False) := ⟨⟨S.nd, (fun z => by cases z), hr.deeper _, L2.takes0⟩, fun _ => rfl, L2.passes_of rfl, ⟨rfl, rfl⟩⟩
    have B := sSs P { C with ex := some (c, fs) } true n f.body (X := L2H.cxH (L2.CX prog w) prog w K mg base N qual scope a cdv A outer s H (fun _ _ _ => False) (ax, oe)) (EX := fun _ _ _ => False) G K' hok
    have fin : ∀ {σ' : L2.St} {H' : Hp} {v : V} {u : Value} {s' : Shared}, Inv (L2H.cxH (L2.CX prog w) prog w K mg base N qual scope a cdv A outer s H (fun _ _ _ => False) (ax, oe)) [] σ' H' s' → RelV v u → Q v H' → L2.CE outer prog w H s Q u s' :=
      fun J rv' q => ⟨_, _, J.os, J.bare, J.base, J.hok, rv', q⟩
    refine wpAny_mono (B.run [] s1 (L2.start N [.ref ax]) H { nx := fun _ H' => Q .non H', rt := Q } I ⟨ρ, h, List.replicate f.ns none, ⟨hs, ⟨?_, fun i d e => ?_⟩, fun c' fs' z => ?_⟩, ?_⟩) (fun fl s' hq => ?_) fun _ _ z => z
    · unfold L2.start
      have : 1 ≤ N.length := by
        have := congrArg List.length S.pre
        rw [List.length_take] at this
        omega
      simp [← hNl]
      omega
    · rw [List.getElem?_replicate] at e
      split at e <;> cases e
    · cases z
      refine ⟨ax, oe, CC, d, rfl, List.mem_cons_self, mC, hz, hf, hd⟩
    · cases hr2 : evSs { C with ex := some (c, fs) } f.body (List.replicate f.ns none) h with
      | bad => rw [hr2] at hrun; cases hrun
      | nx σ2 h2 =>
        rw [hr2] at hrun
        cases hrun
        exact fun ρ2 σ2' H2 e2 rl2 => hQ ρ2 .non H2 e2 rl2.hs .non
      | ret d h2 =>
        rw [hr2] at hrun
        cases hrun
        exact fun ρ2 v H2 e2 hs2 q => hQ ρ2 v H2 e2 hs2 q
      | exc c fs h2 => rw [hr2] at hrun; cases hrun
    · cases fl with
      | ret u =>
        obtain ⟨v, σ', H', J, rv', q⟩ := hq
        exact fin J rv' q
      | next =>
        obtain ⟨σ', H', J, q⟩ := hq
        exact fin (v := V.non) (u := Value.none) J rfl q
      | brk => exact False.elim (let ⟨_, _, _, q⟩ := hq; q)
      | cont => exact False.elim (let ⟨_, _, _, q⟩ := hq; q)
  · cases hrun
theorem call_ex {x : Option (Str × List (Str × D))} (c : CallOk P C prog w K mg base n) : CallOk P { C with ex := x } prog w K mg base n := ⟨c.call, c.callE, c.len⟩
/-- the calls of the evaluator, n deep -/
theorem callOk (WD : Wd P prog w K mg) (fuel : Nat) : ∀ n : Nat, CallOk P (cxN P fuel n) prog w K mg base n
  | 0 => ⟨fun k x f a fd ps _ _ _ => ⟨fun _ _ _ _ _ _ _ _ _ _ _ _ _ _ _ _ _ _ _ _ z => False.elim z⟩, fun x f a fd ps _ _ _ => ⟨fun _ _ _ _ _ _ _ _ _ _ _ _ _ _ _ _ _ _ _ _ _ _ _ _ _ z => by cases z⟩, fun _ _ _ _ _ _ _ => rfl⟩
  | n + 1 => by
    have ih := callOk WD fuel n
    have eP : (cxN P fuel n).P = P := by cases n <;> rfl
    have ex0 : (cxN P fuel n).ex = none := by cases n <;> rfl
    refine ⟨fun k x f a fd ps ef hh OW => ?_, fun x f a fd ps ef hh OW => ?_, fun k x f ds h ef hz => ?_⟩
    · have : (cxN P fuel (n + 1)).call k x = run (cxN P fuel n) f := by
        funext ds h
        show (match P.fn k x with | some f => run (cxN P fuel n) f ds h | none => .bad) = _
        rw [ef]
      rw [this]
      exact fnE_own WD ih eP ex0 OW
    · have : (cxN P fuel (n + 1)).callE x = runE (cxN P fuel n) f := by
        funext c fs h
        show (match P.fn "" x with | some f => runE (cxN P fuel n) f c fs h | none => .bad) = _
        rw [ef]
      rw [this]
      exact fnEH_own WD (fun c fs => call_ex ih) eP OW
    · show (match P.fn k x with | some f => run (cxN P fuel n) f ds h | none => .bad) = _
      rw [ef]
      show run (cxN P fuel n) f ds h = .bad
      unfold run
      rw [if_neg hz]
end
end Ev
end
section
set_option Elab.async false
set_option linter.all false
set_option maxRecDepth 100000
set_option maxHeartbeats 4000000
/-! Snd17: from a def's promise to the law. -/
namespace Ev
open PySem PySem.Spec PyProof.Rows
open L2 (V Hp HO upd upd_same upd_ne SqT SqL Rd Key RelV Vals VK WX TE TT TA PE PT PA XK Inv EP TP AP Gl thn FpOk PIE PI TI PG PS PSs TS Ends)
/-- the script as the law is handed it -/
def scr (ns : List Int) : D := .fl (ns.map .int)
theorem law_callE {prog : Program} {w : World} {K : PySem.W.Frag} {mg mb : Str → Option Value} {k : Nat} {fa a : Addr} {fd : FuncData} {x : Str} {sp : List D → Hd → R D} {s₁ : Shared} {vs : List Value} {ns : List Int}
    (KX : K.In s₁.heap) (hns : s₁.heap.Ns mainGlobals mg) (hb : s₁.heap.Ns builtinsNs mb) (hbb : ∀ x : Str, x ≠ "__name__" → mb x = bootBuiltins x) (hlim : s₁.heap.NoLimit) (hg : s₁.gens = #[])
    (ha : s₁.heap.get? a = some { cls := .type "list", data := .seq vs.toArray }) (hi : IntsAre vs ns) (hl : ns.length ≤ sizeLine) (hr : RoomE k callerA)
    (F : ∀ base : Heap, K.In base → base.Ns mainGlobals mg → FnE prog w K mg base k fa fd [x] sp) (hbind : ∀ (s : Shared) (u : Value), BindsTo s fd ⟨[u], []⟩ [(x, u)]) (hsp : ∃ h', sp [scr ns] [] = .ok (.bl true) h') :
    codeAny (model prog w) callerA (.call (.ref fa) ⟨[.ref a], []⟩) (fun r s' => r = .ok (.ret (.bool true)) ∧ OldK s₁.heap s'.heap ∧ s'.os = s₁.os ∧ AllBare s'.gens) s₁ := by
  obtain ⟨h', hsp⟩ := hsp
  have rv := L2.vals_ints hi
  have lenV := hi.length
  -- the abstract heap: the script alone, if it is no object of the module
  obtain ⟨H, hS, hok, hA, hnone, hfz⟩ : ∃ H : Hp, SqF K H a (ns.map V.int) ∧ L2.HOk prog w H s₁.heap ∧ (∀ b, H b ≠ none → b = a ∧ K.lookup a = none) ∧ (∀ b, b ≠ a → H b = none) ∧ ∀ u, H a = some u → ∃ o xs, u = .frz o (.lst xs) := by
    cases hk : K.lookup a with
    | some o =>
      have e := KX a o hk
      rw [ha] at e
      cases e
      refine ⟨fun _ => none, .inr ⟨_, vs.toArray, _, hk, rfl, rfl, rfl, ?_, by simpa using rv⟩, (fun b u z => by cases (show (none : Option HO) = some u from z)), (fun b z => absurd rfl z), (fun _ _ => rfl), (fun u z => by cases (show (none : Option HO) = some u from z))⟩
      rw [List.size_toArray, lenV]
      exact hl
    | none =>
      refine ⟨fun b => if b = a then some (.frz { cls := .type "list", data := .seq vs.toArray } (.lst (ns.map V.int))) else none, .inl ⟨_, if_pos rfl⟩, fun b u z => ?_, fun b z => ?_, fun b hb' => if_neg hb', fun u z => ?_⟩
      · by_cases hba : b = a
        · have z' := (if_pos hba).symm.trans z
          cases z'
          rw [hba]
          exact ⟨ha, by simpa using hl, vs, 0, rv, ha⟩
        · have z' := (if_neg hba).symm.trans z
          cases z'
      · by_cases hba : b = a
        · exact ⟨hba, rfl⟩
        · exact absurd (if_neg hba) z
      · have z' := (if_pos rfl).symm.trans z
        cases z'
        exact ⟨_, _, rfl⟩
  -- the ground: the heap without what is tracked
  have ground : ∀ {b : Addr} {o : Obj}, s₁.heap.get? b = some o → H b = none → (L2.hidT s₁.heap H).get? b = some o := fun e z => L2.hidT_get e z
  have noDict : ∀ {b : Addr} {o : Obj} {es : Array DictEntry} {ep : Nat}, s₁.heap.get? b = some o → o.data = .dict es ep → H b = none := by
    intro b o es ep e dd
    by_cases hba : b = a
    · subst hba
      rw [ha] at e
      cases e
      cases (show Data.seq vs.toArray _ = Data.dict es ep from dd)
    · exact hnone b hba
  have nsG : ∀ {b : Addr} {m : Str → Option Value}, s₁.heap.Ns b m → (L2.hidT s₁.heap H).Ns b m := fun ⟨o, es, ep, e, dd, rest⟩ => ⟨o, es, ep, ground e (noDict e dd), dd, rest⟩
  have KB : K.In (L2.hidT s₁.heap H) := fun b o e => ground (KX b o e) (by
    cases q : H b with
    | none => rfl
    | some u =>
      obtain ⟨e1, e2⟩ := hA b (by rw [q]; simp)
      rw [e1, e2] at e
      cases e)
  have MB : L2.Mod K mg (L2.hidT s₁.heap H) := ⟨KB, nsG hns, ⟨mb, nsG hb, hbb⟩, let ⟨mc, z1, z2⟩ := hlim; ⟨mc, nsG z1, z2⟩⟩
  have E0 : L2.Env0 prog w K mg (L2.hidT s₁.heap H) callerA [] s₁ H := ⟨rfl, MB, fun b o e => L2.of_hidT e, Nat.le_of_eq (L2.hidT_size _ _), trivial, fun b z => absurd (show b ∈ ([] : List Addr) from z) (by simp), hok, .of_eq hg⟩
  have rns : RpL K mg [] H (ns.map .int) (ns.map V.int) := by
    have : ∀ l : List Int, RpL K mg [] H (l.map .int) (l.map V.int) := by
      intro l
      induction l with
      | nil => exact .nil
      | cons i l ih => exact .cons (.int i) ih
    exact this ns
  have R := (F _ KB (nsG hns)).run callerA [] s₁ H ⟨[.ref a], []⟩ [.ref a] [.ref a] (fun v _ => v = .bl true) (fun _ _ _ => False) [] [] [scr ns] hr rfl E0 (hbind s₁ (.ref a)) rfl (.cons rfl .nil)
    ⟨rfl, List.nodup_nil, fun c y b z => by simp at z⟩ (.cons (.fl hS rns) .nil) (by
      rw [hsp]
      intro ρ' b H' _ _ q
      cases q
      rfl)
  refine codeAny_mono R fun r s' hq => ?_
  cases r with
  | error e =>
    obtain ⟨_, _, _, _, _, _, _, _, _, _, _, _, z⟩ := hq
    exact z.elim
  | ok fl =>
    cases fl with
    | next => exact False.elim hq
    | brk => exact False.elim hq
    | cont => exact False.elim hq
    | ret u =>
      obtain ⟨v, H', os, bare, un, hok', r', q⟩ := hq
      have q' : v = .bl true := q
      subst q'
      obtain rfl : u = Value.bool true := r'
      refine ⟨rfl, OldK.of_keep fun b o e => ?_, os, bare⟩
      cases q : H b with
      | none => exact un.keep b o e q (fun z => absurd (show b ∈ ([] : List Addr) from z) (by simp)) (by simp)
      | some u =>
        have hba := (hA b (by rw [q]; simp)).1
        subst hba
        obtain ⟨ob, xs, rfl⟩ := hfz u q
        obtain ⟨e1, _⟩ := hok b _ q
        obtain ⟨e2, _⟩ := hok' b _ (un.frzs b ob _ q)
        rw [e] at e1
        cases e1
        exact e2
theorem walkE {l : PySem.W.OpenLaw} {n k : Nat} {q : Program} {loose : List Str} {XP : (Str → Option Value) → Heap → Prop} {YP : World → Heap → Prop} {d : DefRec} {x : Str}
    (hn : l.most = some n) (hn2 : n ≤ sizeLine) (hdf : d.params.defaults = []) (hr : RoomE k callerA)
    (F : ∀ (w : World) (mg : Str → Option Value) (fa : Addr) (h : Heap), YP w h → h.Ns mainGlobals mg → mg d.name = some (.ref fa) →
      ∃ (K : PySem.W.Frag) (fd : FuncData) (sp : List D → Hd → R D), K.In h ∧ (∀ (s : Shared) (u : Value), BindsTo s fd ⟨[u], []⟩ [(x, u)]) ∧ (∀ ns : List Int, ns.length ≤ n → ∃ h', sp [scr ns] [] = .ok (.bl true) h') ∧
        ∀ base : Heap, K.In base → base.Ns mainGlobals mg → FnE l.prog w K mg base k fa fd [x] sp) :
    PySem.W.WalkO q loose XP YP l.row.toRowW d [] (fun f vs => PySem.call f vs) := by
  refine Att.attach_call hn hdf fun w s₀ s₁ mg mb fa o pm cd doc a vs ns G Y ho hd hcd hmg hobj hints hlen hg => ?_
  obtain ⟨K, fd, sp, KX, hb, hsp, hF⟩ := F w mg fa _ Y G.T.g hmg
  exact law_callE KX G.T.g G.T.b G.T.builtins G.T.nolimit hg hobj hints (Nat.le_trans hlen hn2) hr hF hb (hsp ns hlen)
end Ev
end
section
set_option Elab.async false
set_option linter.all false
set_option maxRecDepth 100000
set_option maxHeartbeats 4000000
/-! Snd18: a law's data; what the head tells of it. -/
namespace Ev
open PySem PySem.Spec PyProof.Rows
open L2 (V Hp RelV)
/-- one def of the text: its name, its place among the top's statements, its IR, its names, its parameters, is it handed an exception -/
structure Ent where
  name : Str
  ix : Nat
  f : Fn
  N : List Str
  ps : List Str
  hot : Bool
/-- a law's data -/
structure LD where
  prog : Program
  tbl : List Ent
  cons : List (Str × Int)
  exs : List Str
  flat : List Str
  subs : List (Str × Str)
def LD.top (L : LD) (i : Nat) : Stmt := L.prog.main.body.getD i (.Pass ⟨0, 0, 0, 0⟩)
def findEnt (x : Str) : List Ent → Option Ent
  | [] => none
  | e :: r => if e.name = x then some e else findEnt x r
def LD.sub (L : LD) (c k : Str) : Bool := decide (c = k) || decide ((c, k) ∈ L.subs)
def LD.P (L : LD) : Prog where
  fn := fun c x => if c = "" then (findEnt x L.tbl).map (·.f) else none
  con := fun x => (L.cons.lookup x).map .int
  gl := fun x => (L.cons.lookup x).isSome || (findEnt x L.tbl).isSome || decide (x ∈ L.exs)
  hot := fun x => ((findEnt x L.tbl).map (·.hot)).getD false
  mdict := fun _ => none
  cls := fun _ => false
  fld := fun _ _ => false
  exc := fun c => if c ∈ L.exs then (if c ∈ L.flat then some [] else some [""]) else none
  sub := L.sub
theorem findEnt_mem {x : Str} {e : Ent} : ∀ {l : List Ent}, findEnt x l = some e → e ∈ l ∧ e.name = x
  | [], h => by cases h
  | a :: r, h => by
    unfold findEnt at h
    split at h
    · cases h; exact ⟨List.mem_cons_self, by assumption⟩
    · exact ⟨List.mem_cons_of_mem _ (findEnt_mem h).1, (findEnt_mem h).2⟩
/-- what is to be seen of one def's text -/
structure EntOk (L : LD) (e : Ent) : Prop where
  sc : L2.FnScope e.N e.ps (L2.defScope (L.top e.ix))
  nl : e.N.length = e.f.ns
  np : e.ps.length = e.f.np
  h1 : e.hot = true → e.ps.length = 1
  ok : okSs L.P e.N e.hot e.f.body (L2.defScope (L.top e.ix)) (L2.defBody (L.top e.ix)) = true
  bd : ∀ (kV dc pm : Value) (an : Option Addr) (cd ct : Value) (us : List Value), us.length = e.ps.length → bindArgs (PySem.W.fnOf e.name e.name (L2.defArgs (L.top e.ix)) (L2.defBody (L.top e.ix)) (L2.defScope (L.top e.ix)) .none kV dc pm an cd ct) ⟨us, []⟩ = pure (e.ps.zip us)
def Ent.fnD (L : LD) (e : Ent) : He.FnD := ⟨(e.name, none), e.name, e.name, L2.defArgs (L.top e.ix), L2.defBody (L.top e.ix), L2.defScope (L.top e.ix)⟩
/-- the names of built-ins that are used -/
def bltns : List Str := ["len", "min", "max", "sum", "any", "all", "list", "tuple", "int", "str", "isinstance", "repr", "bool", "ValueError", "LookupError", "TypeError", "ArithmeticError", "RuntimeError", "range", "enumerate", "zip", "reversed"]
def eqV (a b : Option (Option Value)) : Bool := decide (a = b)
def ecB (K : PySem.W.Frag) (D : Addr) : Bool :=
  eqV (PySem.W.findIn K (.ref D) "__getattribute__") (some (some (.builtin "BaseException.__getattribute__"))) && (eqV (PySem.W.findIn K (.ref D) "__getattr__") (some none) && (decide (PySem.W.subIn K (.ref D) (.type "BaseException") = some true) && (PySem.W.hasDictIn K D &&
    (eqV (PySem.W.findIn K (.ref D) "__class__") (some (some (.builtin "object.__class__"))) && (eqV (PySem.W.specialIn K (.builtin "object.__class__") "__get__") (some (some (.builtin "getset_descriptor.__get__"))) && (decide (PySem.W.takesIn K (.builtin "object.__class__") = some true) && decide (PySem.W.mroIn K D (.type "object") = some true)))))))
theorem ecB_ok {K : PySem.W.Frag} {D : Addr} (h : ecB K D = true) : L2.ExcC K D := by
  unfold ecB eqV at h
  simp only [Bool.and_eq_true, decide_eq_true_eq] at h
  obtain ⟨h1, h2, h3, h4, h5, h6, h7, h8⟩ := h
  exact ⟨h1, h2, h3, h4, h5, h6, h7, h8⟩
/-- built-in classes that an exception is asked about -/
def bex : List (String × Bool) := [("ValueError", true), ("LookupError", false), ("TypeError", false), ("ArithmeticError", false), ("RuntimeError", false)]
/-- one class of errors -/
def exB (L : LD) (K : PySem.W.Frag) (c : Str) : Bool :=
  (He.Fa.glo c).ok K && (ecB K (He.ga K c) && ((L.exs.all fun k => decide (PySem.W.exmOne K (.ref (He.ga K c)) (.ref (He.ga K k)) = some (L.sub c k)) && decide (PySem.W.kitOne K (.ref (He.ga K c)) (.ref (He.ga K k)) = some (L.sub c k))) &&
    ((bex.all fun p => decide (PySem.W.kitOne K (.ref (He.ga K c)) (.type p.1) = some p.2)) && ((He.Fa.exc c).ok K || !decide (c ∈ L.flat)))))
def entB (L : LD) (K : PySem.W.Frag) (e : Ent) : Bool := (He.Fa.glo e.name).ok K && ((He.Fa.keep e.name).ok K && (He.Fa.code (e.name, none) e.name).ok K)
def LD.chk (L : LD) (K : PySem.W.Frag) : Bool :=
  (bltns.all fun x => (He.Fa.free x).ok K) && ((L.cons.all fun p => (He.Fa.int p.1 p.2).ok K) && ((L.exs.all fun c => exB L K c) && (L.tbl.all fun e => entB L K e)))
abbrev HAl : Type := Bool × List He.FnV
def hobs (L : LD) (K : PySem.W.Frag) : HAl := (L.chk K, L.tbl.map fun e => He.fnObs K (e.name, none))
def hval (L : LD) : HAl := (true, L.tbl.map fun e => (e.fnD L).val)
def hobsG (L : LD) (n : Nat) (g : Addr → Option Obj) : HAl := hobs L (He.frG g (He.asG g n))
/-- what the head looks at -/
def LD.hook (L : LD) (n : Nat) : PySem.W.Hook where
  α := HAl
  obs := fun s => hobsG L n s.heap.get?
  val := fun _ => hval L
  says := fun _ h => ∃ K : PySem.W.Frag, K.In h ∧ hobs L K = hval L
  of := fun _ _ e => ⟨_, He.frG_in, e⟩
  keeps := fun _ _ _ ⟨K, hK, c⟩ k => ⟨K, PySem.W.Frag.In.keeps hK k, c⟩
def LD.ob (L : LD) (n : Nat) (s : PySem.W.SharedT) : HAl := hobsG L n (HandSHeadRun.getT s)
theorem ob_eq (L : LD) (n : Nat) (s : PySem.W.SharedT) : L.ob n s = (L.hook n).obs s.abs := by
  have e : HandSHeadRun.getT s = s.abs.heap.get? := funext (HandSHeadRun.getT_eq s)
  show hobsG L n (HandSHeadRun.getT s) = hobsG L n s.abs.heap.get?
  rw [e]
section
variable {L : LD} {K : PySem.W.Frag} {mg : Str → Option Value} {h : Heap} {w : World}
theorem own_of (X : K.In h) (G : h.Ns mainGlobals mg) (c : hobs L K = hval L) {e : Ent} (he : e ∈ L.tbl) (T : EntOk L e) : ∃ fd, Own K mg L.P e.hot "" e.name e.f (He.ga K e.name) fd e.ps ∧ ∀ (s : Shared) (us : List Value), us.length = e.ps.length → BindsTo s fd ⟨us, []⟩ (e.ps.zip us) := by
  have c1 : L.chk K = true := congrArg (fun z : HAl => z.1) c
  unfold LD.chk at c1
  simp only [Bool.and_eq_true] at c1
  have ce := List.all_eq_true.mp c1.2.2.2 e he
  unfold entB at ce
  simp only [Bool.and_eq_true] at ce
  have e2 : (L.tbl.map fun e => He.fnObs K (e.name, none)) = L.tbl.map fun e => (e.fnD L).val := congrArg (fun z : HAl => z.2) c
  have e3 : He.fnObs K (e.name, none) = (e.fnD L).val := List.map_inj_left.mp e2 e he
  obtain ⟨oc, od, osl, kV, dc, pm, an, cdv, ct, lk, hcd⟩ := He.fn_ok (d := e.fnD L) e3 ce.2.2
  refine ⟨PySem.W.fnOf e.name e.name (L2.defArgs (L.top e.ix)) (L2.defBody (L.top e.ix)) (L2.defScope (L.top e.ix)) .none kV dc pm an cdv ct, ⟨fun _ => He.glo_ok X G ce.1, ce.2.1, .all (T.bd kV dc pm an cdv ct), T.np, T.h1, ?_⟩, fun s us hl => .of_eq (T.bd kV dc pm an cdv ct us hl)⟩
  exact ⟨e.name, e.name, _, _, _, .none, kV, dc, pm, cdv, ct, oc, an, od, osl, e.N, rfl, lk, hcd, T.sc, T.nl, T.ok⟩
theorem wd_of (X : K.In h) (G : h.Ns mainGlobals mg) (c : hobs L K = hval L) (T : ∀ e ∈ L.tbl, EntOk L e) : Wd L.P L.prog w K mg := by
  have c1 : L.chk K = true := congrArg (fun z : HAl => z.1) c
  unfold LD.chk at c1
  simp only [Bool.and_eq_true] at c1
  obtain ⟨cb, cc, cx, ct⟩ := c1
  have free : ∀ x ∈ bltns, mg x = none := fun x hx => He.free_ok X G (List.all_eq_true.mp cb x hx)
  have exf : ∀ c, c ∈ L.exs → exB L K c = true := fun c hc => List.all_eq_true.mp cx c hc
  have exP : ∀ c, (L.P.exc c).isSome = true → c ∈ L.exs := fun c hc => by
    by_cases hm : c ∈ L.exs
    · exact hm
    · have : L.P.exc c = none := if_neg hm
      rw [this] at hc; cases hc
  have exg : ∀ c, c ∈ L.exs → mg c = some (.ref (He.ga K c)) := fun c hc => by
    have := exf c hc
    unfold exB at this
    simp only [Bool.and_eq_true] at this
    exact He.glo_ok X G this.1
  have exA : ∀ c C, c ∈ L.exs → mg c = some (.ref C) → C = He.ga K c := fun c C hc hm => by
    have := (exg c hc).symm.trans hm
    cases this
    rfl
  refine ⟨⟨⟨fun m kvs hm => by cases hm⟩, ⟨fun k m C hf => by cases hf⟩, fun x d hd => ?_, fun x hx hcon => ?_, fun b hb => ?_, fun n hn => ?_, ⟨free _ (by decide +kernel), free _ (by decide +kernel), free _ (by decide +kernel), free _ (by decide +kernel)⟩⟩, ⟨fun x f hf => ?_⟩, ?_⟩
  · -- con
    have hd' : (L.cons.lookup x).map D.int = some d := hd
    rw [Option.map_eq_some_iff] at hd'
    obtain ⟨i, hi, rfl⟩ := hd'
    have hm := PySem.mem_of_lookup hi
    obtain ⟨t, ht⟩ := He.int_ok X G (List.all_eq_true.mp cc (x, i) hm)
    exact ⟨_, .int i, ht, ⟨t, rfl⟩, fun _ _ => .int i⟩
  · -- gl
    have hc : L.cons.lookup x = none := by
      have : (L.cons.lookup x).map D.int = none := hcon
      simpa using this
    have hx' : ((L.cons.lookup x).isSome || (findEnt x L.tbl).isSome || decide (x ∈ L.exs)) = true := hx
    rw [hc] at hx'
    simp only [Option.isSome_none, Bool.false_or, Bool.or_eq_true, decide_eq_true_eq] at hx'
    rcases hx' with hx' | hx'
    · obtain ⟨e, he⟩ := Option.isSome_iff_exists.mp hx'
      obtain ⟨m1, m2⟩ := findEnt_mem he
      have ce := List.all_eq_true.mp ct e m1
      unfold entB at ce
      simp only [Bool.and_eq_true] at ce
      rw [← m2]
      exact ⟨_, He.glo_ok X G ce.1⟩
    · exact ⟨_, exg x hx'⟩
  · refine free _ ?_
    cases b <;> first | (exact absurd hb (by decide)) | decide +kernel
  · refine free _ ?_
    unfold tyOk at hn
    simp only [List.contains_iff_mem, List.mem_cons, List.not_mem_nil, or_false] at hn
    rcases hn with rfl | rfl | rfl | rfl | rfl | rfl | rfl | rfl | rfl | rfl <;> decide +kernel
  · -- own
    have hf' : (findEnt x L.tbl).map (·.f) = some f := hf
    rw [Option.map_eq_some_iff] at hf'
    obtain ⟨e, he, rfl⟩ := hf'
    obtain ⟨m1, m2⟩ := findEnt_mem he
    obtain ⟨fd, OW, _⟩ := own_of X G c m1 (T e m1)
    have hh : L.P.hot x = e.hot := by
      show ((findEnt x L.tbl).map (·.hot)).getD false = _
      rw [he]
      rfl
    rw [hh, ← m2]
    exact ⟨_, fd, _, OW⟩
  · -- exceptions
    have parts : ∀ c, c ∈ L.exs → ecB K (He.ga K c) = true ∧ (∀ k ∈ L.exs, PySem.W.exmOne K (.ref (He.ga K c)) (.ref (He.ga K k)) = some (L.sub c k) ∧ PySem.W.kitOne K (.ref (He.ga K c)) (.ref (He.ga K k)) = some (L.sub c k)) ∧ (∀ p ∈ bex, PySem.W.kitOne K (.ref (He.ga K c)) (.type p.1) = some p.2) ∧ (c ∈ L.flat → (He.Fa.exc c).ok K = true) := fun c hc => by
      have := exf c hc
      unfold exB at this
      simp only [Bool.and_eq_true, List.all_eq_true, decide_eq_true_eq, Bool.or_eq_true, Bool.not_eq_true', decide_eq_false_iff_not] at this
      obtain ⟨_, a1, a2, a3, a4⟩ := this
      exact ⟨a1, a2, a3, fun hf => a4.resolve_right (fun z => z hf)⟩
    refine ⟨fun c hc => ?_, fun c ps hc => ?_, fun c k C D hc hk mC mD => ?_, fun c C hc mC => ?_, fun c k C D b hc mC mD e => ?_, fun c n C b hc mC e => ?_⟩
    · have hm := exP c (by rw [hc]; rfl)
      have hfl : c ∈ L.flat := by
        have hc' : (if c ∈ L.exs then (if c ∈ L.flat then some [] else some [""]) else none : Option (List Str)) = some [] := hc
        rw [if_pos hm] at hc'
        by_cases z : c ∈ L.flat
        · exact z
        · rw [if_neg z] at hc'; cases hc'
      obtain ⟨h1, h2, h3, h4⟩ := He.exc_ok ((parts c hm).2.2.2 hfl)
      exact ⟨_, exg c hm, h1, h2, h3, h4⟩
    · exact ⟨_, exg c (exP c (by rw [hc]; rfl))⟩
    · have h1 := exP c hc
      have h2 := exP k hk
      rw [exA c C h1 mC, exA k D h2 mD]
      exact ((parts c h1).2.1 k h2).1
    · have h1 := exP c hc
      rw [exA c C h1 mC]
      exact ecB_ok (parts c h1).1
    · have h1 := exP c hc
      simp only [isExc1] at e
      split at e
      · rename_i hk
        have h2 := exP k hk
        cases e
        rw [exA c C h1 mC, exA k D h2 mD]
        exact ((parts c h1).2.1 k h2).2
      · cases e
    · have h1 := exP c hc
      rw [exA c C h1 mC]
      simp only [isExc1] at e
      split at e
      · rename_i hn
        cases e
        subst hn
        exact (parts c h1).2.2.1 ("ValueError", true) (by simp [bex])
      · split at e
        · rename_i hn
          cases e
          rcases hn with rfl | rfl | rfl | rfl
          · exact (parts c h1).2.2.1 ("LookupError", false) (by simp [bex])
          · exact (parts c h1).2.2.1 ("TypeError", false) (by simp [bex])
          · exact (parts c h1).2.2.1 ("ArithmeticError", false) (by simp [bex])
          · exact (parts c h1).2.2.1 ("RuntimeError", false) (by simp [bex])
        · cases e
end
end Ev
end
section
set_option Elab.async false
set_option linter.all false
set_option maxRecDepth 100000
set_option maxHeartbeats 0
/-! the law's data (printed by gen_ir.py) -/
namespace Ev.K32
open PySem PySem.Spec PyProof.Rows Ev
def f_put_in : Fn := ⟨2, 2, [(.ret (some (.bi .min2 [(.ix (.v 0) (.c (.int 2))), (.bin .Add (.v 1) (.ix (.v 0) (.c (.int 0))))])))]⟩
def f_walked : Fn := ⟨2, 6, [(.asg (.nm 2) (.ix (.v 0) (.c (.int 3)))),
  (.asg (.nm 3) (.lst [])),
  (.for (.tup [(.nm 4), (.nm 5)]) (.enm (.v 1)) [(.ife (.cmp (.v 5) [.Eq] [(.c (.str "a"))]) [(.asg (.nm 2) (.call "put_in" [(.v 0), (.v 2)]))] [(.ife (.cmp (.v 2) [.GtE] [(.ix (.v 0) (.c (.int 1)))]) [(.asg (.nm 2) (.bin .Sub (.v 2) (.ix (.v 0) (.c (.int 1)))))] [(.exp (.bm .append (.v 3) [(.v 4)]))])])]),
  (.ret (some (.tup [(.v 2), (.v 3)])))]⟩
def f_check_row : Fn := ⟨1, 2, [(.ife (.bool .Or [(.nt (.val (.bi .isinst [(.v 0), (.c (.ty "str"))]))), (.cmp (.bi .len [(.v 0)]) [.Gt] [(.gl "MOST_DEEDS")]), (.cmp (.lc (.v 1) (.nm 1) (.val (.v 0)) (some (.cmp (.v 1) [.NotIn] [(.c (.str "ak"))])) [1]) [.NotEq] [(.lst [])])]) [(.raise "NoStep" [])] [])]⟩
def f_coins_behind : Fn := ⟨2, 2, [(.exp (.call "check_row" [(.v 1)])),
  (.ret (some (.ix (.call "walked" [(.v 0), (.v 1)]) (.c (.int 0)))))]⟩
def f_paid_in : Fn := ⟨2, 2, [(.exp (.call "check_row" [(.v 1)])),
  (.ret (some (.bin .Sub (.bm .count (.v 1) [(.c (.str "k"))]) (.bi .len [(.ix (.call "walked" [(.v 0), (.v 1)]) (.c (.int 1)))]))))]⟩
def f_unpaid_at : Fn := ⟨2, 2, [(.exp (.call "check_row" [(.v 1)])),
  (.ret (some (.ix (.call "walked" [(.v 0), (.v 1)]) (.c (.int 1)))))]⟩
def f_law_cell_at : Fn := ⟨2, 2, [(.ife (.cmp (.v 1) [.Lt] [(.bi .len [(.v 0)])]) [(.ret (some (.ix (.v 0) (.v 1))))] []),
  (.ret (some (.c (.int 0))))]⟩
def f_law_next : Fn := ⟨1, 1, [(.asg (.nm 0) (.bin .Mod (.bin .Add (.v 0) (.c (.int 7919))) (.c (.int 2147483647)))),
  (.ret (some (.bin .Mod (.bin .Add (.bin .Add (.bin .Mult (.v 0) (.v 0)) (.bin .Mult (.c (.int 48271)) (.v 0))) (.c (.int 12345))) (.c (.int 2147483629)))))]⟩
def f_law_pen_of : Fn := ⟨1, 2, [(.asg (.nm 1) (.bi .max2 [(.v 0), (.bin .Sub (.c (.int 0)) (.v 0))])),
  (.ret (some (.lst [(.v 1), (.bi .int [(.cmp (.v 1) [.GtE] [(.bin .Pow (.c (.int 10)) (.c (.int 18)))])]), (.bin .Mod (.v 1) (.c (.int 1000003)))])))]⟩
def f_law_draw : Fn := ⟨2, 3, [(.ife (.bool .And [(.cmp (.ix (.v 0) (.c (.int 1))) [.Eq] [(.c (.int 1))]), (.cmp (.ix (.v 0) (.c (.int 0))) [.Gt] [(.c (.int 0))])]) [(.asg (.nm 2) (.bin .Mod (.ix (.v 0) (.c (.int 0))) (.v 1))), (.asg (.ix (.v 0) (.c (.int 0))) (.bin .FloorDiv (.ix (.v 0) (.c (.int 0))) (.v 1))), (.ret (some (.v 2)))] []),
  (.asg (.ix (.v 0) (.c (.int 2))) (.call "_law_next" [(.bin .Add (.call "_law_next" [(.ix (.v 0) (.c (.int 2)))]) (.c (.int 7)))])),
  (.ret (some (.bin .Mod (.bin .FloorDiv (.ix (.v 0) (.c (.int 2))) (.c (.int 64))) (.v 1))))]⟩
def f_law_purse : Fn := ⟨1, 6, [(.asg (.nm 1) (.call "_law_draw" [(.v 0), (.c (.int 4))])),
  (.asg (.tup [(.nm 2), (.nm 3), (.nm 4)]) (.ix (.lst [(.tup [(.c (.int 4)), (.c (.int 4)), (.c (.int 20))]), (.tup [(.c (.int 12)), (.c (.int 12)), (.c (.int 60))]), (.tup [(.c (.int 60)), (.c (.int 40)), (.c (.int 200))]), (.tup [(.c (.int 1001)), (.c (.int 1000)), (.c (.int 10001))])]) (.v 1))),
  (.asg (.nm 5) (.tup [(.call "_law_draw" [(.v 0), (.v 2)]), (.bin .Add (.c (.int 1)) (.call "_law_draw" [(.v 0), (.v 3)])), (.call "_law_draw" [(.v 0), (.v 4)])])),
  (.ret (some (.bin .Add (.v 5) (.tup [(.ix (.lst [(.c (.int 0)), (.ix (.v 5) (.c (.int 2))), (.call "_law_draw" [(.v 0), (.bin .Add (.ix (.v 5) (.c (.int 2))) (.c (.int 1)))])]) (.call "_law_draw" [(.v 0), (.c (.int 3))]))]))))]⟩
def f_law_odd : Fn := ⟨1, 2, [(.asg (.nm 1) (.lst [(.c .non), (.c (.bl true)), (.c (.bl false)), (.neg (.c (.int 1))), (.c (.str "")), (.c (.str "silent")), (.lst []), (.tup []), (.dct []), (.tup [(.c (.int 1))]), (.bin .Pow (.c (.int 10)) (.c (.int 30))), (.c (.str "a")), (.lst [(.c (.int 1)), (.c (.int 2))]), (.tup [(.tup [(.c (.int 1)), (.c (.int 2))])]), (.dct [((.int 1), (.int 2))]), (.tup [(.c (.int 0)), (.c (.int 1)), (.c (.int 2))])])),
  (.ret (some (.ix (.v 1) (.call "_law_draw" [(.v 0), (.bi .len [(.v 1)])]))))]⟩
def f_law_refusal : Fn := ⟨1, 3, [(.asg (.nm 1) (.lst [(.isE (.gl "NoBeat")), (.isE (.gl "NoStep")), (.isE (.gl "NoNumber")), (.isE (.gl "NoLine"))])),
  (.asg (.nm 1) (.bin .Add (.v 1) (.lst [(.isE (.gl "NoStory")), (.isE (.gl "NoText")), (.isE (.gl "TooGreat"))]))),
  (.ife (.bool .Or [(.nt (.val (.isE (.c (.ty "ValueError"))))), (.val (.isE (.tup [(.c (.ty "LookupError")), (.c (.ty "TypeError")), (.c (.ty "ArithmeticError")), (.c (.ty "RuntimeError"))])))]) [(.ret (some (.tup [(.c (.str "other"))])))] []),
  (.ife (.cmp (.bm .count (.v 1) [(.c (.bl true))]) [.NotEq] [(.c (.int 1))]) [(.ret (some (.tup [(.c (.str "other"))])))] []),
  (.asg (.nm 2) (.ix (.lst [(.c (.str "beat")), (.c (.str "step")), (.c (.str "number")), (.c (.str "line")), (.c (.str "story")), (.c (.str "text")), (.c (.str "great"))]) (.bm .index (.v 1) [(.c (.bl true))]))),
  (.ife (.cmp (.v 2) [.Eq] [(.c (.str "great"))]) [(.ret (some (.tup [(.v 2), (.attE "many"), (.attE "most")])))] []),
  (.ife (.cmp (.v 2) [.Eq] [(.c (.str "story"))]) [(.ret (some (.tup [(.v 2), (.attE "number")])))] []),
  (.ret (some (.ife (.cmp (.v 2) [.Eq] [(.c (.str "text"))]) (.tup [(.v 2), (.attE "row")]) (.tup [(.v 2)]))))]⟩
def f_law_row : Fn := ⟨1, 4, [(.asg (.tup [(.nm 1), (.nm 2)]) (.tup [(.ix (.lst [(.c (.int 0)), (.c (.int 1)), (.c (.int 7)), (.c (.int 30)), (.c (.int 199)), (.c (.int 200))]) (.call "_law_draw" [(.v 0), (.c (.int 6))])), (.bin .Add (.c (.int 1)) (.call "_law_draw" [(.v 0), (.c (.int 5))]))])),
  (.ret (some (.bm .join (.c (.str "")) [(.lc (.ix (.c (.str "ak")) (.bi .int [(.cmp (.call "_law_draw" [(.v 0), (.c (.int 6))]) [.Lt] [(.v 2)])])) (.nm 3) (.rng1 (.v 1)) none [3])])))]⟩
def f_law_bent : Fn := ⟨2, 7, [(.asg (.nm 2) (.c (.str " !#&()*+,-./0123456789:;<=>?@AKQ[]^_bcdefghijlmnopqrstuvwxyz{|}~\t\n"))),
  (.asg (.tup [(.nm 3), (.nm 4)]) (.tup [(.ix (.v 2) (.call "_law_draw" [(.v 0), (.bi .len [(.v 2)])])), (.call "_law_draw" [(.v 0), (.bin .Add (.bi .len [(.v 1)]) (.c (.int 1)))])])),
  (.asg (.nm 5) (.call "_law_draw" [(.v 0), (.c (.int 4))])),
  (.asg (.nm 6) (.lst [(.bin .Add (.bin .Add (.sl (.v 1) none (some (.v 4))) (.v 3)) (.sl (.v 1) (some (.v 4)) none)), (.bin .Add (.bin .Add (.sl (.v 1) none (some (.v 4))) (.v 3)) (.sl (.v 1) (some (.bin .Add (.v 4) (.c (.int 1)))) none)), (.bin .Add (.v 1) (.bin .Mult (.c (.str "ak")) (.c (.int 101)))), (.bi .list [(.v 1)])])),
  (.ret (some (.ix (.v 6) (.v 5))))]⟩
def f_law_walked : Fn := ⟨2, 6, [(.asg (.tup [(.nm 2), (.nm 3)]) (.tup [(.ix (.v 0) (.c (.int 3))), (.lst [])])),
  (.for (.tup [(.nm 4), (.nm 5)]) (.enm (.v 1)) [(.ife (.cmp (.v 5) [.Eq] [(.c (.str "a"))]) [(.asg (.nm 2) (.bin .Add (.v 2) (.ix (.v 0) (.c (.int 0))))), (.ife (.cmp (.v 2) [.Gt] [(.ix (.v 0) (.c (.int 2)))]) [(.asg (.nm 2) (.ix (.v 0) (.c (.int 2))))] [])] [(.ife (.cmp (.v 2) [.Lt] [(.ix (.v 0) (.c (.int 1)))]) [(.exp (.bm .append (.v 3) [(.v 4)]))] [(.asg (.nm 2) (.bin .Sub (.v 2) (.ix (.v 0) (.c (.int 1)))))])])]),
  (.ret (some (.lst [(.v 2), (.bin .Sub (.bm .count (.v 1) [(.c (.str "k"))]) (.bi .len [(.v 3)])), (.v 3)])))]⟩
def f_law_told : Fn := ⟨3, 4, [(.tryRet (.callv (.ix (.lst [(.gl "coins_behind"), (.gl "paid_in"), (.gl "unpaid_at")]) (.v 0)) [(.v 1), (.v 2)]) "KnockError" 3 "_law_refusal")]⟩
def f_law_is_row : Fn := ⟨1, 2, [(.ife (.bool .Or [(.nt (.val (.bi .isinst [(.v 0), (.c (.ty "str"))]))), (.cmp (.bi .len [(.v 0)]) [.Gt] [(.c (.int 200))])]) [(.ret (some (.c (.bl false))))] []),
  (.ret (some (.cmp (.lc (.v 1) (.nm 1) (.val (.v 0)) (some (.bool .And [(.cmp (.v 1) [.NotEq] [(.c (.str "a"))]), (.cmp (.v 1) [.NotEq] [(.c (.str "k"))])])) [1]) [.Eq] [(.lst [])])))]⟩
def f_law : Fn := ⟨1, 11, [(.for (.nm 1) (.val (.bin .Add (.lst [(.call "_law_cell_at" [(.v 0), (.c (.int 0))])]) (.sl (.v 0) (some (.c (.int 1))) (some (.c (.int 5)))))) [(.asg (.nm 2) (.call "_law_pen_of" [(.v 1)])), (.asg (.tup [(.nm 3), (.nm 4)]) (.tup [(.call "_law_purse" [(.v 2)]), (.call "_law_row" [(.v 2)])])), (.asg (.nm 5) (.bin .Add (.v 4) (.bin .Mult (.c (.str "a")) (.bin .Sub (.c (.int 201)) (.bi .len [(.v 4)]))))), (.for (.nm 6) (.val (.lst [(.v 4), (.rev (.v 4)), (.call "_law_bent" [(.v 2), (.v 4)]), (.call "_law_bent" [(.v 2), (.v 4)]), (.v 5), (.call "_law_odd" [(.v 2)])])) [(.asg (.nm 7) (.bin .Mult (.lst [(.tup [(.c (.str "step"))])]) (.c (.int 3)))), (.ife (.val (.call "_law_is_row" [(.v 6)])) [(.asg (.nm 7) (.call "_law_walked" [(.v 3), (.v 6)]))] []), (.for (.nm 8) (.rng1 (.c (.int 2))) [(.asg (.nm 9) (.lc (.call "_law_told" [(.v 10), (.v 3), (.v 6)]) (.nm 10) (.rng1 (.c (.int 3))) none [10])), (.ife (.cmp (.bi .repr [(.v 9)]) [.NotEq] [(.bi .repr [(.v 7)])]) [(.ret (some (.c (.bl false))))] []), (.ife (.val (.bi .isinst [(.ix (.v 9) (.c (.int 2))), (.c (.ty "list"))])) [(.exp (.bm .append (.ix (.v 9) (.c (.int 2))) [(.c (.int 0))]))] [])])])]),
  (.ret (some (.c (.bl true))))]⟩
def e_put_in : Ent := ⟨"put_in", 11, f_put_in, ["purse", "coins"], ["purse", "coins"], false⟩
def e_walked : Ent := ⟨"walked", 12, f_walked, ["purse", "row", "coins", "found", "place", "sign"], ["purse", "row"], false⟩
def e_check_row : Ent := ⟨"check_row", 13, f_check_row, ["row", "sign"], ["row"], false⟩
def e_coins_behind : Ent := ⟨"coins_behind", 14, f_coins_behind, ["purse", "row"], ["purse", "row"], false⟩
def e_paid_in : Ent := ⟨"paid_in", 15, f_paid_in, ["purse", "row"], ["purse", "row"], false⟩
def e_unpaid_at : Ent := ⟨"unpaid_at", 16, f_unpaid_at, ["purse", "row"], ["purse", "row"], false⟩
def e_law_cell_at : Ent := ⟨"_law_cell_at", 18, f_law_cell_at, ["_law_script", "_law_k"], ["_law_script", "_law_k"], false⟩
def e_law_next : Ent := ⟨"_law_next", 19, f_law_next, ["_law_seed"], ["_law_seed"], false⟩
def e_law_pen_of : Ent := ⟨"_law_pen_of", 20, f_law_pen_of, ["_law_cell", "_law_left"], ["_law_cell"], false⟩
def e_law_draw : Ent := ⟨"_law_draw", 21, f_law_draw, ["_law_pen", "_law_many", "_law_found"], ["_law_pen", "_law_many"], false⟩
def e_law_purse : Ent := ⟨"_law_purse", 22, f_law_purse, ["_law_pen", "_law_way", "_law_part", "_law_price", "_law_cap", "_law_purse_here"], ["_law_pen"], false⟩
def e_law_odd : Ent := ⟨"_law_odd", 23, f_law_odd, ["_law_pen", "_law_some"], ["_law_pen"], false⟩
def e_law_refusal : Ent := ⟨"_law_refusal", 24, f_law_refusal, ["_law_e", "_law_marks", "_law_word"], ["_law_e"], true⟩
def e_law_row : Ent := ⟨"_law_row", 25, f_law_row, ["_law_pen", "_law_many", "_law_share", "_law_turn"], ["_law_pen"], false⟩
def e_law_bent : Ent := ⟨"_law_bent", 26, f_law_bent, ["_law_pen", "_law_row_here", "_law_signs", "_law_sign", "_law_at", "_law_way", "_law_some"], ["_law_pen", "_law_row_here"], false⟩
def e_law_walked : Ent := ⟨"_law_walked", 27, f_law_walked, ["_law_purse_here", "_law_row_here", "_law_coins", "_law_unpaid", "_law_place", "_law_sign"], ["_law_purse_here", "_law_row_here"], false⟩
def e_law_told : Ent := ⟨"_law_told", 28, f_law_told, ["_law_way", "_law_purse_here", "_law_row_here", "_law_e"], ["_law_way", "_law_purse_here", "_law_row_here"], false⟩
def e_law_is_row : Ent := ⟨"_law_is_row", 29, f_law_is_row, ["_law_thing", "_law_sign"], ["_law_thing"], false⟩
def e_law : Ent := ⟨"law", 30, f_law, ["_law_script", "_law_cell", "_law_pen", "_law_purse_here", "_law_row_here", "_law_long", "_law_thing", "_law_due", "_law_turn", "_law_found", "_law_way"], ["_law_script"], false⟩
def L : LD := ⟨PySem.Challenge.pw_knockpurse_k32_rows_of_deeds, [e_put_in, e_walked, e_check_row, e_coins_behind, e_paid_in, e_unpaid_at, e_law_cell_at, e_law_next, e_law_pen_of, e_law_draw, e_law_purse, e_law_odd, e_law_refusal, e_law_row, e_law_bent, e_law_walked, e_law_told, e_law_is_row, e_law], [("MOST_DEEDS", 200)], ["KnockError", "NoBeat", "NoStep", "NoNumber", "NoLine", "NoStory", "NoText", "TooGreat"], ["KnockError", "NoBeat", "NoStep", "NoNumber", "NoLine"], [("NoBeat", "KnockError"), ("NoStep", "KnockError"), ("NoNumber", "KnockError"), ("NoLine", "KnockError"), ("NoStory", "KnockError"), ("NoText", "KnockError"), ("TooGreat", "KnockError")]⟩
theorem o_put_in : EntOk L e_put_in := ⟨⟨rfl, rfl, rfl, by decide +kernel, rfl, by decide +kernel, by decide +kernel⟩, rfl, rfl, (fun h => by cases h), by kernel_rfl, fun _ _ _ _ _ _ us hl => match us, hl with | [_, _], _ => rfl⟩
theorem o_walked : EntOk L e_walked := ⟨⟨rfl, rfl, rfl, by decide +kernel, rfl, by decide +kernel, by decide +kernel⟩, rfl, rfl, (fun h => by cases h), by kernel_rfl, fun _ _ _ _ _ _ us hl => match us, hl with | [_, _], _ => rfl⟩
theorem o_check_row : EntOk L e_check_row := ⟨⟨rfl, rfl, rfl, by decide +kernel, rfl, by decide +kernel, by decide +kernel⟩, rfl, rfl, (fun h => by cases h), by kernel_rfl, fun _ _ _ _ _ _ us hl => match us, hl with | [_], _ => rfl⟩
theorem o_coins_behind : EntOk L e_coins_behind := ⟨⟨rfl, rfl, rfl, by decide +kernel, rfl, by decide +kernel, by decide +kernel⟩, rfl, rfl, (fun h => by cases h), by kernel_rfl, fun _ _ _ _ _ _ us hl => match us, hl with | [_, _], _ => rfl⟩
theorem o_paid_in : EntOk L e_paid_in := ⟨⟨rfl, rfl, rfl, by decide +kernel, rfl, by decide +kernel, by decide +kernel⟩, rfl, rfl, (fun h => by cases h), by kernel_rfl, fun _ _ _ _ _ _ us hl => match us, hl with | [_, _], _ => rfl⟩
theorem o_unpaid_at : EntOk L e_unpaid_at := ⟨⟨rfl, rfl, rfl, by decide +kernel, rfl, by decide +kernel, by decide +kernel⟩, rfl, rfl, (fun h => by cases h), by kernel_rfl, fun _ _ _ _ _ _ us hl => match us, hl with | [_, _], _ => rfl⟩
theorem o_law_cell_at : EntOk L e_law_cell_at := ⟨⟨rfl, rfl, rfl, by decide +kernel, rfl, by decide +kernel, by decide +kernel⟩, rfl, rfl, (fun h => by cases h), by kernel_rfl, fun _ _ _ _ _ _ us hl => match us, hl with | [_, _], _ => rfl⟩
theorem o_law_next : EntOk L e_law_next := ⟨⟨rfl, rfl, rfl, by decide +kernel, rfl, by decide +kernel, by decide +kernel⟩, rfl, rfl, (fun h => by cases h), by kernel_rfl, fun _ _ _ _ _ _ us hl => match us, hl with | [_], _ => rfl⟩
theorem o_law_pen_of : EntOk L e_law_pen_of := ⟨⟨rfl, rfl, rfl, by decide +kernel, rfl, by decide +kernel, by decide +kernel⟩, rfl, rfl, (fun h => by cases h), by kernel_rfl, fun _ _ _ _ _ _ us hl => match us, hl with | [_], _ => rfl⟩
theorem o_law_draw : EntOk L e_law_draw := ⟨⟨rfl, rfl, rfl, by decide +kernel, rfl, by decide +kernel, by decide +kernel⟩, rfl, rfl, (fun h => by cases h), by kernel_rfl, fun _ _ _ _ _ _ us hl => match us, hl with | [_, _], _ => rfl⟩
theorem o_law_purse : EntOk L e_law_purse := ⟨⟨rfl, rfl, rfl, by decide +kernel, rfl, by decide +kernel, by decide +kernel⟩, rfl, rfl, (fun h => by cases h), by kernel_rfl, fun _ _ _ _ _ _ us hl => match us, hl with | [_], _ => rfl⟩
theorem o_law_odd : EntOk L e_law_odd := ⟨⟨rfl, rfl, rfl, by decide +kernel, rfl, by decide +kernel, by decide +kernel⟩, rfl, rfl, (fun h => by cases h), by kernel_rfl, fun _ _ _ _ _ _ us hl => match us, hl with | [_], _ => rfl⟩
theorem o_law_refusal : EntOk L e_law_refusal := ⟨⟨rfl, rfl, rfl, by decide +kernel, rfl, by decide +kernel, by decide +kernel⟩, rfl, rfl, (fun _ => rfl), by kernel_rfl, fun _ _ _ _ _ _ us hl => match us, hl with | [_], _ => rfl⟩
theorem o_law_row : EntOk L e_law_row := ⟨⟨rfl, rfl, rfl, by decide +kernel, rfl, by decide +kernel, by decide +kernel⟩, rfl, rfl, (fun h => by cases h), by kernel_rfl, fun _ _ _ _ _ _ us hl => match us, hl with | [_], _ => rfl⟩
theorem o_law_bent : EntOk L e_law_bent := ⟨⟨rfl, rfl, rfl, by decide +kernel, rfl, by decide +kernel, by decide +kernel⟩, rfl, rfl, (fun h => by cases h), by kernel_rfl, fun _ _ _ _ _ _ us hl => match us, hl with | [_, _], _ => rfl⟩
theorem o_law_walked : EntOk L e_law_walked := ⟨⟨rfl, rfl, rfl, by decide +kernel, rfl, by decide +kernel, by decide +kernel⟩, rfl, rfl, (fun h => by cases h), by kernel_rfl, fun _ _ _ _ _ _ us hl => match us, hl with | [_, _], _ => rfl⟩
theorem o_law_told : EntOk L e_law_told := ⟨⟨rfl, rfl, rfl, by decide +kernel, rfl, by decide +kernel, by decide +kernel⟩, rfl, rfl, (fun h => by cases h), by kernel_rfl, fun _ _ _ _ _ _ us hl => match us, hl with | [_, _, _], _ => rfl⟩
theorem o_law_is_row : EntOk L e_law_is_row := ⟨⟨rfl, rfl, rfl, by decide +kernel, rfl, by decide +kernel, by decide +kernel⟩, rfl, rfl, (fun h => by cases h), by kernel_rfl, fun _ _ _ _ _ _ us hl => match us, hl with | [_], _ => rfl⟩
theorem o_law : EntOk L e_law := ⟨⟨rfl, rfl, rfl, by decide +kernel, rfl, by decide +kernel, by decide +kernel⟩, rfl, rfl, (fun h => by cases h), by kernel_rfl, fun _ _ _ _ _ _ us hl => match us, hl with | [_], _ => rfl⟩
theorem all_ok : ∀ e ∈ L.tbl, EntOk L e := by
  intro e he
  simp only [L, List.mem_cons, List.not_mem_nil, or_false] at he
  rcases he with rfl | rfl | rfl | rfl | rfl | rfl | rfl | rfl | rfl | rfl | rfl | rfl | rfl | rfl | rfl | rfl | rfl | rfl | rfl
  · exact o_put_in
  · exact o_walked
  · exact o_check_row
  · exact o_coins_behind
  · exact o_paid_in
  · exact o_unpaid_at
  · exact o_law_cell_at
  · exact o_law_next
  · exact o_law_pen_of
  · exact o_law_draw
  · exact o_law_purse
  · exact o_law_odd
  · exact o_law_refusal
  · exact o_law_row
  · exact o_law_bent
  · exact o_law_walked
  · exact o_law_told
  · exact o_law_is_row
  · exact o_law
abbrev row : PySem.W.OpenRow := PySem.W.OpenLaw.row PySem.Challenge.rw_knockpurse_k32_rows_of_deeds
def loose : List Str := ["KnockError", "NoBeat", "NoStep", "NoNumber", "NoLine", "NoStory", "NoText", "TooGreat", "MOST_DEEDS", "put_in", "walked", "check_row", "coins_behind", "paid_in", "unpaid_at", "_law_cell_at", "_law_next", "_law_pen_of", "_law_draw", "_law_purse", "_law_odd", "_law_refusal", "_law_row", "_law_bent", "_law_walked", "_law_told", "_law_is_row"]
def lawIx : Nat := 30
theorem run_top (w : World) : HandSHeadRun.RunEq row (PySem.W.view row.prog [30]) (L.hook 5) (L.ob 5) 4000 loose w := by
  intro os
  kernel_rfl
end Ev.K32
end
section
set_option Elab.async false
set_option linter.all false
set_option maxRecDepth 100000
set_option maxHeartbeats 1000000
/-! MLib: the evaluator's equations, for symbolic runs. -/
namespace Ev
open PySem
section
variable {P : Prog} {h : Hd} {i j : Int} {c : Nat}
@[simp] theorem bAdd : evBin .Add (.int i) (.int j) h = .ok (.int (i + j)) h := rfl
@[simp] theorem bSub : evBin .Sub (.int i) (.int j) h = .ok (.int (i - j)) h := rfl
theorem bMul (hi : -18446744073709551616 < i ∧ i < 18446744073709551616) : evBin .Mult (.int i) (.int j) h = .ok (.int (i * j)) h := if_pos (.inl hi)
theorem bDiv (hj : 0 < j ∧ j < 340282366920938463463374607431768211456) : evBin .FloorDiv (.int i) (.int j) h = .ok (.int (i / j)) h := if_pos hj
theorem bMod (hj : 0 < j) : evBin .Mod (.int i) (.int j) h = .ok (.int (i % j)) h := if_pos hj
theorem bPow (hj : 0 ≤ j ∧ j ≤ 1000000 ∧ i.natAbs < 18446744073709551616) : evBin .Pow (.int i) (.int j) h = .ok (.int (i ^ j.toNat)) h := if_pos hj
theorem bAddS {x y : Str} (hz : x.length + y.length ≤ LIM) : evBin .Add (.str x) (.str y) h = .ok (.str (x ++ y)) h := if_pos hz
theorem bAddT {xs ys : List D} (hz : xs.length + ys.length ≤ LIM) : evBin .Add (.tup xs) (.tup ys) h = .ok (.tup (xs ++ ys)) h := if_pos hz
theorem bAddL {e : Nat} {xs ys : List D} (h1 : h[c]? = some (.lst xs)) (h2 : h[e]? = some (.lst ys)) (hz : xs.length + ys.length ≤ LIM) : evBin .Add (.ref c) (.ref e) h = .ok (.ref h.length) (h ++ [.lst (xs ++ ys)]) := by
  simp [evBin, h1, h2, hz, new]
theorem bMulL {xs : List D} (h1 : h[c]? = some (.lst xs)) (h0 : 0 ≤ i) (h2 : i ≤ 1048576) (hz : xs.length * i.toNat ≤ LIM) : evBin .Mult (.ref c) (.int i) h = .ok (.ref h.length) (h ++ [.lst (List.replicate i.toNat xs).flatten]) := by
  simp [evBin, h1, h0, h2, hz, new, LIM] at hz ⊢
  omega
theorem bMulS {x : Str} (h0 : 0 ≤ i) (h2 : i ≤ 1048576) (hz : x.length * i.toNat ≤ LIM) : evBin .Mult (.str x) (.int i) h = .ok (.str ⟨(List.replicate i.toNat x.cps.toList).flatten.toArray⟩) h := by
  have : (LIM : Int) = 1048576 := rfl
  simp only [evBin]
  rw [if_pos ⟨h0, by rw [this]; exact h2, hz⟩]
@[simp] theorem eqI : evEq h (.int i) (.int j) = some (i == j) := by simp [evEq, toP, DEPTH, PyData.eqv]
@[simp] theorem eqS {x y : Str} : evEq h (.str x) (.str y) = some (x == y) := by simp [evEq, toP, DEPTH, PyData.eqv]
@[simp] theorem cEqI : evCmp P h .Eq (.int i) (.int j) = some (i == j) := eqI
@[simp] theorem cEqS {x y : Str} : evCmp P h .Eq (.str x) (.str y) = some (x == y) := eqS
@[simp] theorem cNeI : evCmp P h .NotEq (.int i) (.int j) = some (!(i == j)) := by simp [evCmp]
@[simp] theorem cNeS {x y : Str} : evCmp P h .NotEq (.str x) (.str y) = some (!(x == y)) := by simp [evCmp]
@[simp] theorem cLtI : evCmp P h .Lt (.int i) (.int j) = some (decide (i < j)) := rfl
@[simp] theorem cLeI : evCmp P h .LtE (.int i) (.int j) = some (decide (i ≤ j)) := rfl
@[simp] theorem cGtI : evCmp P h .Gt (.int i) (.int j) = some (decide (j < i)) := rfl
@[simp] theorem cGeI : evCmp P h .GtE (.int i) (.int j) = some (decide (j ≤ i)) := rfl
@[simp] theorem tBl {b : Bool} : truth (.bl b) = some b := rfl
@[simp] theorem ixT {xs : List D} : evIx P (.tup xs) (.int i) h = L2.atI xs i := rfl
@[simp] theorem ixF {xs : List D} : evIx P (.fl xs) (.int i) h = L2.atI xs i := rfl
theorem ixL {xs : List D} (h1 : h[c]? = some (.lst xs)) : evIx P (.ref c) (.int i) h = L2.atI xs i := by simp [evIx, h1]
theorem atI_nat {α : Type} {xs : List α} {i : Int} {n : Nat} (e : i = n) (hn : n < xs.length) : L2.atI xs i = xs[n]? := by
  subst e
  unfold L2.atI L2.ixN
  rw [if_pos (by omega), if_pos (by omega)]
  simp
end
theorem chain1 {C : Cx} {x : D} {o : CmpOp} {e : E} {σ : Sl} {h : Hd} : evChain C x [o] [e] σ h = (evE C e σ h).bind fun y h1 => match evCmp C.P h1 o x y with
    | some b => .ok (.bl b) h1
    | none => .bad := by
  simp only [evChain]
  cases evE C e σ h with
  | bad => rfl
  | exc c fs k => rfl
  | ok y h1 =>
    simp only [R.bind_ok]
    cases evCmp C.P h1 o x y with
    | none => rfl
    | some b => cases b <;> rfl
theorem biInt {P : Prog} {b : Bool} {h : Hd} : evBI P .int [.bl b] h = .ok (.int (if b then 1 else 0)) h := rfl
theorem biMax {P : Prog} {i j : Int} {h : Hd} : evBI P .max2 [.int i, .int j] h = .ok (.int (if j > i then j else i)) h := rfl
/-- the turns of a comprehension, by an invariant -/
theorem lc_ind {tgt : D → Sl → Hd → R Sl} {test : Sl → Hd → R Bool} {elt : Sl → Hd → R D} {own : List Nat} {J : It} {σ : Sl} {n : Nat} {item : Nat → D} (hJ : ∀ h i, J.next h i = some (if i < n then some (item i) else none)) (G : Nat → List D → Hd → Prop)
    (step : ∀ i acc h, i < n → G i acc h → ∃ σ1 h1, tgt (item i) (wipe σ own) h = .ok σ1 h1 ∧ ∃ b h2, test σ1 h1 = .ok b h2 ∧ ((b = true ∧ ∃ y h3, elt σ1 h2 = .ok y h3 ∧ acc.length < LIM ∧ G (i + 1) (acc ++ [y]) h3) ∨ (b = false ∧ G (i + 1) acc h2))) :
    ∀ (f i : Nat) (acc : List D) (h : Hd), n < f + i → i ≤ n → G i acc h → ∃ acc' h', lcLoop tgt test elt own J σ f i acc h = .ok acc' h' ∧ G n acc' h' := by
  intro f
  induction f with
  | zero => intro i acc h h1 h2 _; omega
  | succ f ih =>
    intro i acc h h1 h2 g
    unfold lcLoop
    rw [hJ]
    by_cases hi : i < n
    · rw [if_pos hi]
      obtain ⟨σ1, k1, e1, b, k2, e2, z⟩ := step i acc h hi g
      simp only [e1, e2]
      rcases z with ⟨rfl, y, k3, e3, hz, g'⟩ | ⟨rfl, g'⟩
      · simp only [e3, hz, if_true]
        exact ih (i + 1) _ _ (by omega) (by omega) g'
      · exact ih (i + 1) _ _ (by omega) (by omega) g'
    · rw [if_neg hi]
      have : i = n := by omega
      subst this
      exact ⟨acc, h, rfl, g⟩
/-- the turns of a for, by an invariant -/
theorem for_ind {tgt : D → Sl → Hd → R Sl} {body : Sl → Hd → RS} {J : It} {n : Nat} {item : Nat → D} (G : Nat → Sl → Hd → Prop) (hJ : ∀ i σ h, G i σ h → J.next h i = some (if i < n then some (item i) else none))
    (step : ∀ i σ h, i < n → G i σ h → ∃ σ1 h1, tgt (item i) σ h = .ok σ1 h1 ∧ ∃ σ2 h2, body σ1 h1 = .nx σ2 h2 ∧ G (i + 1) σ2 h2) :
    ∀ (f i : Nat) (σ : Sl) (h : Hd), n < f + i → i ≤ n → G i σ h → ∃ σ' h', forLoop tgt body J f i σ h = .nx σ' h' ∧ G n σ' h' := by
  intro f
  induction f with
  | zero => intro i σ h h1 h2 _; omega
  | succ f ih =>
    intro i σ h h1 h2 g
    unfold forLoop
    rw [hJ i σ h g]
    by_cases hi : i < n
    · rw [if_pos hi]
      obtain ⟨σ1, k1, e1, σ2, k2, e2, g'⟩ := step i σ h hi g
      simp only [e1, R.st_ok, e2]
      exact ih (i + 1) _ _ (by omega) (by omega) g'
    · rw [if_neg hi]
      have : i = n := by omega
      subst this
      exact ⟨σ, h, rfl, g⟩
end Ev
end
section
set_option Elab.async false
set_option linter.all false
set_option maxRecDepth 100000
set_option maxHeartbeats 1000000
/-! the mathematics of k32 -/
namespace Ev.K32
open PySem Ev
def FUEL : Nat := 5000
theorem call_succ {n : Nat} {k x : Str} {f : Fn} (e : L.P.fn k x = some f) (ds : List D) (h : Hd) : (cxN L.P FUEL (n + 1)).call k x ds h = run (cxN L.P FUEL n) f ds h := by
  show (match L.P.fn k x with | some f => run (cxN L.P FUEL n) f ds h | none => .bad) = _
  rw [e]
@[simp] theorem cx_P (n : Nat) : (cxN L.P FUEL n).P = L.P := by cases n <;> rfl
@[simp] theorem cx_ex (n : Nat) : (cxN L.P FUEL n).ex = none := by cases n <;> rfl
@[simp] theorem cx_fuel (n : Nat) : (cxN L.P FUEL n).fuel = FUEL := by cases n <;> rfl
@[simp] theorem cl_no (x : Str) : L.P.cls x = false := rfl
theorem fn_next : L.P.fn "" "_law_next" = some f_law_next := by kernel_rfl
theorem fn_draw : L.P.fn "" "_law_draw" = some f_law_draw := by kernel_rfl
def nextI (c : Int) : Int := ((c + 7919) % 2147483647 * ((c + 7919) % 2147483647) + 48271 * ((c + 7919) % 2147483647) + 12345) % 2147483629
theorem next_run (n : Nat) (c : Int) (h : Hd) : (cxN L.P FUEL (n + 1)).call "" "_law_next" [.int c] h = .ok (.int (nextI c)) h := by
  have h1 := Int.emod_nonneg (c + 7919) (by decide : (2147483647 : Int) ≠ 0)
  have h2 := Int.emod_lt_of_pos (c + 7919) (by decide : (0 : Int) < 2147483647)
  have h3 : -18446744073709551616 < (c + 7919) % 2147483647 ∧ (c + 7919) % 2147483647 < 18446744073709551616 := by omega
  rw [call_succ fn_next]
  simp [run, f_law_next, evSs, evS, evE, evTg, bMod, bMul h3, bMul (i := 48271) (by decide), nextI]
/-- a pen -/
structure Pen (h : Hd) (p : Nat) : Prop where
  at_ : ∃ a b c : Int, h[p]? = some (.lst [.int a, .int b, .int c])
/-- nothing but the pen has changed -/
structure Kp (p : Nat) (h h' : Hd) : Prop where
  keep : ∀ c x, c ≠ p → h[c]? = some x → h'[c]? = some x
  pen : Pen h' p
theorem Kp.trans {p : Nat} {h h1 h2 : Hd} (a : Kp p h h1) (b : Kp p h1 h2) : Kp p h h2 := ⟨fun c x n e => b.keep c x n (a.keep c x n e), b.pen⟩
theorem Kp.refl {p : Nat} {h : Hd} (a : Pen h p) : Kp p h h := ⟨fun c x n e => e, a⟩
theorem Kp.more {p : Nat} {h : Hd} (a : Pen h p) (l : Hd) : Kp p h (h ++ l) := by
  have key : ∀ c x, h[c]? = some x → (h ++ l)[c]? = some x := fun c x e => by rw [List.getElem?_append_left (List.getElem?_eq_some_iff.mp e).1]; exact e
  obtain ⟨x, y, z, e⟩ := a.at_
  exact ⟨fun c x _ e => key c x e, ⟨x, y, z, key _ _ e⟩⟩
theorem Kp.set {p : Nat} {h : Hd} {x y z : Int} (hp : p < h.length) : Kp p h (h.set p (.lst [.int x, .int y, .int z])) :=
  ⟨fun c x n e => by rw [List.getElem?_set_ne (Ne.symm n)]; exact e, ⟨x, y, z, by rw [List.getElem?_set_self hp]⟩⟩
theorem draw_run (n : Nat) {h : Hd} {p : Nat} {m : Int} (P : Pen h p) (h0 : 0 < m) (h1 : m < 1000000000) : ∃ r h', (cxN L.P FUEL (n + 2)).call "" "_law_draw" [.ref p, .int m] h = .ok (.int r) h' ∧ 0 ≤ r ∧ r < m ∧ Kp p h h' := by
  obtain ⟨a, b, c, hp⟩ := P.at_
  have hlt : p < h.length := (List.getElem?_eq_some_iff.mp hp).1
  rw [call_succ fn_draw]
  have nx := next_run n
  have hm : 0 < m ∧ m < 340282366920938463463374607431768211456 := by omega
  have i0 : ∀ x y z : D, L2.atI [x, y, z] 0 = some x := fun x y z => rfl
  have i1 : ∀ x y z : D, L2.atI [x, y, z] 1 = some y := fun x y z => rfl
  have i2 : ∀ x y z : D, L2.atI [x, y, z] 2 = some z := fun x y z => rfl
  by_cases hb : b = 1
  · subst hb
    by_cases ha : 0 < a
    · refine ⟨a % m, h.set p (.lst [.int (a / m), .int 1, .int c]), ?_, Int.emod_nonneg _ (by omega), Int.emod_lt_of_pos _ h0, Kp.set hlt⟩
      simp [run, f_law_draw, evSs, evS, evE, evT, evTs, evChain, evTg, hp, ixL hp, i0, i1, i2, ha, bMod hm.1, bDiv hm, setIx, L2.ixN, bop]
    · refine ⟨nextI (nextI c + 7) / 64 % m, h.set p (.lst [.int a, .int 1, .int (nextI (nextI c + 7))]), ?_, Int.emod_nonneg _ (by omega), Int.emod_lt_of_pos _ h0, Kp.set hlt⟩
      have hs : (h.set p (.lst [.int a, .int 1, .int (nextI (nextI c + 7))]))[p]? = some (.lst [.int a, .int 1, .int (nextI (nextI c + 7))]) := by rw [List.getElem?_set_self hlt]
      simp [run, f_law_draw, evSs, evS, evE, evEs, evT, evTs, evChain, evTg, hp, ixL hp, ixL hs, hs, i0, i1, i2, ha, bMod hm.1, bDiv (i := nextI (nextI c + 7)) (j := 64) (by decide), setIx, L2.ixN, bop, nx]
  · refine ⟨nextI (nextI c + 7) / 64 % m, h.set p (.lst [.int a, .int b, .int (nextI (nextI c + 7))]), ?_, Int.emod_nonneg _ (by omega), Int.emod_lt_of_pos _ h0, Kp.set hlt⟩
    have hb' : (b == 1) = false := by simp [hb]
    have hs : (h.set p (.lst [.int a, .int b, .int (nextI (nextI c + 7))]))[p]? = some (.lst [.int a, .int b, .int (nextI (nextI c + 7))]) := by rw [List.getElem?_set_self hlt]
    simp [run, f_law_draw, evSs, evS, evE, evEs, evT, evTs, evChain, evTg, hp, ixL hp, ixL hs, hs, i0, i1, i2, hb', bMod hm.1, bDiv (i := nextI (nextI c + 7)) (j := 64) (by decide), setIx, L2.ixN, bop, nx]
theorem fn_cell : L.P.fn "" "_law_cell_at" = some f_law_cell_at := by kernel_rfl
theorem fn_pen : L.P.fn "" "_law_pen_of" = some f_law_pen_of := by kernel_rfl
theorem fn_purse : L.P.fn "" "_law_purse" = some f_law_purse := by kernel_rfl
theorem fn_row : L.P.fn "" "_law_row" = some f_law_row := by kernel_rfl
theorem cell_run (n : Nat) (ns : List Int) (h : Hd) : ∃ c, (cxN L.P FUEL (n + 1)).call "" "_law_cell_at" [scr ns, .int 0] h = .ok (.int c) h := by
  rw [call_succ fn_cell]
  cases ns with
  | nil => exact ⟨0, by simp [run, f_law_cell_at, evSs, evS, evE, evEs, evT, evChain, scr, evBI, items]⟩
  | cons a r =>
    refine ⟨a, ?_⟩
    have e : (0 : Int) < (r.length : Int) + 1 := by omega
    simp [run, f_law_cell_at, evSs, evS, evE, evEs, evT, evChain, scr, evBI, items, e, L2.atI, L2.ixN]
theorem pen_run (n : Nat) (c : Int) (h : Hd) : ∃ x y z, (cxN L.P FUEL (n + 1)).call "" "_law_pen_of" [.int c] h = .ok (.ref h.length) (h ++ [.lst [.int x, .int y, .int z]]) := by
  rw [call_succ fn_pen]
  have hp : (0 : Int) ≤ 18 ∧ (18 : Int) ≤ 1000000 ∧ (10 : Int).natAbs < 18446744073709551616 := by decide
  refine ⟨if -c > c then -c else c, if decide (10 ^ 18 ≤ (if -c > c then -c else c)) then 1 else 0, (if -c > c then -c else c) % 1000003, ?_⟩
  generalize hm : (if -c > c then -c else c) = m
  have e1 : evBI L.P .max2 [.int c, .int (-c)] h = .ok (.int m) h := by rw [← hm]; rfl
  simp only [run, f_law_pen_of, evSs, evS, evE, evEs, chain1, evTg, bPow hp, bMod (j := 1000003) (by decide), new, cx_P, cx_ex, R.bind_ok, R.st_ok, Int.zero_sub, bSub, e1, biInt, cGeI, List.length_cons, List.length_nil, List.map_cons, List.map_nil, List.replicate, List.cons_append, List.nil_append, List.getElem?_cons_zero, List.getElem?_cons_succ, List.set_cons_zero, List.set_cons_succ]
  simp [biInt, bMod (i := m) (j := 1000003) (by decide)]
/-- four numbers of a purse -/
structure Purse (a b c d : Int) : Prop where
  a0 : 0 ≤ a ∧ a < 100000
  b0 : 0 < b ∧ b < 100000
  c0 : 0 ≤ c ∧ c < 100000
  d0 : 0 ≤ d ∧ d ≤ c
theorem purse_run (n : Nat) {h : Hd} {p : Nat} (Pn : Pen h p) : ∃ a b c d h', (cxN L.P FUEL (n + 3)).call "" "_law_purse" [.ref p] h = .ok (.tup [.int a, .int b, .int c, .int d]) h' ∧ Purse a b c d ∧ Kp p h h' := by
  rw [call_succ fn_purse]
  obtain ⟨w, h1, e1, w0, w1, k1⟩ := draw_run n Pn (m := 4) (by decide) (by decide)
  have hw : w = 0 ∨ w = 1 ∨ w = 2 ∨ w = 3 := by omega
  -- the row of the table
  obtain ⟨A, B, Cc, hA, hB, hC, hat⟩ : ∃ A B Cc : Int, (0 < A ∧ A < 10000) ∧ (0 < B ∧ B < 10000) ∧ (0 < Cc ∧ Cc < 20000) ∧ L2.atI [D.tup [.int 4, .int 4, .int 20], .tup [.int 12, .int 12, .int 60], .tup [.int 60, .int 40, .int 200], .tup [.int 1001, .int 1000, .int 10001]] w = some (.tup [.int A, .int B, .int Cc]) := by
    rcases hw with rfl | rfl | rfl | rfl <;> exact ⟨_, _, _, by decide, by decide, by decide, rfl⟩
  have k2 := Kp.more k1.pen [.lst [D.tup [.int 4, .int 4, .int 20], .tup [.int 12, .int 12, .int 60], .tup [.int 60, .int 40, .int 200], .tup [.int 1001, .int 1000, .int 10001]]]
  obtain ⟨a, h2, e2, a0, a1, k3⟩ := draw_run n k2.pen hA.1 (by omega)
  obtain ⟨b, h3, e3, b0, b1, k4⟩ := draw_run n k3.pen hB.1 (by omega)
  obtain ⟨c, h4, e4, c0, c1, k5⟩ := draw_run n k4.pen hC.1 (by omega)
  obtain ⟨d, h5, e5, d0, d1, k6⟩ := draw_run n k5.pen (m := c + 1) (by omega) (by omega)
  have k7 := Kp.more k6.pen [.lst [.int 0, .int c, .int d]]
  obtain ⟨w2, h6, e6, w20, w21, k8⟩ := draw_run n k7.pen (m := 3) (by decide) (by decide)
  have hw2 : w2 = 0 ∨ w2 = 1 ∨ w2 = 2 := by omega
  obtain ⟨x, hx, hat2⟩ : ∃ x : Int, (0 ≤ x ∧ x ≤ c) ∧ L2.atI [D.int 0, .int c, .int d] w2 = some (.int x) := by
    rcases hw2 with rfl | rfl | rfl
    · exact ⟨0, by omega, rfl⟩
    · exact ⟨c, by omega, rfl⟩
    · exact ⟨d, by omega, rfl⟩
  have g1 : (h1 ++ [Cell.lst [D.tup [.int 4, .int 4, .int 20], .tup [.int 12, .int 12, .int 60], .tup [.int 60, .int 40, .int 200], .tup [.int 1001, .int 1000, .int 10001]]])[h1.length]? = some (.lst [D.tup [.int 4, .int 4, .int 20], .tup [.int 12, .int 12, .int 60], .tup [.int 60, .int 40, .int 200], .tup [.int 1001, .int 1000, .int 10001]]) := by simp
  have hne : h5.length ≠ p := by
    obtain ⟨_, _, _, q⟩ := k6.pen.at_
    have := (List.getElem?_eq_some_iff.mp q).1
    omega
  have g2 := k8.keep h5.length (.lst [.int 0, .int c, .int d]) hne (by simp)
  refine ⟨a, 1 + b, c, x, h6, ?_, ⟨by omega, by omega, by omega, hx⟩, ((((((k1.trans k2).trans k3).trans k4).trans k5).trans k6).trans k7).trans k8⟩
  have t3 : ∀ x y z : D, L2.atI [x, y, z] 2 = some z := fun x y z => rfl
  simp [run, f_law_purse, evSs, evS, evE, evEs, evTg, evTgs, e1, new, ixL g1, hat, e2, e3, e4, t3, e5, e6, ixL g2, hat2]
  rw [bAddT (by simp [LIM])]
  rfl
end Ev.K32
end
section
set_option Elab.async false
set_option linter.all false
set_option maxRecDepth 100000
set_option maxHeartbeats 1000000
/-! the mathematics of k32: texts, rows -/
namespace Ev.K32
open PySem Ev
def sg (c : Nat) : D := .str ⟨#[c]⟩
theorem sA : (Str.ofString "a") = (⟨#[97]⟩ : Str) := by decide +kernel
theorem sK : (Str.ofString "k") = (⟨#[107]⟩ : Str) := by decide +kernel
theorem sAK : (Str.ofString "ak").cps.toList = [97, 107] := by decide +kernel
theorem sg_eq (c d : Nat) : ((⟨#[c]⟩ : Str) == (⟨#[d]⟩ : Str)) = (c == d) := by
  by_cases h : c = d
  · subst h; simp
  · have : (⟨#[c]⟩ : Str) ≠ ⟨#[d]⟩ := fun e => h (by cases e; rfl)
    rw [beq_eq_false_iff_ne.mpr this, beq_eq_false_iff_ne.mpr h]
theorem sg_ak (P : Prog) (h : Hd) (c : Nat) : evIn P h (sg c) (.str (Str.ofString "ak")) = some (c == 97 || c == 107) := by
  show some (!(Builtin.Str.occurrences (Str.ofString "ak") ⟨#[c]⟩ 0 (Str.ofString "ak").length 1).isEmpty) = _
  have := StrLaws.found_one (Str.ofString "ak") c
  rw [this, sAK]
  by_cases h1 : c = 97 <;> by_cases h2 : c = 107 <;> simp [h1, h2]
theorem join_cps (l : List Nat) : Txt.join (Str.ofString "") (l.map fun c => (⟨#[c]⟩ : Str)) = ⟨l.toArray⟩ := by
  show Builtin.Str.glued (PySem.Str.ofString "") _ = _
  rw [StrLaws.glued_eq_join]
  have z : (Str.ofString "") = (⟨#[]⟩ : Str) := by decide +kernel
  rw [z]
  induction l with
  | nil => rfl
  | cons a r ih =>
    cases r with
    | nil => rfl
    | cons b r =>
      simp only [List.map_cons, Str.join] at ih ⊢
      rw [ih]
      show (⟨(#[a] ++ #[]) ++ _⟩ : Str) = _
      congr 1
      apply Array.ext'
      simp
theorem map_sg (ts : List Nat) : dTexts (ts.map sg) = some (ts.map fun c => (⟨#[c]⟩ : Str)) := by
  induction ts with
  | nil => rfl
  | cons a r ih => simp [dTexts, sg, ih] at ih ⊢; try exact ih
theorem strs_mapM (h : Hd) (n : Nat) (ts : List Nat) : (ts.map sg).mapM (toP h (n + 1)) = some (ts.map fun c => PyData.str ⟨#[c]⟩) := by
  induction ts with
  | nil => rfl
  | cons a r ih => rw [List.map_cons, List.mapM_cons, ih]; rfl
theorem ints_mapM (h : Hd) (n : Nat) (ts : List Int) : (ts.map D.int).mapM (toP h (n + 1)) = some (ts.map PyData.int) := by
  induction ts with
  | nil => rfl
  | cons a r ih => rw [List.map_cons, List.mapM_cons, ih]; rfl
theorem toP_ref {h : Hd} {n c : Nat} {ds : List D} (e : h[c]? = some (.lst ds)) : toP h (n + 1) (.ref c) = (ds.mapM (toP h n)).map .list := by
  rw [toP]; simp only [e]
/-- a list of texts and an empty list -/
theorem eq_nil {h : Hd} {c d : Nat} {ts : List Nat} (h1 : h[c]? = some (.lst (ts.map sg))) (h2 : h[d]? = some (.lst [])) : evEq h (.ref c) (.ref d) = some ts.isEmpty := by
  have a : toP h DEPTH (.ref c) = some (.list (ts.map fun c => PyData.str ⟨#[c]⟩)) := by rw [show DEPTH = 11 + 1 from rfl, toP_ref h1, strs_mapM]; rfl
  have b : toP h DEPTH (.ref d) = some (.list []) := by rw [show DEPTH = 11 + 1 from rfl, toP_ref h2]; rfl
  simp only [evEq, a, b, Option.bind_some, Option.map_some]
  cases ts <;> simp [PyData.eqv, PyData.eqvAll]
/-- a row -/
def rowB (s : Str) : Bool := decide (s.length ≤ 200) && s.cps.toList.all fun c => c == 97 || c == 107
def NotStr (h : Hd) (d : D) : Prop := ∀ P, isOne P h d (.ty "str") = some false
theorem fn_is_row : L.P.fn "" "_law_is_row" = some f_law_is_row := by kernel_rfl
theorem fn_check : L.P.fn "" "check_row" = some f_check_row := by kernel_rfl
theorem is_row_no (n : Nat) {h : Hd} {d : D} (N : NotStr h d) : (cxN L.P FUEL (n + 1)).call "" "_law_is_row" [d] h = .ok (.bl false) h := by
  rw [call_succ fn_is_row]
  have e : ∀ P, evBI P .isinst [d, .ty "str"] h = .ok (.bl false) h := fun P => by simp [evBI, evIs, N P]
  simp [run, f_law_is_row, evSs, evS, evT, evTs, evE, evEs, e, bop]
theorem check_no (n : Nat) {h : Hd} {d : D} (N : NotStr h d) : (cxN L.P FUEL (n + 1)).call "" "check_row" [d] h = .exc "NoStep" [] h := by
  rw [call_succ fn_check]
  have e : ∀ P, evBI P .isinst [d, .ty "str"] h = .ok (.bl false) h := fun P => by simp [evBI, evIs, N P]
  have x : L.P.exc "NoStep" = some [] := by kernel_rfl
  simp [run, f_check_row, evSs, evS, evT, evTs, evE, evEs, e, bop, x]
theorem filt (l : List Nat) : (l.filter fun c => !(c == 97 || c == 107)).isEmpty = l.all fun c => c == 97 || c == 107 := by
  induction l with
  | nil => rfl
  | cons a r ih =>
    by_cases h : (a == 97 || a == 107) = true
    · simp only [List.filter_cons, h, Bool.not_true, if_false, List.all_cons, Bool.true_and, ih, Bool.false_eq_true]
    · simp only [List.filter_cons, h, Bool.not_false, if_true, List.all_cons, Bool.false_and, List.isEmpty_cons]
/-- the signs that are no deeds, by a comprehension -/
theorem lc_signs {C : Cx} {s : Str} {σ : Sl} {h : Hd} {t : B} (hσ : σ = [some (.str s), none] ∨ ∃ x, σ = [some (.str s), some x]) (hx : C.ex = none) (hf : C.fuel = FUEL) (hs : s.length ≤ 1000)
    (ht : ∀ c h, evT C t [some (.str s), some (sg c)] h = .ok (!(c == 97 || c == 107)) h) :
    evE C (.lc (.v 1) (.nm 1) (.val (.v 0)) (some t) [1]) σ h = .ok (.ref h.length) (h ++ [.lst ((s.cps.toList.filter fun c => !(c == 97 || c == 107)).map sg)]) := by
  have w : wipe σ [1] = [some (.str s), none] := by
    rcases hσ with rfl | ⟨x, rfl⟩ <;> rfl
  have hlen : s.cps.toList.length = s.length := Array.length_toList
  have key := lc_ind (tgt := evTg C (.nm 1)) (test := evIfs C (some t)) (elt := evE C (.v 1)) (own := [1]) (J := .fix (s.cps.toList.map sg)) (σ := σ) (n := s.length) (item := fun i => sg (s.cps.toList[i]?.getD 0))
    (fun h i => by
      simp only [It.next, List.getElem?_map]
      by_cases hi : i < s.length
      · rw [if_pos hi, List.getElem?_eq_getElem (by omega)]; rfl
      · rw [if_neg hi, List.getElem?_eq_none (by omega)]; rfl)
    (fun i acc k => k = h ∧ acc = ((s.cps.toList.take i).filter fun c => !(c == 97 || c == 107)).map sg)
    (fun i acc k hi g => by
      obtain ⟨rfl, rfl⟩ := g
      have hg : s.cps.toList[i]? = some (s.cps.toList[i]'(by omega)) := List.getElem?_eq_getElem (by omega)
      refine ⟨[some (.str s), some (sg (s.cps.toList[i]'(by omega)))], k, ?_, ?_⟩
      · rw [w, hg]; simp [evTg, hx]
      refine ⟨_, k, ht _ k, ?_⟩
      have tk : s.cps.toList.take (i + 1) = s.cps.toList.take i ++ [s.cps.toList[i]'(by omega)] := by rw [List.take_succ, hg]; rfl
      by_cases hc : (!((s.cps.toList[i]'(by omega)) == 97 || (s.cps.toList[i]'(by omega)) == 107)) = true
      · refine .inl ⟨hc, _, k, rfl, ?_, rfl, ?_⟩
        · have := List.length_filter_le (fun c => !(c == 97 || c == 107)) (s.cps.toList.take i)
          simp only [List.length_map, List.length_take, LIM] at this ⊢
          omega
        · rw [tk, List.filter_append, List.map_append, List.filter_cons, if_pos hc]; rfl
      · refine .inr ⟨by simpa using hc, rfl, ?_⟩
        rw [tk, List.filter_append, List.map_append, List.filter_cons, if_neg hc]; simp)
    FUEL 0 [] h (by unfold FUEL; omega) (by omega) ⟨rfl, by simp⟩
  obtain ⟨acc, h', e, e1, e2⟩ := key
  rw [e1, e2, List.take_of_length_le (by omega)] at e
  have e0 : evIt C (.val (.v 0)) σ h = .ok (.fix (s.cps.toList.map sg)) h := by
    rcases hσ with rfl | ⟨x, rfl⟩ <;> rfl
  rw [evE, e0, R.bind_ok, hf, e]
  rfl
theorem is_row_str (n : Nat) (h : Hd) {s : Str} (hs : s.length ≤ 1000) : ∃ l, (cxN L.P FUEL (n + 1)).call "" "_law_is_row" [.str s] h = .ok (.bl (rowB s)) (h ++ l) := by
  rw [call_succ fn_is_row]
  have e : ∀ P, evBI P .isinst [.str s, .ty "str"] h = .ok (.bl true) h := fun P => rfl
  have e2 : ∀ P, evBI P .len [.str s] h = .ok (.int s.length) h := fun P => if_pos (by rw [PySem.sizeLine_eq]; omega)
  by_cases hl : s.length ≤ 200
  · refine ⟨[.lst ((s.cps.toList.filter fun c => !(c == 97 || c == 107)).map sg), .lst []], ?_⟩
    have g1 : (h ++ [Cell.lst ((s.cps.toList.filter fun c => !(c == 97 || c == 107)).map sg), .lst []])[h.length]? = some (.lst ((s.cps.toList.filter fun c => !(c == 97 || c == 107)).map sg)) := by simp
    have g2 : (h ++ [Cell.lst ((s.cps.toList.filter fun c => !(c == 97 || c == 107)).map sg), .lst []])[h.length + 1]? = some (.lst []) := by simp
    have g := eq_nil g1 g2
    have lc := fun k => lc_signs (C := cxN L.P FUEL n) (h := k) (s := s) (σ := [some (.str s), none]) (t := .bool .And [(.cmp (.v 1) [.NotEq] [(.c (.str "a"))]), (.cmp (.v 1) [.NotEq] [(.c (.str "k"))])]) (.inl rfl) (cx_ex n) (cx_fuel n) hs (fun c k => by
      simp [evT, evTs, evE, evEs, chain1, sA, sK, sg, sg_eq, bop]
      by_cases h1 : c = 97 <;> by_cases h2 : c = 107 <;> simp [h1, h2])
    have hr : rowB s = (s.cps.toList.filter fun c => !(c == 97 || c == 107)).isEmpty := by rw [filt]; simp [rowB, hl]
    have hlt : ¬ (200 : Int) < (s.length : Int) := by omega
    have g' : ∀ P, evCmp P (h ++ [Cell.lst ((s.cps.toList.filter fun c => !(c == 97 || c == 107)).map sg), .lst []]) .Eq (.ref h.length) (.ref (h.length + 1)) = some (s.cps.toList.filter fun c => !(c == 97 || c == 107)).isEmpty := fun P => g
    rw [hr]
    generalize hX : (s.cps.toList.filter fun c => !(c == 97 || c == 107)) = X at *
    simp [run, f_law_is_row, evSs, evS, evT, evTs, evE, evEs, chain1, e, e2, bop, hlt, ↓lc, new, g']
  · refine ⟨[], ?_⟩
    have hr : rowB s = false := by simp [rowB, hl]
    have hlt : (200 : Int) < (s.length : Int) := by omega
    rw [hr, List.append_nil]
    simp [run, f_law_is_row, evSs, evS, evT, evTs, evE, evEs, chain1, e, e2, bop, hlt]
theorem check_str (n : Nat) (h : Hd) {s : Str} (hs : s.length ≤ 1000) : ∃ l, (cxN L.P FUEL (n + 1)).call "" "check_row" [.str s] h = if rowB s then .ok .non (h ++ l) else .exc "NoStep" [] (h ++ l) := by
  rw [call_succ fn_check]
  have e : ∀ P, evBI P .isinst [.str s, .ty "str"] h = .ok (.bl true) h := fun P => rfl
  have e2 : ∀ P, evBI P .len [.str s] h = .ok (.int s.length) h := fun P => if_pos (by rw [PySem.sizeLine_eq]; omega)
  have x : L.P.exc "NoStep" = some [] := by kernel_rfl
  have m : glob L.P "MOST_DEEDS" = .int 200 := by kernel_rfl
  by_cases hl : s.length ≤ 200
  · refine ⟨[.lst ((s.cps.toList.filter fun c => !(c == 97 || c == 107)).map sg), .lst []], ?_⟩
    have g1 : (h ++ [Cell.lst ((s.cps.toList.filter fun c => !(c == 97 || c == 107)).map sg), .lst []])[h.length]? = some (.lst ((s.cps.toList.filter fun c => !(c == 97 || c == 107)).map sg)) := by simp
    have g2 : (h ++ [Cell.lst ((s.cps.toList.filter fun c => !(c == 97 || c == 107)).map sg), .lst []])[h.length + 1]? = some (.lst []) := by simp
    have g := eq_nil g1 g2
    have lc := fun k => lc_signs (C := cxN L.P FUEL n) (h := k) (s := s) (σ := [some (.str s), none]) (t := .cmp (.v 1) [.NotIn] [(.c (.str "ak"))]) (.inl rfl) (cx_ex n) (cx_fuel n) hs (fun c k => by
      have q : evCmp L.P k .NotIn (sg c) (.str (Str.ofString "ak")) = some (!(c == 97 || c == 107)) := by rw [evCmp, sg_ak]; rfl
      simp only [evT, evE, chain1, List.getElem?_cons_succ, List.getElem?_cons_zero, R.bind_ok, cx_P, q, tBl, R.of_some])
    have hr : rowB s = (s.cps.toList.filter fun c => !(c == 97 || c == 107)).isEmpty := by rw [filt]; simp [rowB, hl]
    have hlt : ¬ (200 : Int) < (s.length : Int) := by omega
    have g' : ∀ P, evCmp P (h ++ [Cell.lst ((s.cps.toList.filter fun c => !(c == 97 || c == 107)).map sg), .lst []]) .NotEq (.ref h.length) (.ref (h.length + 1)) = some (!(s.cps.toList.filter fun c => !(c == 97 || c == 107)).isEmpty) := fun P => by rw [evCmp, g]; rfl
    rw [hr]
    generalize hX : (s.cps.toList.filter fun c => !(c == 97 || c == 107)) = X at *
    cases hb : X.isEmpty <;> rw [hb] at g' <;> simp [run, f_check_row, evSs, evS, evT, evTs, evE, evEs, chain1, e, e2, bop, hlt, ↓lc, new, g', m, x]
  · refine ⟨[], ?_⟩
    have hr : rowB s = false := by simp [rowB, hl]
    have hlt : (200 : Int) < (s.length : Int) := by omega
    rw [hr, List.append_nil]
    simp [run, f_check_row, evSs, evS, evT, evTs, evE, evEs, chain1, e, e2, bop, hlt, m, x]
end Ev.K32
end
section
set_option Elab.async false
set_option linter.all false
set_option maxRecDepth 100000
set_option maxHeartbeats 1000000
/-! the mathematics of k32: the walk along a row -/
namespace Ev.K32
open PySem Ev
def st (A B C : Int) (i : Nat) (s : Nat) (w : Int × List Int) : Int × List Int := if s = 97 then (if w.1 + A < C then w.1 + A else C, w.2) else if B ≤ w.1 then (w.1 - B, w.2) else (w.1, w.2 ++ [(i : Int)])
def W (l : List Nat) (A B C X : Int) : Nat → Int × List Int
  | 0 => (X, [])
  | i + 1 => st A B C i (l[i]?.getD 0) (W l A B C X i)
theorem W_ok {l : List Nat} {A B C X : Int} (p : Purse A B C X) : ∀ i, (0 ≤ (W l A B C X i).1 ∧ (W l A B C X i).1 ≤ C) ∧ (W l A B C X i).2.length ≤ i ∧ ∀ e ∈ (W l A B C X i).2, 0 ≤ e ∧ e < (i : Int) := by
  obtain ⟨a0, b0, c0, d0⟩ := p
  intro i
  induction i with
  | zero => exact ⟨by simpa [W] using d0, by simp [W], by simp [W]⟩
  | succ i ih =>
    obtain ⟨h1, h2, h3⟩ := ih
    have h3' : ∀ e ∈ (W l A B C X i).2, 0 ≤ e ∧ e < ((i + 1 : Nat) : Int) := fun e he => by have := h3 e he; omega
    simp only [W, st]
    split
    · refine ⟨?_, by simpa using Nat.le_succ_of_le h2, h3'⟩
      constructor
      · dsimp only; split <;> omega
      · dsimp only; split <;> omega
    · split
      · exact ⟨by simp only; omega, by simpa using Nat.le_succ_of_le h2, h3'⟩
      · refine ⟨h1, by simpa using h2, fun e he => ?_⟩
        rcases List.mem_append.mp he with h | h
        · exact h3' e h
        · rw [List.mem_singleton] at h; omega
theorem fn_put : L.P.fn "" "put_in" = some f_put_in := by kernel_rfl
theorem fn_walked : L.P.fn "" "walked" = some f_walked := by kernel_rfl
theorem fn_lwalked : L.P.fn "" "_law_walked" = some f_law_walked := by kernel_rfl
def pt (A B C X : Int) : D := .tup [.int A, .int B, .int C, .int X]
theorem put_run (n : Nat) (h : Hd) (A B C X x : Int) : (cxN L.P FUEL (n + 1)).call "" "put_in" [pt A B C X, .int x] h = .ok (.int (if x + A < C then x + A else C)) h := by
  rw [call_succ fn_put]
  have i0 : ∀ x y z w : D, L2.atI [x, y, z, w] 0 = some x := fun x y z w => rfl
  have i2 : ∀ x y z w : D, L2.atI [x, y, z, w] 2 = some z := fun x y z w => rfl
  simp [run, f_put_in, evSs, evS, evE, evEs, evBI, pt, i0, i2]
theorem set_last (h : Hd) (x y : Cell) : (h ++ [x]).set h.length y = h ++ [y] := by simp
/-- the signs with their places -/
theorem enm_next (s : Str) (h : Hd) (i : Nat) : (It.enm (.fix (s.cps.toList.map sg))).next h i = some (if i < s.length then some (.tup [.int i, sg (s.cps.toList[i]?.getD 0)]) else none) := by
  have hlen : s.cps.toList.length = s.length := Array.length_toList
  simp only [It.next, List.getElem?_map]
  by_cases hi : i < s.length
  · rw [if_pos hi, List.getElem?_eq_getElem (by omega)]; rfl
  · rw [if_neg hi, List.getElem?_eq_none (by omega)]; rfl
theorem walked_run (n : Nat) (h : Hd) {s : Str} {A B C X : Int} (p : Purse A B C X) (hs : s.length ≤ 1000) : (cxN L.P FUEL (n + 2)).call "" "walked" [pt A B C X, .str s] h = .ok (.tup [.int (W s.cps.toList A B C X s.length).1, .ref h.length]) (h ++ [.lst ((W s.cps.toList A B C X s.length).2.map .int)]) := by
  rw [call_succ fn_walked]
  have i0 : ∀ x y z w : D, L2.atI [x, y, z, w] 0 = some x := fun x y z w => rfl
  have i1 : ∀ x y z w : D, L2.atI [x, y, z, w] 1 = some y := fun x y z w => rfl
  have i2 : ∀ x y z w : D, L2.atI [x, y, z, w] 2 = some z := fun x y z w => rfl
  have i3 : ∀ x y z w : D, L2.atI [x, y, z, w] 3 = some w := fun x y z w => rfl
  have pr := put_run n
  have fr : ∀ body, body = [S.ife (.cmp (.v 5) [.Eq] [(.c (.str "a"))]) [(.asg (.nm 2) (.call "put_in" [(.v 0), (.v 2)]))] [(.ife (.cmp (.v 2) [.GtE] [(.ix (.v 0) (.c (.int 1)))]) [(.asg (.nm 2) (.bin .Sub (.v 2) (.ix (.v 0) (.c (.int 1)))))] [(.exp (.bm .append (.v 3) [(.v 4)]))])]] →
      ∃ a4 a5, evS (cxN L.P FUEL (n + 1)) (.for (.tup [(.nm 4), (.nm 5)]) (.enm (.v 1)) body) [some (pt A B C X), some (.str s), some (.int X), some (.ref h.length), none, none] (h ++ [.lst []]) =
        .nx [some (pt A B C X), some (.str s), some (.int (W s.cps.toList A B C X s.length).1), some (.ref h.length), a4, a5] (h ++ [.lst ((W s.cps.toList A B C X s.length).2.map .int)]) := by
    intro body hb
    have key := for_ind (tgt := evTg (cxN L.P FUEL (n + 1)) (.tup [(.nm 4), (.nm 5)])) (body := evSs (cxN L.P FUEL (n + 1)) body) (J := .enm (.fix (s.cps.toList.map sg))) (n := s.length) (item := fun i => .tup [.int i, sg (s.cps.toList[i]?.getD 0)])
      (fun i σ k => k = h ++ [.lst ((W s.cps.toList A B C X i).2.map .int)] ∧ ∃ a4 a5, σ = [some (pt A B C X), some (.str s), some (.int (W s.cps.toList A B C X i).1), some (.ref h.length), a4, a5])
      (fun i σ k g => enm_next s k i)
      (fun i σ k hi g => by
        obtain ⟨rfl, a4, a5, rfl⟩ := g
        have hw := W_ok (l := s.cps.toList) p i
        generalize hc : s.cps.toList[i]?.getD 0 = c
        refine ⟨[some (pt A B C X), some (.str s), some (.int (W s.cps.toList A B C X i).1), some (.ref h.length), some (.int i), some (sg c)], h ++ [.lst ((W s.cps.toList A B C X i).2.map .int)], by simp [evTg, evTgs], ?_⟩
        subst hb
        have hW : W s.cps.toList A B C X (i + 1) = st A B C i c (W s.cps.toList A B C X i) := by rw [W, hc]
        generalize W s.cps.toList A B C X i = w at *
        obtain ⟨x, u⟩ := w
        by_cases h1 : c = 97
        · refine ⟨[some (pt A B C X), some (.str s), some (.int (if x + A < C then x + A else C)), some (.ref h.length), some (.int i), some (sg c)], h ++ [.lst (u.map .int)], ?_, ?_⟩
          · subst h1
            have q : ∀ P k, evCmp P k .Eq (sg 97) (.str (Str.ofString "a")) = some true := fun P k => by rw [sA, sg, cEqS, sg_eq]; rfl
            simp [evSs, evS, evE, evEs, evT, chain1, evTg, q, pr]
          · rw [hW]; simp [st, h1]
        · have q : ∀ P k, evCmp P k .Eq (sg c) (.str (Str.ofString "a")) = some false := fun P k => by rw [sA, sg, cEqS, sg_eq]; simp [h1]
          by_cases h2 : B ≤ x
          · refine ⟨[some (pt A B C X), some (.str s), some (.int (x - B)), some (.ref h.length), some (.int i), some (sg c)], h ++ [.lst (u.map .int)], ?_, ?_⟩
            · simp [evSs, evS, evE, evEs, evT, chain1, evTg, q, pr, pt, i0, i1, i2, i3, h2]
            · rw [hW]; simp [st, h1, h2]
          · refine ⟨[some (pt A B C X), some (.str s), some (.int x), some (.ref h.length), some (.int i), some (sg c)], h ++ [.lst ((u ++ [(i : Int)]).map .int)], ?_, ?_⟩
            · have hu : u.length < LIM := by have := hw.2.1; simp only [LIM] at *; omega
              simp [evSs, evS, evE, evEs, evT, chain1, evTg, q, pr, pt, i0, i1, i2, i3, h2, rcv, evBM, hu]
            · rw [hW]; simp [st, h1, h2])
      FUEL 0 [some (pt A B C X), some (.str s), some (.int X), some (.ref h.length), none, none] (h ++ [.lst []]) (by unfold FUEL; omega) (by omega) ⟨rfl, none, none, rfl⟩
    obtain ⟨σ', h', e, e1, a4, a5, e2⟩ := key
    rw [e1, e2] at e
    refine ⟨a4, a5, ?_⟩
    have ei : evIt (cxN L.P FUEL (n + 1)) (.enm (.v 1)) [some (pt A B C X), some (.str s), some (.int X), some (.ref h.length), none, none] (h ++ [.lst []]) = .ok (.enm (.fix (s.cps.toList.map sg))) (h ++ [.lst []]) := rfl
    rw [evS, ei, R.st_ok, cx_fuel, e]
  obtain ⟨a4, a5, fr⟩ := fr _ rfl
  simp only [run, f_walked, evSs]
  have s1 : evS (cxN L.P FUEL (n + 1)) (.asg (.nm 2) (.ix (.v 0) (.c (.int 3)))) [some (pt A B C X), some (.str s), none, none, none, none] h = .nx [some (pt A B C X), some (.str s), some (.int X), none, none, none] h := by simp [evS, evE, evTg, pt, i3]
  have s2 : evS (cxN L.P FUEL (n + 1)) (.asg (.nm 3) (.lst [])) [some (pt A B C X), some (.str s), some (.int X), none, none, none] h = .nx [some (pt A B C X), some (.str s), some (.int X), some (.ref h.length), none, none] (h ++ [.lst []]) := by simp [evS, evE, evEs, evTg, new]
  simp only [List.length_cons, List.length_nil, List.map_cons, List.map_nil, List.replicate, List.cons_append, List.nil_append, s1, s2, fr]
  simp [evS, evE, evEs]
end Ev.K32
end
section
set_option Elab.async false
set_option linter.all false
set_option maxRecDepth 100000
set_option maxHeartbeats 1000000
/-! the mathematics of k32: the law's walk, the answers -/
namespace Ev.K32
open PySem Ev
def paid (s : Str) (A B C X : Int) : Int := Txt.count s (Str.ofString "k") - ((W s.cps.toList A B C X s.length).2.length : Nat)
theorem lwalked_run (n : Nat) (h : Hd) {s : Str} {A B C X : Int} (p : Purse A B C X) (hs : s.length ≤ 1000) : (cxN L.P FUEL (n + 2)).call "" "_law_walked" [pt A B C X, .str s] h = .ok (.ref (h.length + 1)) (h ++ [.lst ((W s.cps.toList A B C X s.length).2.map .int), .lst [.int (W s.cps.toList A B C X s.length).1, .int (paid s A B C X), .ref h.length]]) := by
  rw [call_succ fn_lwalked]
  have i0 : ∀ x y z w : D, L2.atI [x, y, z, w] 0 = some x := fun x y z w => rfl
  have i1 : ∀ x y z w : D, L2.atI [x, y, z, w] 1 = some y := fun x y z w => rfl
  have i2 : ∀ x y z w : D, L2.atI [x, y, z, w] 2 = some z := fun x y z w => rfl
  have i3 : ∀ x y z w : D, L2.atI [x, y, z, w] 3 = some w := fun x y z w => rfl
  have fr : ∀ body, body = [S.ife (.cmp (.v 5) [.Eq] [(.c (.str "a"))]) [(.asg (.nm 2) (.bin .Add (.v 2) (.ix (.v 0) (.c (.int 0))))), (.ife (.cmp (.v 2) [.Gt] [(.ix (.v 0) (.c (.int 2)))]) [(.asg (.nm 2) (.ix (.v 0) (.c (.int 2))))] [])] [(.ife (.cmp (.v 2) [.Lt] [(.ix (.v 0) (.c (.int 1)))]) [(.exp (.bm .append (.v 3) [(.v 4)]))] [(.asg (.nm 2) (.bin .Sub (.v 2) (.ix (.v 0) (.c (.int 1)))))])]] →
      ∃ a4 a5, evS (cxN L.P FUEL (n + 1)) (.for (.tup [(.nm 4), (.nm 5)]) (.enm (.v 1)) body) [some (pt A B C X), some (.str s), some (.int X), some (.ref h.length), none, none] (h ++ [.lst []]) =
        .nx [some (pt A B C X), some (.str s), some (.int (W s.cps.toList A B C X s.length).1), some (.ref h.length), a4, a5] (h ++ [.lst ((W s.cps.toList A B C X s.length).2.map .int)]) := by
    intro body hb
    have key := for_ind (tgt := evTg (cxN L.P FUEL (n + 1)) (.tup [(.nm 4), (.nm 5)])) (body := evSs (cxN L.P FUEL (n + 1)) body) (J := .enm (.fix (s.cps.toList.map sg))) (n := s.length) (item := fun i => .tup [.int i, sg (s.cps.toList[i]?.getD 0)])
      (fun i σ k => k = h ++ [.lst ((W s.cps.toList A B C X i).2.map .int)] ∧ ∃ a4 a5, σ = [some (pt A B C X), some (.str s), some (.int (W s.cps.toList A B C X i).1), some (.ref h.length), a4, a5])
      (fun i σ k g => enm_next s k i)
      (fun i σ k hi g => by
        obtain ⟨rfl, a4, a5, rfl⟩ := g
        have hw := W_ok (l := s.cps.toList) p i
        generalize hc : s.cps.toList[i]?.getD 0 = c
        refine ⟨[some (pt A B C X), some (.str s), some (.int (W s.cps.toList A B C X i).1), some (.ref h.length), some (.int i), some (sg c)], h ++ [.lst ((W s.cps.toList A B C X i).2.map .int)], by simp [evTg, evTgs], ?_⟩
        subst hb
        have hW : W s.cps.toList A B C X (i + 1) = st A B C i c (W s.cps.toList A B C X i) := by rw [W, hc]
        generalize W s.cps.toList A B C X i = w at *
        obtain ⟨x, u⟩ := w
        by_cases h1 : c = 97
        · refine ⟨[some (pt A B C X), some (.str s), some (.int (if x + A < C then x + A else C)), some (.ref h.length), some (.int i), some (sg c)], h ++ [.lst (u.map .int)], ?_, ?_⟩
          · subst h1
            have q : ∀ P k, evCmp P k .Eq (sg 97) (.str (Str.ofString "a")) = some true := fun P k => by rw [sA, sg, cEqS, sg_eq]; rfl
            by_cases h3 : C < x + A
            · have h4 : ¬ (x + A < C) := by omega
              simp [evSs, evS, evE, evEs, evT, chain1, evTg, q, pt, i0, i1, i2, i3, h3, h4]
            · by_cases h4 : x + A < C
              · simp [evSs, evS, evE, evEs, evT, chain1, evTg, q, pt, i0, i1, i2, i3, h3, h4]
              · have h5 : x + A = C := by omega
                simp [evSs, evS, evE, evEs, evT, chain1, evTg, q, pt, i0, i1, i2, i3, h3, h4, h5]
          · rw [hW]; simp [st, h1]
        · have q : ∀ P k, evCmp P k .Eq (sg c) (.str (Str.ofString "a")) = some false := fun P k => by rw [sA, sg, cEqS, sg_eq]; simp [h1]
          by_cases h2 : B ≤ x
          · have h2' : ¬ x < B := by omega
            refine ⟨[some (pt A B C X), some (.str s), some (.int (x - B)), some (.ref h.length), some (.int i), some (sg c)], h ++ [.lst (u.map .int)], ?_, ?_⟩
            · simp [evSs, evS, evE, evEs, evT, chain1, evTg, q, pt, i0, i1, i2, i3, h2, h2']
            · rw [hW]; simp [st, h1, h2]
          · have h2' : x < B := by omega
            refine ⟨[some (pt A B C X), some (.str s), some (.int x), some (.ref h.length), some (.int i), some (sg c)], h ++ [.lst ((u ++ [(i : Int)]).map .int)], ?_, ?_⟩
            · have hu : u.length < LIM := by have := hw.2.1; simp only [LIM] at *; omega
              simp [evSs, evS, evE, evEs, evT, chain1, evTg, q, pt, i0, i1, i2, i3, h2, h2', rcv, evBM, hu]
            · rw [hW]; simp [st, h1, h2])
      FUEL 0 [some (pt A B C X), some (.str s), some (.int X), some (.ref h.length), none, none] (h ++ [.lst []]) (by unfold FUEL; omega) (by omega) ⟨rfl, none, none, rfl⟩
    obtain ⟨σ', h', e, e1, a4, a5, e2⟩ := key
    rw [e1, e2] at e
    refine ⟨a4, a5, ?_⟩
    have ei : evIt (cxN L.P FUEL (n + 1)) (.enm (.v 1)) [some (pt A B C X), some (.str s), some (.int X), some (.ref h.length), none, none] (h ++ [.lst []]) = .ok (.enm (.fix (s.cps.toList.map sg))) (h ++ [.lst []]) := rfl
    rw [evS, ei, R.st_ok, cx_fuel, e]
  obtain ⟨a4, a5, fr⟩ := fr _ rfl
  simp only [run, f_law_walked, evSs]
  have s1 : evS (cxN L.P FUEL (n + 1)) (.asg (.tup [(.nm 2), (.nm 3)]) (.tup [(.ix (.v 0) (.c (.int 3))), (.lst [])])) [some (pt A B C X), some (.str s), none, none, none, none] h = .nx [some (pt A B C X), some (.str s), some (.int X), some (.ref h.length), none, none] (h ++ [.lst []]) := by simp [evS, evE, evEs, evTg, evTgs, pt, i3, new]
  simp only [List.length_cons, List.length_nil, List.map_cons, List.map_nil, List.replicate, List.cons_append, List.nil_append, s1, fr]
  have bl : ∀ P, evBI P .len [.ref h.length] (h ++ [.lst ((W s.cps.toList A B C X s.length).2.map .int)]) = .ok (.int ((W s.cps.toList A B C X s.length).2.length : Nat)) (h ++ [.lst ((W s.cps.toList A B C X s.length).2.map .int)]) := fun P => by simp [evBI, items]
  simp [evS, evE, evEs, rcv, evBM, bl, new, paid]
theorem lenL {P : Prog} {h : Hd} {c : Nat} {ys : List D} (e : h[c]? = some (.lst ys)) : evBI P .len [.ref c] h = .ok (.int ys.length) h := by simp [evBI, items, e]
theorem fn_coins : L.P.fn "" "coins_behind" = some f_coins_behind := by kernel_rfl
theorem fn_paid : L.P.fn "" "paid_in" = some f_paid_in := by kernel_rfl
theorem fn_unpaid : L.P.fn "" "unpaid_at" = some f_unpaid_at := by kernel_rfl
theorem fn_told : L.P.fn "" "_law_told" = some f_law_told := by kernel_rfl
theorem fn_refusal : L.P.fn "" "_law_refusal" = some f_law_refusal := by kernel_rfl
def way : Nat → Str
  | 0 => "coins_behind"
  | 1 => "paid_in"
  | _ => "unpaid_at"
/-- an error of check_row goes through -/
theorem way_exc (n i : Nat) {h h1 : Hd} {A B C X : Int} {d : D} (e : (cxN L.P FUEL (n + 1)).call "" "check_row" [d] h = .exc "NoStep" [] h1) : (cxN L.P FUEL (n + 2)).call "" (way i) [pt A B C X, d] h = .exc "NoStep" [] h1 := by
  rcases i with _ | _ | i
  · show (cxN L.P FUEL (n + 2)).call "" "coins_behind" [pt A B C X, d] h = _
    rw [call_succ fn_coins]
    simp [run, f_coins_behind, evSs, evS, evE, evEs, e]
  · show (cxN L.P FUEL (n + 2)).call "" "paid_in" [pt A B C X, d] h = _
    rw [call_succ fn_paid]
    simp [run, f_paid_in, evSs, evS, evE, evEs, e]
  · show (cxN L.P FUEL (n + 2)).call "" "unpaid_at" [pt A B C X, d] h = _
    rw [call_succ fn_unpaid]
    simp [run, f_unpaid_at, evSs, evS, evE, evEs, e]
/-- the answers on a row -/
theorem ways_ok (n : Nat) (h : Hd) {A B C X : Int} {s : Str} (p : Purse A B C X) (hs : s.length ≤ 1000) (hr : rowB s = true) :
    (∃ l, (cxN L.P FUEL (n + 3)).call "" "coins_behind" [pt A B C X, .str s] h = .ok (.int (W s.cps.toList A B C X s.length).1) (h ++ l)) ∧
    (∃ l, (cxN L.P FUEL (n + 3)).call "" "paid_in" [pt A B C X, .str s] h = .ok (.int (paid s A B C X)) (h ++ l)) ∧
    (∃ l, (cxN L.P FUEL (n + 3)).call "" "unpaid_at" [pt A B C X, .str s] h = .ok (.ref (h ++ l).length) (h ++ l ++ [.lst ((W s.cps.toList A B C X s.length).2.map .int)])) := by
  obtain ⟨l, e⟩ := check_str (n + 1) h hs
  rw [hr, if_pos rfl] at e
  have w := fun k => walked_run n k (s := s) p hs
  have j0 : ∀ x y : D, L2.atI [x, y] 0 = some x := fun x y => rfl
  have j1 : ∀ x y : D, L2.atI [x, y] 1 = some y := fun x y => rfl
  refine ⟨⟨l ++ [.lst ((W s.cps.toList A B C X s.length).2.map .int)], ?_⟩, ⟨l ++ [.lst ((W s.cps.toList A B C X s.length).2.map .int)], ?_⟩, ⟨l, ?_⟩⟩
  · rw [call_succ fn_coins]
    simp [run, f_coins_behind, evSs, evS, evE, evEs, e, w, j0]
  · rw [call_succ fn_paid]
    have bl : ∀ P, evBI P .len [.ref (h.length + l.length)] (h ++ (l ++ [.lst ((W s.cps.toList A B C X s.length).2.map .int)])) = .ok (.int ((W s.cps.toList A B C X s.length).2.length : Nat)) (h ++ (l ++ [.lst ((W s.cps.toList A B C X s.length).2.map .int)])) := fun P => by rw [lenL (by rw [← List.append_assoc, ← List.length_append]; exact List.getElem?_concat_length), List.length_map]
    simp [run, f_paid_in, evSs, evS, evE, evEs, e, w, j1, rcv, evBM, bl, paid]
  · rw [call_succ fn_unpaid]
    simp [run, f_unpaid_at, evSs, evS, evE, evEs, e, w, j1]
theorem eLst {C : Cx} {xs : List E} {σ : Sl} {h : Hd} : evE C (.lst xs) σ h = (evEs C xs σ h).bind fun ds h1 => if ds.length ≤ 1000 then new (.lst ds) h1 else .bad := rfl
theorem eTup {C : Cx} {xs : List E} {σ : Sl} {h : Hd} : evE C (.tup xs) σ h = (evEs C xs σ h).bind fun ds h1 => if ds.length ≤ 1000 then .ok (.tup ds) h1 else .bad := rfl
theorem eV {C : Cx} {i : Nat} {σ : Sl} {h : Hd} : evE C (.v i) σ h = match σ[i]? with
    | some (some d) => .ok d h
    | _ => .bad := rfl
theorem eC {C : Cx} {d : D} {σ : Sl} {h : Hd} : evE C (.c d) σ h = .ok d h := rfl
theorem eBin {C : Cx} {o : Operator} {a b : E} {σ : Sl} {h : Hd} : evE C (.bin o a b) σ h = (evE C a σ h).bind fun x h1 => (evE C b σ h1).bind fun y h2 => evBin o x y h2 := rfl
theorem eIx {C : Cx} {a b : E} {σ : Sl} {h : Hd} : evE C (.ix a b) σ h = (evE C a σ h).bind fun x h1 => (evE C b σ h1).bind fun y h2 => .of (evIx C.P x y h2) h2 := rfl
theorem eBm {C : Cx} {m : BM} {a : E} {xs : List E} {σ : Sl} {h : Hd} : evE C (.bm m a xs) σ h = (evE C a σ h).bind fun x h1 => if rcv m x h1 then (evEs C xs σ h1).bind fun ds h2 => evBM m x ds h2 else .bad := rfl
def cE (n : Nat) : Cx := { cxN L.P FUEL n with ex := some ("NoStep", []) }
theorem isE_gl (n : Nat) {x : Str} {b : Bool} (e : isExc L.P "NoStep" (glob L.P x) = some b) (σ : Sl) (k : Hd) : evE (cE n) (.isE (.gl x)) σ k = .ok (.bl b) k := by
  have p : (cE n).P = L.P := cx_P n
  simp only [evE, cE, cx_P, R.bind_ok, e]; rfl
theorem refusal_run (n : Nat) (h : Hd) : ∃ l, (cxN L.P FUEL (n + 1)).callE "_law_refusal" "NoStep" [] h = .ok (.tup [.str "step"]) (h ++ l) := by
  have q : (cxN L.P FUEL (n + 1)).callE "_law_refusal" "NoStep" [] h = runE (cxN L.P FUEL n) f_law_refusal "NoStep" [] h := by
    show (match L.P.fn "" "_law_refusal" with | some f => runE (cxN L.P FUEL n) f "NoStep" [] h | none => .bad) = _
    rw [fn_refusal]
  rw [q]
  have x : (L.P.exc "NoStep").isSome = true := by kernel_rfl
  have x' : ∀ (a b : D), (if f_law_refusal.np = 1 ∧ (L.P.exc "NoStep").isSome = true then a else b) = a := fun a b => if_pos ⟨rfl, x⟩
  have g1 := isE_gl n (x := "NoBeat") (b := false) (by kernel_rfl)
  have g2 := isE_gl n (x := "NoStep") (b := true) (by kernel_rfl)
  have g3 := isE_gl n (x := "NoNumber") (b := false) (by kernel_rfl)
  have g4 := isE_gl n (x := "NoLine") (b := false) (by kernel_rfl)
  have g5 := isE_gl n (x := "NoStory") (b := false) (by kernel_rfl)
  have g6 := isE_gl n (x := "NoText") (b := false) (by kernel_rfl)
  have g7 := isE_gl n (x := "TooGreat") (b := false) (by kernel_rfl)
  have v1 : ∀ σ k, evE (cE n) (.isE (.c (.ty "ValueError"))) σ k = .ok (.bl true) k := fun σ k => rfl
  have v2 : ∀ σ k, evE (cE n) (.isE (.tup [(.c (.ty "LookupError")), (.c (.ty "TypeError")), (.c (.ty "ArithmeticError")), (.c (.ty "RuntimeError"))])) σ k = .ok (.bl false) k := fun σ k => rfl
  let b4 : Cell := .lst [.bl false, .bl true, .bl false, .bl false]
  let b3 : Cell := .lst [.bl false, .bl false, .bl false]
  let b7 : Cell := .lst [.bl false, .bl true, .bl false, .bl false, .bl false, .bl false, .bl false]
  let wd : Cell := .lst [(.str "beat"), (.str "step"), (.str "number"), (.str "line"), (.str "story"), (.str "text"), (.str "great")]
  refine ⟨[b4, b3, b7, wd], ?_⟩
  have cx : (cE n).ex.isSome = true := rfl
  have s1 : evS (cE n) (.asg (.nm 1) (.lst [(.isE (.gl "NoBeat")), (.isE (.gl "NoStep")), (.isE (.gl "NoNumber")), (.isE (.gl "NoLine"))])) [none, none, none] h = .nx [none, some (.ref h.length), none] (h ++ [b4]) := by
    simp only [evS, eLst, evEs, g1, g2, g3, g4, R.bind_ok]; rfl
  have s2 : evS (cE n) (.asg (.nm 1) (.bin .Add (.v 1) (.lst [(.isE (.gl "NoStory")), (.isE (.gl "NoText")), (.isE (.gl "TooGreat"))]))) [none, some (.ref h.length), none] (h ++ [b4]) = .nx [none, some (.ref (h.length + 2)), none] (h ++ [b4, b3, b7]) := by
    have ad : evBin .Add (.ref h.length) (.ref (h.length + 1)) (h ++ [b4, b3]) = .ok (.ref (h.length + 2)) (h ++ [b4, b3, b7]) := by
      rw [bAddL (xs := [.bl false, .bl true, .bl false, .bl false]) (ys := [.bl false, .bl false, .bl false]) (by simp [b4]) (by simp [b3]) (by decide)]
      simp [b7]
    have l1 : evE (cE n) (.lst [(.isE (.gl "NoStory")), (.isE (.gl "NoText")), (.isE (.gl "TooGreat"))]) [none, some (.ref h.length), none] (h ++ [b4]) = .ok (.ref (h.length + 1)) (h ++ [b4, b3]) := by
      simp [eLst, evEs, g5, g6, g7, R.bind_ok, new, b3]
    simp only [evS, eBin, eV, List.getElem?_cons_succ, List.getElem?_cons_zero, R.bind_ok, l1, ad, R.st_ok]
    rfl
  have s3 : evS (cE n) (.ife (.bool .Or [(.nt (.val (.isE (.c (.ty "ValueError"))))), (.val (.isE (.tup [(.c (.ty "LookupError")), (.c (.ty "TypeError")), (.c (.ty "ArithmeticError")), (.c (.ty "RuntimeError"))])))]) [(.ret (some (.tup [(.c (.str "other"))])))] []) [none, some (.ref (h.length + 2)), none] (h ++ [b4, b3, b7]) = .nx [none, some (.ref (h.length + 2)), none] (h ++ [b4, b3, b7]) := by
    simp only [evS, evT, evTs, v1, v2, R.bind_ok, tBl, R.of_some]; rfl
  have h7 : (h ++ [b4, b3, b7])[h.length + 2]? = some b7 := by simp
  have cnt : evBM .count (.ref (h.length + 2)) [.bl true] (h ++ [b4, b3, b7]) = .ok (.int 1) (h ++ [b4, b3, b7]) := by
    simp only [evBM, h7, b7]; rfl
  have r1 : rcv .count (.ref (h.length + 2)) (h ++ [b4, b3, b7]) = true := by simp only [rcv, h7, b7]
  have s4 : evS (cE n) (.ife (.cmp (.bm .count (.v 1) [(.c (.bl true))]) [.NotEq] [(.c (.int 1))]) [(.ret (some (.tup [(.c (.str "other"))])))] []) [none, some (.ref (h.length + 2)), none] (h ++ [b4, b3, b7]) = .nx [none, some (.ref (h.length + 2)), none] (h ++ [b4, b3, b7]) := by
    simp only [evS, evT, eBm, eV, eC, evEs, List.getElem?_cons_succ, List.getElem?_cons_zero, R.bind_ok, r1, if_true, cnt, chain1, cNeI]; rfl
  have h7' : (h ++ [b4, b3, b7, wd])[h.length + 2]? = some b7 := by simp
  have h8 : (h ++ [b4, b3, b7, wd])[h.length + 3]? = some wd := by simp
  have ix : evBM .index (.ref (h.length + 2)) [.bl true] (h ++ [b4, b3, b7, wd]) = .ok (.int 1) (h ++ [b4, b3, b7, wd]) := by
    simp only [evBM, h7', b7]; rfl
  have r2 : rcv .index (.ref (h.length + 2)) (h ++ [b4, b3, b7, wd]) = true := by simp only [rcv, h7', b7]
  have l2 : evE (cE n) (.lst [(.c (.str "beat")), (.c (.str "step")), (.c (.str "number")), (.c (.str "line")), (.c (.str "story")), (.c (.str "text")), (.c (.str "great"))]) [none, some (.ref (h.length + 2)), none] (h ++ [b4, b3, b7]) = .ok (.ref (h.length + 3)) (h ++ [b4, b3, b7, wd]) := by
    simp [eLst, evEs, eC, new, wd]
  have at_ : evIx (cE n).P (.ref (h.length + 3)) (.int 1) (h ++ [b4, b3, b7, wd]) = some (.str "step") := by rw [ixL h8]; rfl
  have s5 : evS (cE n) (.asg (.nm 2) (.ix (.lst [(.c (.str "beat")), (.c (.str "step")), (.c (.str "number")), (.c (.str "line")), (.c (.str "story")), (.c (.str "text")), (.c (.str "great"))]) (.bm .index (.v 1) [(.c (.bl true))]))) [none, some (.ref (h.length + 2)), none] (h ++ [b4, b3, b7]) = .nx [none, some (.ref (h.length + 2)), some (.str "step")] (h ++ [b4, b3, b7, wd]) := by
    simp only [evS, eIx, l2, R.bind_ok, eBm, eV, eC, evEs, List.getElem?_cons_succ, List.getElem?_cons_zero, r2, if_true, ix, at_]; rfl
  have w1 : ((Str.ofString "step") == (Str.ofString "great")) = false := by decide +kernel
  have w2 : ((Str.ofString "step") == (Str.ofString "story")) = false := by decide +kernel
  have w3 : ((Str.ofString "step") == (Str.ofString "text")) = false := by decide +kernel
  have run' : runE (cxN L.P FUEL n) f_law_refusal "NoStep" [] h = match evSs (cE n) f_law_refusal.body [none, none, none] h with
    | .nx _ h1 => .ok .non h1
    | .ret d h1 => .ok d h1
    | .exc c fs h1 => .exc c fs h1
    | .bad => .bad := by
    unfold runE
    exact if_pos ⟨rfl, by rw [cx_P]; exact x⟩
  rw [run']
  simp only [f_law_refusal, evSs, s1, s2, s3, s4, s5]
  simp [evSs, evS, evT, evE, evEs, chain1, w1, w2, w3]
theorem told_exc (n i : Nat) (hi : i < 3) {h h1 : Hd} {A B C X : Int} {d : D} (e : (cxN L.P FUEL (n + 1)).call "" "check_row" [d] (h ++ [.lst [.glob "coins_behind", .glob "paid_in", .glob "unpaid_at"]]) = .exc "NoStep" [] h1) : ∃ l, (cxN L.P FUEL (n + 3)).call "" "_law_told" [.int i, pt A B C X, d] h = .ok (.tup [.str "step"]) (h1 ++ l) := by
  rw [call_succ fn_told]
  obtain ⟨l, er⟩ := refusal_run (n + 1) h1
  refine ⟨l, ?_⟩
  have w := way_exc n i (A := A) (B := B) (C := C) (X := X) e
  have x : (L.P.exc "NoStep").isSome = true := by kernel_rfl
  have y : L.P.sub "NoStep" "KnockError" = true := by kernel_rfl
  have a1 : glob L.P "coins_behind" = .glob "coins_behind" := by kernel_rfl
  have a2 : glob L.P "paid_in" = .glob "paid_in" := by kernel_rfl
  have a3 : glob L.P "unpaid_at" = .glob "unpaid_at" := by kernel_rfl
  have b1 : ((L.P.fn "" (way i)).isSome && !L.P.hot (way i)) = true := by
    rcases i with _ | _ | _ | i
    · kernel_rfl
    · kernel_rfl
    · kernel_rfl
    · omega
  have at_ : L2.atI [D.glob "coins_behind", .glob "paid_in", .glob "unpaid_at"] (i : Int) = some (.glob (way i)) := by
    rcases i with _ | _ | _ | i
    · rfl
    · rfl
    · rfl
    · omega
  have hx : (h ++ [Cell.lst [D.glob "coins_behind", .glob "paid_in", .glob "unpaid_at"]])[h.length]? = some (.lst [.glob "coins_behind", .glob "paid_in", .glob "unpaid_at"]) := by simp
  have ev : evE (cxN L.P FUEL (n + 2)) (.callv (.ix (.lst [(.gl "coins_behind"), (.gl "paid_in"), (.gl "unpaid_at")]) (.v 0)) [(.v 1), (.v 2)]) [some (.int i), some (pt A B C X), some d, none] h = .exc "NoStep" [] h1 := by
    have z : ∀ P, evIx P (.ref h.length) (.int i) (h ++ [Cell.lst [D.glob "coins_behind", .glob "paid_in", .glob "unpaid_at"]]) = some (.glob (way i)) := fun P => by rw [ixL hx, at_]
    simp [evE, evEs, a1, a2, a3, new, z]
    simp only [Bool.and_eq_true, Bool.not_eq_true', Option.isSome_iff_exists] at b1
    obtain ⟨⟨f, hf⟩, b2⟩ := b1
    simp [hf, b2, w]
  have s : evS (cxN L.P FUEL (n + 2)) (.tryRet (.callv (.ix (.lst [(.gl "coins_behind"), (.gl "paid_in"), (.gl "unpaid_at")]) (.v 0)) [(.v 1), (.v 2)]) "KnockError" 3 "_law_refusal") [some (.int i), some (pt A B C X), some d, none] h = .ret (.tup [.str "step"]) (h1 ++ l) := by
    rw [evS, ev]
    simp only [cx_P, x, y, if_true, er]
  simp only [run, f_law_told, evSs, List.map_cons, List.map_nil, List.length_cons, List.length_nil, List.cons_append, List.nil_append, List.replicate, s]
  rfl
/-- the answer when the call gives a value -/
theorem told_ok (n i : Nat) (hi : i < 3) {h h1 : Hd} {A B C X : Int} {d v : D} (e : (cxN L.P FUEL (n + 2)).call "" (way i) [pt A B C X, d] (h ++ [.lst [.glob "coins_behind", .glob "paid_in", .glob "unpaid_at"]]) = .ok v h1) : (cxN L.P FUEL (n + 3)).call "" "_law_told" [.int i, pt A B C X, d] h = .ok v h1 := by
  rw [call_succ fn_told]
  have a1 : glob L.P "coins_behind" = .glob "coins_behind" := by kernel_rfl
  have a2 : glob L.P "paid_in" = .glob "paid_in" := by kernel_rfl
  have a3 : glob L.P "unpaid_at" = .glob "unpaid_at" := by kernel_rfl
  have b1 : ((L.P.fn "" (way i)).isSome && !L.P.hot (way i)) = true := by
    rcases i with _ | _ | _ | i
    · kernel_rfl
    · kernel_rfl
    · kernel_rfl
    · omega
  have at_ : L2.atI [D.glob "coins_behind", .glob "paid_in", .glob "unpaid_at"] (i : Int) = some (.glob (way i)) := by
    rcases i with _ | _ | _ | i
    · rfl
    · rfl
    · rfl
    · omega
  have hx : (h ++ [Cell.lst [D.glob "coins_behind", .glob "paid_in", .glob "unpaid_at"]])[h.length]? = some (.lst [.glob "coins_behind", .glob "paid_in", .glob "unpaid_at"]) := by simp
  have ev : evE (cxN L.P FUEL (n + 2)) (.callv (.ix (.lst [(.gl "coins_behind"), (.gl "paid_in"), (.gl "unpaid_at")]) (.v 0)) [(.v 1), (.v 2)]) [some (.int i), some (pt A B C X), some d, none] h = .ok v h1 := by
    have z : ∀ P, evIx P (.ref h.length) (.int i) (h ++ [Cell.lst [D.glob "coins_behind", .glob "paid_in", .glob "unpaid_at"]]) = some (.glob (way i)) := fun P => by rw [ixL hx, at_]
    simp [evE, evEs, a1, a2, a3, new, z]
    simp only [Bool.and_eq_true, Bool.not_eq_true', Option.isSome_iff_exists] at b1
    obtain ⟨⟨f, hf⟩, b2⟩ := b1
    simp [hf, b2, e]
  have s : evS (cxN L.P FUEL (n + 2)) (.tryRet (.callv (.ix (.lst [(.gl "coins_behind"), (.gl "paid_in"), (.gl "unpaid_at")]) (.v 0)) [(.v 1), (.v 2)]) "KnockError" 3 "_law_refusal") [some (.int i), some (pt A B C X), some d, none] h = .ret v h1 := by
    rw [evS, ev]
  simp only [run, f_law_told, evSs, List.map_cons, List.map_nil, List.length_cons, List.length_nil, List.cons_append, List.nil_append, List.replicate, s]
  rfl
end Ev.K32
end
section
set_option Elab.async false
set_option linter.all false
set_option maxRecDepth 100000
set_option maxHeartbeats 1000000
/-! the mathematics of k32: what is drawn -/
namespace Ev.K32
open PySem Ev
/-- what is asked about -/
def Thing (p : Nat) (h : Hd) (v : D) : Prop := (∃ s, v = .str s ∧ s.length ≤ 1000) ∨ (∃ c x, v = .ref c ∧ h[c]? = some x ∧ c ≠ p ∧ ((∃ xs, x = .lst xs) ∨ ∃ kv, x = .dct kv)) ∨ (∀ k P, isOne P k v (.ty "str") = some false)
theorem Thing.keep {p : Nat} {h h' : Hd} {v : D} (k : Kp p h h') (t : Thing p h v) : Thing p h' v := by
  rcases t with a | ⟨c, x, e1, e2, e3, e4⟩ | a
  · exact .inl a
  · exact .inr (.inl ⟨c, x, e1, k.keep c x e3 e2, e3, e4⟩)
  · exact .inr (.inr a)
theorem cut_len {α : Type} (xs : List α) (lo hi : Option Int) : (cut xs lo hi).length ≤ xs.length := by
  unfold cut
  rw [List.length_take, List.length_drop]
  omega
theorem ak_ix (P : Prog) (b : Bool) (k : Hd) : ∃ c, evIx P (.str "ak") (.int (if b then 1 else 0)) k = some (sg c) := by
  have e : ∀ i, evIx P (.str "ak") (.int i) k = (if (Str.ofString "ak").length ≤ sizeLine then (L2.atI (Str.ofString "ak").cps.toList i).map fun c => .str ⟨#[c]⟩ else none) := fun _ => rfl
  have z : (Str.ofString "ak").length ≤ sizeLine := by decide +kernel
  rw [e, if_pos z, sAK]
  cases b
  · exact ⟨97, rfl⟩
  · exact ⟨107, rfl⟩
theorem sum_one (ts : List Nat) : ((ts.map fun c => (⟨#[c]⟩ : Str)).map (·.length)).sum = ts.length := by
  induction ts with
  | nil => rfl
  | cons a r ih => simp only [List.map_cons, List.sum_cons, ih, List.length_cons]; show 1 + _ = _; omega
theorem row_run (n : Nat) {h : Hd} {p : Nat} (Pn : Pen h p) : ∃ s h', (cxN L.P FUEL (n + 3)).call "" "_law_row" [.ref p] h = .ok (.str s) h' ∧ s.length ≤ 200 ∧ Kp p h h' := by
  rw [call_succ fn_row]
  have k0 := Kp.more Pn [.lst [.int 0, .int 1, .int 7, .int 30, .int 199, .int 200]]
  obtain ⟨w, h1, e1, w0, w1, k1⟩ := draw_run n k0.pen (m := 6) (by decide) (by decide)
  obtain ⟨m, hm, hat⟩ : ∃ m : Int, (0 ≤ m ∧ m ≤ 200) ∧ L2.atI [D.int 0, .int 1, .int 7, .int 30, .int 199, .int 200] w = some (.int m) := by
    have hw : w = 0 ∨ w = 1 ∨ w = 2 ∨ w = 3 ∨ w = 4 ∨ w = 5 := by omega
    rcases hw with rfl | rfl | rfl | rfl | rfl | rfl <;> exact ⟨_, by decide, rfl⟩
  obtain ⟨sh, h2, e2, s0, s1, k2⟩ := draw_run n k1.pen (m := 5) (by decide) (by decide)
  have hne : h.length ≠ p := by
    obtain ⟨_, _, _, q⟩ := Pn.at_
    have := (List.getElem?_eq_some_iff.mp q).1
    omega
  have g1 := k1.keep h.length (.lst [.int 0, .int 1, .int 7, .int 30, .int 199, .int 200]) hne (by simp)
  let σ : Sl := [some (.ref p), some (.int m), some (.int (1 + sh)), none]
  have st1 : evS (cxN L.P FUEL (n + 2)) (.asg (.tup [(.nm 1), (.nm 2)]) (.tup [(.ix (.lst [(.c (.int 0)), (.c (.int 1)), (.c (.int 7)), (.c (.int 30)), (.c (.int 199)), (.c (.int 200))]) (.call "_law_draw" [(.v 0), (.c (.int 6))])), (.bin .Add (.c (.int 1)) (.call "_law_draw" [(.v 0), (.c (.int 5))]))])) [some (.ref p), none, none, none] h = .nx σ h2 := by
    simp [evS, evE, evEs, evTg, evTgs, new, e1, ixL g1, hat, e2, σ]
  have key := lc_ind (tgt := evTg (cxN L.P FUEL (n + 2)) (.nm 3)) (test := evIfs (cxN L.P FUEL (n + 2)) none) (elt := evE (cxN L.P FUEL (n + 2)) (.ix (.c (.str "ak")) (.bi .int [(.cmp (.call "_law_draw" [(.v 0), (.c (.int 6))]) [.Lt] [(.v 2)])]))) (own := [3]) (J := .rng 0 1 m.toNat) (σ := σ) (n := m.toNat) (item := fun i => .int (0 + 1 * i))
    (fun k i => rfl)
    (fun i acc k => Kp p h2 k ∧ ∃ ts : List Nat, acc = ts.map sg ∧ ts.length = i)
    (fun i acc k hi g => by
      obtain ⟨kk, ts, rfl, hl⟩ := g
      obtain ⟨r, k', er, r0, r1, kr⟩ := draw_run n kk.pen (m := 6) (by decide) (by decide)
      refine ⟨[some (.ref p), some (.int m), some (.int (1 + sh)), some (.int (0 + 1 * i))], k, by simp [evTg, wipe, σ], true, k, rfl, .inl ⟨rfl, ?_⟩⟩
      obtain ⟨c, hc⟩ := ak_ix L.P (decide (r < 1 + sh)) k'
      refine ⟨sg c, k', ?_, by simp only [List.length_map, LIM]; omega, kk.trans kr, ts ++ [c], by simp, by simp [hl]⟩
      simp only [evE, evEs, chain1, List.getElem?_cons_succ, List.getElem?_cons_zero, R.bind_ok, cx_P, cl_no, er, cLtI, biInt, hc, R.of_some, if_false, Bool.false_eq_true])
    FUEL 0 [] h2 (by unfold FUEL; omega) (by omega) ⟨Kp.refl k2.pen, [], rfl, rfl⟩
  obtain ⟨acc, h3, e3, k3, ts, rfl, hl⟩ := key
  have k4 := Kp.more k3.pen [.lst (ts.map sg)]
  have it : evIt (cxN L.P FUEL (n + 2)) (.rng1 (.v 1)) σ h2 = .ok (.rng 0 1 m.toNat) h2 := by
    have : rngUp 0 m = some (.rng 0 1 m.toNat) := by
      have q : smallI 0 = true ∧ smallI m = true := ⟨by decide, by simp only [smallI]; exact decide_eq_true (by omega)⟩
      unfold rngUp; rw [if_pos q, Int.sub_zero]
    show R.of (rngUp 0 m) h2 = _
    rw [this]; rfl
  have lc : evE (cxN L.P FUEL (n + 2)) (.lc (.ix (.c (.str "ak")) (.bi .int [(.cmp (.call "_law_draw" [(.v 0), (.c (.int 6))]) [.Lt] [(.v 2)])])) (.nm 3) (.rng1 (.v 1)) none [3]) σ h2 = .ok (.ref h3.length) (h3 ++ [.lst (ts.map sg)]) := by
    rw [evE, it, R.bind_ok, cx_fuel, e3]; rfl
  have jn : evBM .join (.str "") [.ref h3.length] (h3 ++ [.lst (ts.map sg)]) = .ok (.str ⟨ts.toArray⟩) (h3 ++ [.lst (ts.map sg)]) := by
    have z : items (h3 ++ [.lst (ts.map sg)]) (.ref h3.length) = some (ts.map sg) := by simp [items]
    have y := sum_one ts
    have q0 : (Str.ofString "").length = 0 := by decide +kernel
    simp only [evBM, z, Option.bind_some, map_sg, y, List.length_map, q0]
    rw [if_pos (by simp only [LIM]; omega), join_cps]; rfl
  refine ⟨⟨ts.toArray⟩, h3 ++ [.lst (ts.map sg)], ?_, by show ts.toArray.size ≤ 200; simp; omega, (((k0.trans k1).trans k2).trans k3).trans k4⟩
  have st2 : evS (cxN L.P FUEL (n + 2)) (.ret (some (.bm .join (.c (.str "")) [(.lc (.ix (.c (.str "ak")) (.bi .int [(.cmp (.call "_law_draw" [(.v 0), (.c (.int 6))]) [.Lt] [(.v 2)])])) (.nm 3) (.rng1 (.v 1)) none [3])]))) σ h2 = .ret (.str ⟨ts.toArray⟩) (h3 ++ [.lst (ts.map sg)]) := by
    have eb : ∀ xs, evE (cxN L.P FUEL (n + 2)) (.bm .join (.c (.str "")) xs) σ h2 = (evEs (cxN L.P FUEL (n + 2)) xs σ h2).bind fun ds k => evBM .join (.str "") ds k := fun xs => rfl
    rw [evS, eb]
    simp only [evEs, lc, R.bind_ok, jn, R.st_ok]
  simp only [run, f_law_row, evSs, List.map_cons, List.map_nil, List.length_cons, List.length_nil, List.cons_append, List.nil_append, List.replicate, st1, st2]
  rfl
theorem fn_bent : L.P.fn "" "_law_bent" = some f_law_bent := by kernel_rfl
theorem fn_odd : L.P.fn "" "_law_odd" = some f_law_odd := by kernel_rfl
theorem odd_run (n : Nat) {h : Hd} {p : Nat} (Pn : Pen h p) : ∃ v h', (cxN L.P FUEL (n + 3)).call "" "_law_odd" [.ref p] h = .ok v h' ∧ Thing p h' v ∧ Kp p h h' := by
  rw [call_succ fn_odd]
  have hlt : p < h.length := by
    obtain ⟨_, _, _, q⟩ := Pn.at_
    exact (List.getElem?_eq_some_iff.mp q).1
  let xs : List D := [.non, .bl true, .bl false, .int (-1), .str "", .str "silent", .ref h.length, .tup [], .ref (h.length + 1), .tup [.int 1], .int (10 ^ 30), .str "a", .ref (h.length + 2), .tup [.tup [.int 1, .int 2]], .ref (h.length + 3), .tup [.int 0, .int 1, .int 2]]
  let l : Hd := [.lst [], .dct [], .lst [.int 1, .int 2], .dct [(.int 1, .int 2)], .lst xs]
  have k0 := Kp.more Pn l
  obtain ⟨r, h1, e1, r0, r1, k1⟩ := draw_run n k0.pen (m := 16) (by decide) (by decide)
  have g0 : (h ++ l)[h.length + 4]? = some (.lst xs) := by simp [l]
  have g1 := k1.keep (h.length + 4) (.lst xs) (by omega) g0
  have c0 := k1.keep h.length (.lst []) (by omega) (by simp [l])
  have c1 := k1.keep (h.length + 1) (.dct []) (by omega) (by simp [l])
  have c2 := k1.keep (h.length + 2) (.lst [.int 1, .int 2]) (by omega) (by simp [l])
  have c3 := k1.keep (h.length + 3) (.dct [(.int 1, .int 2)]) (by omega) (by simp [l])
  obtain ⟨v, hv, tv⟩ : ∃ v, L2.atI xs r = some v ∧ Thing p h1 v := by
    have hr : r = 0 ∨ r = 1 ∨ r = 2 ∨ r = 3 ∨ r = 4 ∨ r = 5 ∨ r = 6 ∨ r = 7 ∨ r = 8 ∨ r = 9 ∨ r = 10 ∨ r = 11 ∨ r = 12 ∨ r = 13 ∨ r = 14 ∨ r = 15 := by omega
    rcases hr with rfl | rfl | rfl | rfl | rfl | rfl | rfl | rfl | rfl | rfl | rfl | rfl | rfl | rfl | rfl | rfl
    · exact ⟨_, rfl, .inr (.inr fun k P => rfl)⟩
    · exact ⟨_, rfl, .inr (.inr fun k P => rfl)⟩
    · exact ⟨_, rfl, .inr (.inr fun k P => rfl)⟩
    · exact ⟨_, rfl, .inr (.inr fun k P => rfl)⟩
    · exact ⟨_, rfl, .inl ⟨_, rfl, by decide +kernel⟩⟩
    · exact ⟨_, rfl, .inl ⟨_, rfl, by decide +kernel⟩⟩
    · exact ⟨_, rfl, .inr (.inl ⟨_, _, rfl, c0, by omega, .inl ⟨_, rfl⟩⟩)⟩
    · exact ⟨_, rfl, .inr (.inr fun k P => rfl)⟩
    · exact ⟨_, rfl, .inr (.inl ⟨_, _, rfl, c1, by omega, .inr ⟨_, rfl⟩⟩)⟩
    · exact ⟨_, rfl, .inr (.inr fun k P => rfl)⟩
    · exact ⟨_, rfl, .inr (.inr fun k P => rfl)⟩
    · exact ⟨_, rfl, .inl ⟨_, rfl, by decide +kernel⟩⟩
    · exact ⟨_, rfl, .inr (.inl ⟨_, _, rfl, c2, by omega, .inl ⟨_, rfl⟩⟩)⟩
    · exact ⟨_, rfl, .inr (.inr fun k P => rfl)⟩
    · exact ⟨_, rfl, .inr (.inl ⟨_, _, rfl, c3, by omega, .inr ⟨_, rfl⟩⟩)⟩
    · exact ⟨_, rfl, .inr (.inr fun k P => rfl)⟩
  refine ⟨v, h1, ?_, tv, k0.trans k1⟩
  have hp : (0 : Int) ≤ 30 ∧ (30 : Int) ≤ 1000000 ∧ (10 : Int).natAbs < 18446744073709551616 := by decide
  have ln : ∀ P, evBI P .len [.ref (h.length + 4)] (h ++ l) = .ok (.int 16) (h ++ l) := fun P => by simp [evBI, items, g0, xs]
  have st1 : evS (cxN L.P FUEL (n + 2)) (.asg (.nm 1) (.lst [(.c .non), (.c (.bl true)), (.c (.bl false)), (.neg (.c (.int 1))), (.c (.str "")), (.c (.str "silent")), (.lst []), (.tup []), (.dct []), (.tup [(.c (.int 1))]), (.bin .Pow (.c (.int 10)) (.c (.int 30))), (.c (.str "a")), (.lst [(.c (.int 1)), (.c (.int 2))]), (.tup [(.tup [(.c (.int 1)), (.c (.int 2))])]), (.dct [((.int 1), (.int 2))]), (.tup [(.c (.int 0)), (.c (.int 1)), (.c (.int 2))])])) [some (.ref p), none] h = .nx [some (.ref p), some (.ref (h.length + 4))] (h ++ l) := by
    simp [evS, evE, evEs, evTg, new, bPow hp, l, xs]
  have st2 : evS (cxN L.P FUEL (n + 2)) (.ret (some (.ix (.v 1) (.call "_law_draw" [(.v 0), (.bi .len [(.v 1)])])))) [some (.ref p), some (.ref (h.length + 4))] (h ++ l) = .ret v h1 := by
    simp only [evS, evE, evEs, List.getElem?_cons_succ, List.getElem?_cons_zero, R.bind_ok, ln, cl_no, e1, ixL g1, hv, R.of_some, R.st_ok, cx_P, if_false, Bool.false_eq_true]
  simp only [run, f_law_odd, evSs, List.map_cons, List.map_nil, List.length_cons, List.length_nil, List.cons_append, List.nil_append, List.replicate, st1, st2]
  rfl
end Ev.K32
end
section
set_option Elab.async false
set_option linter.all false
set_option maxRecDepth 100000
set_option maxHeartbeats 1000000
/-! the mathematics of k32: a bent row -/
namespace Ev.K32
open PySem Ev
theorem slS {z : Str} {lo hi : Option Int} {h : Hd} (hz : z.length ≤ 1000) : ∃ y : Str, y.length ≤ z.length ∧ evSl (.str z) lo hi h = .ok (.str y) h ∧ ∀ k, evSl (.str z) lo hi k = .ok (.str y) k := by
  have e : ∀ k, evSl (.str z) lo hi k = .ok (.str ⟨(cut z.cps.toList lo hi).toArray⟩) k := fun k => if_pos (by rw [PySem.sizeLine_eq]; omega)
  refine ⟨⟨(cut z.cps.toList lo hi).toArray⟩, ?_, e h, e⟩
  have := cut_len z.cps.toList lo hi
  have hl : z.cps.toList.length = z.length := Array.length_toList
  show (cut z.cps.toList lo hi).toArray.size ≤ _
  simp only [List.size_toArray]
  omega
theorem bent_run (n : Nat) {h : Hd} {p : Nat} {s : Str} (Pn : Pen h p) (hs : s.length ≤ 200) : ∃ v h', (cxN L.P FUEL (n + 3)).call "" "_law_bent" [.ref p, .str s] h = .ok v h' ∧ Thing p h' v ∧ Kp p h h' := by
  rw [call_succ fn_bent]
  have Zf : (Str.ofString " !#&()*+,-./0123456789:;<=>?@AKQ[]^_bcdefghijlmnopqrstuvwxyz{|}~\t\n").length = 67 ∨ True := .inr trivial
  have Z0 : 0 < (Str.ofString " !#&()*+,-./0123456789:;<=>?@AKQ[]^_bcdefghijlmnopqrstuvwxyz{|}~\t\n").length ∧ (Str.ofString " !#&()*+,-./0123456789:;<=>?@AKQ[]^_bcdefghijlmnopqrstuvwxyz{|}~\t\n").length ≤ 1000 := by decide +kernel
  have body : f_law_bent.body = [(.asg (.nm 2) (.c (.str (Str.ofString " !#&()*+,-./0123456789:;<=>?@AKQ[]^_bcdefghijlmnopqrstuvwxyz{|}~\t\n")))),
    (.asg (.tup [(.nm 3), (.nm 4)]) (.tup [(.ix (.v 2) (.call "_law_draw" [(.v 0), (.bi .len [(.v 2)])])), (.call "_law_draw" [(.v 0), (.bin .Add (.bi .len [(.v 1)]) (.c (.int 1)))])])),
    (.asg (.nm 5) (.call "_law_draw" [(.v 0), (.c (.int 4))])),
    (.asg (.nm 6) (.lst [(.bin .Add (.bin .Add (.sl (.v 1) none (some (.v 4))) (.v 3)) (.sl (.v 1) (some (.v 4)) none)), (.bin .Add (.bin .Add (.sl (.v 1) none (some (.v 4))) (.v 3)) (.sl (.v 1) (some (.bin .Add (.v 4) (.c (.int 1)))) none)), (.bin .Add (.v 1) (.bin .Mult (.c (.str "ak")) (.c (.int 101)))), (.bi .list [(.v 1)])])),
    (.ret (some (.ix (.v 6) (.v 5))))] := rfl
  generalize Str.ofString " !#&()*+,-./0123456789:;<=>?@AKQ[]^_bcdefghijlmnopqrstuvwxyz{|}~\t\n" = Z at *
  have hlt : p < h.length := by
    obtain ⟨_, _, _, q⟩ := Pn.at_
    exact (List.getElem?_eq_some_iff.mp q).1
  obtain ⟨r, h1, e1, r0, r1, k1⟩ := draw_run n Pn (m := (Z.length : Int)) (by omega) (by omega)
  obtain ⟨a, h2, e2, a0, a1, k2⟩ := draw_run n k1.pen (m := (s.length : Int) + 1) (by omega) (by omega)
  obtain ⟨w, h3, e3, w0, w1, k3⟩ := draw_run n k2.pen (m := 4) (by decide) (by decide)
  obtain ⟨c, hc⟩ : ∃ c, ∀ P k, evIx P (.str Z) (.int r) k = some (sg c) := by
    have e : ∀ P k, evIx P (.str Z) (.int r) k = (if Z.length ≤ sizeLine then (L2.atI Z.cps.toList r).map fun c => .str ⟨#[c]⟩ else none) := fun _ _ => rfl
    have hl : Z.cps.toList.length = Z.length := Array.length_toList
    refine ⟨Z.cps.toList[r.toNat]'(by omega), fun P k => ?_⟩
    rw [e, if_pos (by rw [PySem.sizeLine_eq]; omega), atI_nat (n := r.toNat) (by omega) (by omega), List.getElem?_eq_getElem (by omega)]
    rfl
  have lZ : ∀ P k, evBI P .len [.str Z] k = .ok (.int Z.length) k := fun P k => if_pos (by rw [PySem.sizeLine_eq]; omega)
  have lS : ∀ P k, evBI P .len [.str s] k = .ok (.int s.length) k := fun P k => if_pos (by rw [PySem.sizeLine_eq]; omega)
  obtain ⟨y1, b1, -, y1e⟩ := slS (z := s) (lo := none) (hi := some a) (h := h) (by omega)
  obtain ⟨y2, b2, -, y2e⟩ := slS (z := s) (lo := some a) (hi := none) (h := h) (by omega)
  obtain ⟨y3, b3, -, y3e⟩ := slS (z := s) (lo := some (a + 1)) (hi := none) (h := h) (by omega)
  obtain ⟨y4, b4, y4e⟩ : ∃ y : Str, y.length ≤ 202 ∧ ∀ k, evBin .Mult (.str "ak") (.int 101) k = .ok (.str y) k := by
    have z : (Str.ofString "ak").length = 2 := by decide +kernel
    refine ⟨⟨(List.replicate (101 : Int).toNat (Str.ofString "ak").cps.toList).flatten.toArray⟩, ?_, fun k => bMulS (by decide) (by decide) (by rw [z]; decide)⟩
    rw [sAK]; decide +kernel
  have l1 : (⟨#[c]⟩ : Str).length = 1 := rfl
  have p1 : ∀ k, evBin .Add (.str y1) (sg c) k = .ok (.str (y1 ++ ⟨#[c]⟩)) k := fun k => bAddS (by rw [l1]; simp only [LIM]; omega)
  have p2 : ∀ k, evBin .Add (.str (y1 ++ ⟨#[c]⟩)) (.str y2) k = .ok (.str (y1 ++ ⟨#[c]⟩ ++ y2)) k := fun k => bAddS (by rw [Str.length_append, l1]; simp only [LIM]; omega)
  have p3 : ∀ k, evBin .Add (.str (y1 ++ ⟨#[c]⟩)) (.str y3) k = .ok (.str (y1 ++ ⟨#[c]⟩ ++ y3)) k := fun k => bAddS (by rw [Str.length_append, l1]; simp only [LIM]; omega)
  have p4 : ∀ k, evBin .Add (.str s) (.str y4) k = .ok (.str (s ++ y4)) k := fun k => bAddS (by simp only [LIM]; omega)
  have p5 : ∀ P k, evBI P .list [.str s] k = new (.lst (s.cps.toList.map sg)) k := fun P k => if_pos (by simp only [LIM]; omega)
  let xs : List D := [.str (y1 ++ ⟨#[c]⟩ ++ y2), .str (y1 ++ ⟨#[c]⟩ ++ y3), .str (s ++ y4), .ref h3.length]
  have k4 := Kp.more k3.pen [.lst (s.cps.toList.map sg), .lst xs]
  have hne : h3.length ≠ p := by
    obtain ⟨_, _, _, q⟩ := k3.pen.at_
    have := (List.getElem?_eq_some_iff.mp q).1
    omega
  have g1 : (h3 ++ [.lst (s.cps.toList.map sg), .lst xs])[h3.length + 1]? = some (.lst xs) := by simp
  have g0 : (h3 ++ [.lst (s.cps.toList.map sg), .lst xs])[h3.length]? = some (.lst (s.cps.toList.map sg)) := by simp
  obtain ⟨v, hv, tv⟩ : ∃ v, L2.atI xs w = some v ∧ Thing p (h3 ++ [.lst (s.cps.toList.map sg), .lst xs]) v := by
    have hr : w = 0 ∨ w = 1 ∨ w = 2 ∨ w = 3 := by omega
    rcases hr with rfl | rfl | rfl | rfl
    · exact ⟨_, rfl, .inl ⟨_, rfl, by rw [Str.length_append, Str.length_append, l1]; omega⟩⟩
    · exact ⟨_, rfl, .inl ⟨_, rfl, by rw [Str.length_append, Str.length_append, l1]; omega⟩⟩
    · exact ⟨_, rfl, .inl ⟨_, rfl, by rw [Str.length_append]; omega⟩⟩
    · exact ⟨_, rfl, .inr (.inl ⟨_, _, rfl, g0, hne, .inl ⟨_, rfl⟩⟩)⟩
  refine ⟨v, h3 ++ [.lst (s.cps.toList.map sg), .lst xs], ?_, tv, ((k1.trans k2).trans k3).trans k4⟩
  have st1 : evS (cxN L.P FUEL (n + 2)) (.asg (.nm 2) (.c (.str Z))) [some (.ref p), some (.str s), none, none, none, none, none] h = .nx [some (.ref p), some (.str s), some (.str Z), none, none, none, none] h := by simp [evS, evE, evTg]
  have st2 : evS (cxN L.P FUEL (n + 2)) (.asg (.tup [(.nm 3), (.nm 4)]) (.tup [(.ix (.v 2) (.call "_law_draw" [(.v 0), (.bi .len [(.v 2)])])), (.call "_law_draw" [(.v 0), (.bin .Add (.bi .len [(.v 1)]) (.c (.int 1)))])])) [some (.ref p), some (.str s), some (.str Z), none, none, none, none] h = .nx [some (.ref p), some (.str s), some (.str Z), some (sg c), some (.int a), none, none] h2 := by
    simp [evS, evE, evEs, evTg, evTgs, lZ, lS, e1, e2, hc]
  have st3 : evS (cxN L.P FUEL (n + 2)) (.asg (.nm 5) (.call "_law_draw" [(.v 0), (.c (.int 4))])) [some (.ref p), some (.str s), some (.str Z), some (sg c), some (.int a), none, none] h2 = .nx [some (.ref p), some (.str s), some (.str Z), some (sg c), some (.int a), some (.int w), none] h3 := by
    simp [evS, evE, evEs, evTg, e3]
  have st4 : evS (cxN L.P FUEL (n + 2)) (.asg (.nm 6) (.lst [(.bin .Add (.bin .Add (.sl (.v 1) none (some (.v 4))) (.v 3)) (.sl (.v 1) (some (.v 4)) none)), (.bin .Add (.bin .Add (.sl (.v 1) none (some (.v 4))) (.v 3)) (.sl (.v 1) (some (.bin .Add (.v 4) (.c (.int 1)))) none)), (.bin .Add (.v 1) (.bin .Mult (.c (.str "ak")) (.c (.int 101)))), (.bi .list [(.v 1)])])) [some (.ref p), some (.str s), some (.str Z), some (sg c), some (.int a), some (.int w), none] h3 = .nx [some (.ref p), some (.str s), some (.str Z), some (sg c), some (.int a), some (.int w), some (.ref (h3.length + 1))] (h3 ++ [.lst (s.cps.toList.map sg), .lst xs]) := by
    simp [evS, evE, evEs, evO, evTg, y1e, y2e, y3e, y4e, p1, p2, p3, p4, p5, new, xs]
  have st5 : evS (cxN L.P FUEL (n + 2)) (.ret (some (.ix (.v 6) (.v 5)))) [some (.ref p), some (.str s), some (.str Z), some (sg c), some (.int a), some (.int w), some (.ref (h3.length + 1))] (h3 ++ [.lst (s.cps.toList.map sg), .lst xs]) = .ret v (h3 ++ [.lst (s.cps.toList.map sg), .lst xs]) := by
    simp only [evS, evE, List.getElem?_cons_succ, List.getElem?_cons_zero, R.bind_ok, ixL g1, hv, R.of_some, R.st_ok]
  have np : f_law_bent.np = 2 := rfl
  have ns : f_law_bent.ns = 7 := rfl
  simp only [run, body, np, ns, evSs, List.map_cons, List.map_nil, List.length_cons, List.length_nil, List.cons_append, List.nil_append, List.replicate, st1, st2, st3, st4, st5]
  rfl
end Ev.K32
end
section
set_option Elab.async false
set_option linter.all false
set_option maxRecDepth 100000
set_option maxHeartbeats 1000000
/-! the mathematics of k32: one turn -/
namespace Ev.K32
open PySem Ev
theorem small_log {i : Int} (h : i.natAbs < 1000000) : i.natAbs.log2 < 20 := by
  by_cases h0 : i.natAbs = 0
  · rw [h0]; decide
  · exact (Nat.log2_lt h0).mpr (Nat.lt_of_lt_of_le h (by decide))
theorem ints_fit {us : List Int} (h : ∀ u ∈ us, u.natAbs < 1000000) : PyData.showableAll (us.map .int) = true ∧ PyData.leavesShortAll 13 (us.map .int) = true ∧ PyData.weightAll (us.map .int) ≤ 21 * us.length := by
  induction us with
  | nil => exact ⟨rfl, rfl, Nat.le_refl _⟩
  | cons a r ih =>
    obtain ⟨i1, i2, i3⟩ := ih fun u hu => h u (List.mem_cons_of_mem _ hu)
    have ha := h a List.mem_cons_self
    have hl := small_log ha
    refine ⟨?_, ?_, ?_⟩
    · simp only [List.map_cons, PyData.showableAll, PyData.showable, i1, Bool.and_true]; exact decide_eq_true (by omega)
    · simp only [List.map_cons, PyData.leavesShortAll, PyData.leavesShort, i2, Bool.and_true]; exact decide_eq_true (PyData.shown_int_le (Nat.lt_of_lt_of_le ha (by decide)))
    · simp only [List.map_cons, PyData.weightAll, PyData.weight, List.length_cons]
      split <;> omega
theorem row_fits {x y : Int} {us : List Int} (hx : x.natAbs < 1000000) (hy : y.natAbs < 1000000) (hu : ∀ u ∈ us, u.natAbs < 1000000) (hl : us.length ≤ 1000) : fits (.list [.int x, .int y, .list (us.map .int)]) = true := by
  obtain ⟨i1, i2, i3⟩ := ints_fit hu
  have lx := small_log hx
  have ly := small_log hy
  unfold fits
  rw [Bool.and_eq_true]
  refine ⟨?_, decide_eq_true (PyData.shown_fits (B := 13) (by decide) (by decide) ?_ ?_)⟩
  · simp only [PyData.showable, PyData.showableAll, i1, Bool.and_true, Bool.and_eq_true]; exact ⟨decide_eq_true (by omega), decide_eq_true (by omega)⟩
  · simp only [PyData.leavesShort, PyData.leavesShortAll, i2, Bool.and_true, Bool.and_eq_true]; exact ⟨decide_eq_true (PyData.shown_int_le (Nat.lt_of_lt_of_le hx (by decide))), decide_eq_true (PyData.shown_int_le (Nat.lt_of_lt_of_le hy (by decide)))⟩
  · simp only [PyData.weight, PyData.weightAll]
    have e : (2 : Nat) ^ 20 = 1048576 := by decide
    split <;> split <;> omega
theorem repr_row {k : Hd} {f q : Nat} {x y : Int} {us : List Int} (hx : x.natAbs < 1000000) (hy : y.natAbs < 1000000) (hu : ∀ u ∈ us, u.natAbs < 1000000) (hl : us.length ≤ 1000) (h1 : k[f]? = some (.lst [.int x, .int y, .ref q])) (h2 : k[q]? = some (.lst (us.map .int))) :
    evRepr k (.ref f) = some (.str (PyData.shown (.list [.int x, .int y, .list (us.map .int)]))) := by
  have b : toP k 11 (.ref q) = some (.list (us.map .int)) := by rw [show 11 = 10 + 1 from rfl, toP_ref h2, ints_mapM]; rfl
  have a : toP k DEPTH (.ref f) = some (.list [.int x, .int y, .list (us.map .int)]) := by
    rw [show DEPTH = 11 + 1 from rfl, toP_ref h1, List.mapM_cons, List.mapM_cons, List.mapM_cons, b]; rfl
  rw [evRepr, a, Option.bind_some, if_pos (row_fits hx hy hu hl)]
def stp : D := .tup [.str "step"]
theorem repr_no {k : Hd} {f : Nat} (h1 : k[f]? = some (.lst [stp, stp, stp])) : evRepr k (.ref f) = some (.str (PyData.shown (.list [.tuple [.str "step"], .tuple [.str "step"], .tuple [.str "step"]]))) := by
  have a : toP k DEPTH (.ref f) = some (.list [.tuple [.str "step"], .tuple [.str "step"], .tuple [.str "step"]]) := by
    rw [show DEPTH = 11 + 1 from rfl, toP_ref h1]; rfl
  rw [evRepr, a, Option.bind_some, if_pos (by decide +kernel)]
def Ext (h h' : Hd) : Prop := ∀ (c : Nat) (x : Cell), h[c]? = some x → h'[c]? = some x
theorem Ext.refl (h : Hd) : Ext h h := fun _ _ e => e
theorem Ext.trans {h h1 h2 : Hd} (a : Ext h h1) (b : Ext h1 h2) : Ext h h2 := fun c x e => b c x (a c x e)
theorem Ext.app (h l : Hd) : Ext h (h ++ l) := fun c x e => by rw [List.getElem?_append_left (List.getElem?_eq_some_iff.mp e).1]; exact e
theorem Ext.set {h k : Hd} (a : Ext h k) {q : Nat} (hq : h.length ≤ q) (y : Cell) : Ext h (k.set q y) := fun c x e => by
  have := (List.getElem?_eq_some_iff.mp e).1
  rw [List.getElem?_set_ne (by omega)]
  exact a c x e
theorem Ext.len {h k : Hd} (a : Ext h k) : h.length ≤ k.length := by
  rcases Nat.lt_or_ge k.length h.length with e | e
  · have := a k.length (h[k.length]'e) (List.getElem?_eq_getElem e)
    rw [List.getElem?_eq_none (Nat.le_refl _)] at this
    cases this
  · exact e
/-- no row -/
def NotRow (h : Hd) (d : D) : Prop := ∀ n k, Ext h k → (∃ l, (cxN L.P FUEL (n + 1)).call "" "check_row" [d] k = .exc "NoStep" [] (k ++ l)) ∧ ∃ l, (cxN L.P FUEL (n + 1)).call "" "_law_is_row" [d] k = .ok (.bl false) (k ++ l)
theorem thing_cases {p : Nat} {h : Hd} {d : D} (t : Thing p h d) : (∃ s, d = .str s ∧ s.length ≤ 1000 ∧ rowB s = true) ∨ NotRow h d := by
  have no : ∀ k, NotStr k d → ∀ n, (∃ l, (cxN L.P FUEL (n + 1)).call "" "check_row" [d] k = .exc "NoStep" [] (k ++ l)) ∧ ∃ l, (cxN L.P FUEL (n + 1)).call "" "_law_is_row" [d] k = .ok (.bl false) (k ++ l) := fun k N n =>
    ⟨⟨[], by rw [List.append_nil]; exact check_no n N⟩, [], by rw [List.append_nil]; exact is_row_no n N⟩
  rcases t with ⟨s, rfl, hs⟩ | ⟨c, x, rfl, e, _, z⟩ | N
  · by_cases hr : rowB s = true
    · exact .inl ⟨s, rfl, hs, hr⟩
    · have hr' : rowB s = false := by simpa using hr
      refine .inr fun n k _ => ⟨?_, ?_⟩
      · obtain ⟨l, e⟩ := check_str n k hs
        rw [hr'] at e
        exact ⟨l, e⟩
      · obtain ⟨l, e⟩ := is_row_str n k hs
        rw [hr'] at e
        exact ⟨l, e⟩
  · refine .inr fun n k E => no k (fun P => ?_) n
    have e' := E c x e
    rcases z with ⟨xs, rfl⟩ | ⟨kv, rfl⟩
    · show (match k[c]? with | some (.lst _) => _ | some (.dct _) => _ | _ => none) = _
      rw [e']; rfl
    · show (match k[c]? with | some (.lst _) => _ | some (.dct _) => _ | _ => none) = _
      rw [e']; rfl
  · exact .inr fun n k _ => no k (N k) n
/-- what is due -/
def Due (A B C X : Int) (d : D) (dc : Nat) (k : Hd) : Prop := (NotRow k d ∧ k[dc]? = some (.lst [stp, stp, stp])) ∨ (∃ s e, d = .str s ∧ s.length ≤ 1000 ∧ rowB s = true ∧ k[dc]? = some (.lst [.int (W s.cps.toList A B C X s.length).1, .int (paid s A B C X), .ref e]) ∧ k[e]? = some (.lst ((W s.cps.toList A B C X s.length).2.map .int)))
theorem NotRow.ext {h k : Hd} {d : D} (e : Ext h k) (N : NotRow h d) : NotRow k d := fun n k' e' => N n k' (e.trans e')
theorem Due.ext {A B C X : Int} {d : D} {dc : Nat} {h k : Hd} (e : Ext h k) (D : Due A B C X d dc h) : Due A B C X d dc k := by
  rcases D with ⟨a, b⟩ | ⟨s, q, a, b, c, x, y⟩
  · exact .inl ⟨a.ext e, e _ _ b⟩
  · exact .inr ⟨s, q, a, b, c, e _ _ x, e _ _ y⟩
theorem paid_small {s : Str} {A B C X : Int} (p : Purse A B C X) (hs : s.length ≤ 1000) : (paid s A B C X).natAbs < 1000000 := by
  have h1 := StrLaws.occ_length_le_len s (Str.ofString "k") 0 s.length (s.length + 1)
  have h2 := (W_ok (l := s.cps.toList) p s.length).2.1
  have e : Txt.count s (Str.ofString "k") = ((Builtin.Str.occurrences s (Str.ofString "k") 0 s.length (s.length + 1)).length : Nat) := rfl
  unfold paid
  rw [e]
  omega
theorem W_small {s : Str} {A B C X : Int} (p : Purse A B C X) (hs : s.length ≤ 1000) : (W s.cps.toList A B C X s.length).1.natAbs < 1000000 ∧ (∀ u ∈ (W s.cps.toList A B C X s.length).2, u.natAbs < 1000000) ∧ (W s.cps.toList A B C X s.length).2.length ≤ 1000 := by
  obtain ⟨h1, h2, h3⟩ := W_ok (l := s.cps.toList) p s.length
  have := p.c0
  exact ⟨by omega, fun u hu => by have := h3 u hu; omega, by omega⟩
end Ev.K32
end
section
set_option Elab.async false
set_option linter.all false
set_option maxRecDepth 100000
set_option maxHeartbeats 1000000
/-! the mathematics of k32: the turns -/
namespace Ev.K32
open PySem Ev
def LC : E := .lc (.call "_law_told" [(.v 10), (.v 3), (.v 6)]) (.nm 10) (.rng1 (.c (.int 3))) none [10]
def turnB : List S := [(.asg (.nm 9) LC), (.ife (.cmp (.bi .repr [(.v 9)]) [.NotEq] [(.bi .repr [(.v 7)])]) [(.ret (some (.c (.bl false))))] []), (.ife (.val (.bi .isinst [(.ix (.v 9) (.c (.int 2))), (.c (.ty "list"))])) [(.exp (.bm .append (.ix (.v 9) (.c (.int 2))) [(.c (.int 0))]))] [])]
def C6 : Cx := cxN L.P FUEL 6
theorem told_call {A B C X : Int} {d : D} {x0 x1 x2 x4 x5 x7 x8 x9 : Option D} {i : Nat} {k : Hd} : evE C6 (.call "_law_told" [(.v 10), (.v 3), (.v 6)]) [x0, x1, x2, some (pt A B C X), x4, x5, some d, x7, x8, x9, some (.int (0 + 1 * (i : Int)))] k = (cxN L.P FUEL 6).call "" "_law_told" [.int i, pt A B C X, d] k := by
  have e : (0 + 1 * (i : Int)) = i := by omega
  rw [e]
  simp only [evE, evEs, List.getElem?_cons_succ, List.getElem?_cons_zero, R.bind_ok, C6, cx_P, cl_no, if_false, Bool.false_eq_true]
theorem found_run {A B C X : Int} {d : D} {dc : Nat} {x0 x1 x2 x4 x5 x7 x8 x9 x10 : Option D} {k : Hd} (p : Purse A B C X) (Du : Due A B C X d dc k) : ∃ k' f acc, evE C6 LC [x0, x1, x2, some (pt A B C X), x4, x5, some d, x7, x8, x9, x10] k = .ok (.ref f) k' ∧ Ext k k' ∧ k'[f]? = some (.lst acc) ∧
    ((acc = [stp, stp, stp] ∧ k[dc]? = some (.lst [stp, stp, stp])) ∨ ∃ s e q, s.length ≤ 1000 ∧ acc = [.int (W s.cps.toList A B C X s.length).1, .int (paid s A B C X), .ref q] ∧ k.length ≤ q ∧ k'[q]? = some (.lst ((W s.cps.toList A B C X s.length).2.map .int)) ∧ k[dc]? = some (.lst [.int (W s.cps.toList A B C X s.length).1, .int (paid s A B C X), .ref e]) ∧ k[e]? = some (.lst ((W s.cps.toList A B C X s.length).2.map .int))) := by
  have fin : ∀ {acc h'}, lcLoop (evTg C6 (.nm 10)) (evIfs C6 none) (evE C6 (.call "_law_told" [(.v 10), (.v 3), (.v 6)])) [10] (.rng 0 1 3) [x0, x1, x2, some (pt A B C X), x4, x5, some d, x7, x8, x9, x10] FUEL 0 [] k = .ok acc h' → evE C6 LC [x0, x1, x2, some (pt A B C X), x4, x5, some d, x7, x8, x9, x10] k = .ok (.ref h'.length) (h' ++ [.lst acc]) := fun {acc h'} e => by
    have it : evIt C6 (.rng1 (.c (.int 3))) [x0, x1, x2, some (pt A B C X), x4, x5, some d, x7, x8, x9, x10] k = .ok (.rng 0 1 3) k := rfl
    have fu : C6.fuel = FUEL := rfl
    rw [LC, evE, it, R.bind_ok, fu, e]; rfl
  have tg : ∀ i h, evTg C6 (.nm 10) (.int (0 + 1 * (i : Int))) (wipe [x0, x1, x2, some (pt A B C X), x4, x5, some d, x7, x8, x9, x10] [10]) h = .ok [x0, x1, x2, some (pt A B C X), x4, x5, some d, x7, x8, x9, some (.int (0 + 1 * (i : Int)))] h := fun i h => rfl
  rcases Du with ⟨N, hd⟩ | ⟨s, e, rfl, hs, hr, hd, he⟩
  · have key := lc_ind (tgt := evTg C6 (.nm 10)) (test := evIfs C6 none) (elt := evE C6 (.call "_law_told" [(.v 10), (.v 3), (.v 6)])) (own := [10]) (J := .rng 0 1 3) (σ := [x0, x1, x2, some (pt A B C X), x4, x5, some d, x7, x8, x9, x10]) (n := 3) (item := fun i => .int (0 + 1 * (i : Int)))
      (fun h i => rfl) (fun i acc h => Ext k h ∧ acc = List.replicate i stp)
      (fun i acc h hi g => by
        obtain ⟨E, rfl⟩ := g
        obtain ⟨⟨l, ec⟩, -⟩ := N 3 (h ++ [.lst [.glob "coins_behind", .glob "paid_in", .glob "unpaid_at"]]) (E.trans (Ext.app _ _))
        obtain ⟨l2, et⟩ := told_exc 3 i hi (A := A) (B := B) (C := C) (X := X) ec
        refine ⟨_, h, tg (i : Int) h, true, h, rfl, .inl ⟨rfl, stp, _, by rw [told_call]; exact et, by simp only [List.length_replicate, LIM]; omega, ?_, by rw [List.replicate_succ']⟩⟩
        exact ((E.trans (Ext.app _ _)).trans (Ext.app _ _)).trans (Ext.app _ _))
      FUEL 0 [] k (by decide) (by decide) ⟨Ext.refl k, rfl⟩
    obtain ⟨acc, h', e, E, rfl⟩ := key
    exact ⟨_, _, _, fin e, E.trans (Ext.app _ _), by simp, .inl ⟨rfl, hd⟩⟩
  · have key := lc_ind (tgt := evTg C6 (.nm 10)) (test := evIfs C6 none) (elt := evE C6 (.call "_law_told" [(.v 10), (.v 3), (.v 6)])) (own := [10]) (J := .rng 0 1 3) (σ := [x0, x1, x2, some (pt A B C X), x4, x5, some (.str s), x7, x8, x9, x10]) (n := 3) (item := fun i => .int (0 + 1 * (i : Int)))
      (fun h i => rfl) (fun i acc h => Ext k h ∧ ((i = 0 ∧ acc = []) ∨ (i = 1 ∧ acc = [.int (W s.cps.toList A B C X s.length).1]) ∨ (i = 2 ∧ acc = [.int (W s.cps.toList A B C X s.length).1, .int (paid s A B C X)]) ∨ (i = 3 ∧ ∃ q, k.length ≤ q ∧ acc = [.int (W s.cps.toList A B C X s.length).1, .int (paid s A B C X), .ref q] ∧ h[q]? = some (.lst ((W s.cps.toList A B C X s.length).2.map .int)))))
      (fun i acc h hi g => by
        obtain ⟨E, g⟩ := g
        obtain ⟨⟨l1, w1⟩, ⟨l2, w2⟩, ⟨l3, w3⟩⟩ := ways_ok 2 (h ++ [.lst [.glob "coins_behind", .glob "paid_in", .glob "unpaid_at"]]) p hs hr
        refine ⟨_, h, tg (i : Int) h, true, h, rfl, .inl ⟨rfl, ?_⟩⟩
        rcases g with ⟨rfl, rfl⟩ | ⟨rfl, rfl⟩ | ⟨rfl, rfl⟩ | ⟨rfl, _⟩
        · exact ⟨_, _, by rw [told_call]; exact told_ok 3 0 hi w1, by decide, (E.trans (Ext.app _ _)).trans (Ext.app _ _), .inr (.inl ⟨rfl, rfl⟩)⟩
        · exact ⟨_, _, by rw [told_call]; exact told_ok 3 1 hi w2, by show 1 < LIM; decide, (E.trans (Ext.app _ _)).trans (Ext.app _ _), .inr (.inr (.inl ⟨rfl, rfl⟩))⟩
        · refine ⟨_, _, by rw [told_call]; exact told_ok 3 2 hi w3, by show 2 < LIM; decide, ((E.trans (Ext.app _ _)).trans (Ext.app _ _)).trans (Ext.app _ _), .inr (.inr (.inr ⟨rfl, _, ?_, rfl, ?_⟩))⟩
          · have := E.len
            simp only [List.length_append]
            omega
          · exact List.getElem?_concat_length
        · omega)
      FUEL 0 [] k (by decide) (by decide) ⟨Ext.refl k, .inl ⟨rfl, rfl⟩⟩
    obtain ⟨acc, h', e', E, g⟩ := key
    rcases g with ⟨z, _⟩ | ⟨z, _⟩ | ⟨z, _⟩ | ⟨_, q, hq, rfl, hu⟩
    · omega
    · omega
    · omega
    exact ⟨_, _, _, fin e', E.trans (Ext.app _ _), by simp, .inr ⟨s, e, q, hs, rfl, hq, Ext.app _ _ _ _ hu, hd, he⟩⟩
theorem repr_ne {P : Prog} {k : Hd} {a b : Nat} {t : D} {y : Str} (ha : evRepr k (.ref a) = some (.str y)) (hb : evRepr k (.ref b) = some (.str y)) {σ : Sl} (h9 : σ[9]? = some (some (.ref a))) (h7 : σ[7]? = some (some (.ref b))) : evT C6 (.cmp (.bi .repr [(.v 9)]) [.NotEq] [(.bi .repr [(.v 7)])]) σ k = .ok false k := by
  have e1 : ∀ P, evBI P .repr [.ref a] k = .ok (.str y) k := fun P => by simp only [evBI, ha, R.of_some]
  have e2 : ∀ P, evBI P .repr [.ref b] k = .ok (.str y) k := fun P => by simp only [evBI, hb, R.of_some]
  simp only [evT, evE, evEs, chain1, h9, h7, R.bind_ok, e1, e2, cNeS, beq_self_eq_true, Bool.not_true, tBl, R.of_some]
theorem turn_run {A B C X : Int} {d : D} {dc : Nat} {x0 x1 x2 x4 x5 x8 x9 x10 : Option D} {k : Hd} (p : Purse A B C X) (Du : Due A B C X d dc k) : ∃ k' a9, evSs C6 turnB [x0, x1, x2, some (pt A B C X), x4, x5, some d, some (.ref dc), x8, x9, x10] k = .nx [x0, x1, x2, some (pt A B C X), x4, x5, some d, some (.ref dc), x8, a9, x10] k' ∧ Ext k k' := by
  obtain ⟨k', f, acc, e, E, hf, z⟩ := found_run (x0 := x0) (x1 := x1) (x2 := x2) (x4 := x4) (x5 := x5) (x7 := some (.ref dc)) (x8 := x8) (x9 := x9) (x10 := x10) p Du
  have st1 : evS C6 (.asg (.nm 9) LC) [x0, x1, x2, some (pt A B C X), x4, x5, some d, some (.ref dc), x8, x9, x10] k = .nx [x0, x1, x2, some (pt A B C X), x4, x5, some d, some (.ref dc), x8, some (.ref f), x10] k' := by
    rw [evS, e]; rfl
  have ne : ∀ {y : Str}, evRepr k' (.ref f) = some (.str y) → evRepr k' (.ref dc) = some (.str y) → evS C6 (.ife (.cmp (.bi .repr [(.v 9)]) [.NotEq] [(.bi .repr [(.v 7)])]) [(.ret (some (.c (.bl false))))] []) [x0, x1, x2, some (pt A B C X), x4, x5, some d, some (.ref dc), x8, some (.ref f), x10] k' = .nx [x0, x1, x2, some (pt A B C X), x4, x5, some d, some (.ref dc), x8, some (.ref f), x10] k' := fun {y} ha hb => by
    rw [evS, repr_ne (P := L.P) (t := .non) ha hb rfl rfl]; rfl
  have i2 : ∀ x y z : D, L2.atI [x, y, z] 2 = some z := fun x y z => rfl
  rcases z with ⟨rfl, hd⟩ | ⟨s, e2, q, hs, rfl, hq, hu, hd, he⟩
  · have st2 := ne (repr_no hf) (repr_no (E _ _ hd))
    have st3 : evS C6 (.ife (.val (.bi .isinst [(.ix (.v 9) (.c (.int 2))), (.c (.ty "list"))])) [(.exp (.bm .append (.ix (.v 9) (.c (.int 2))) [(.c (.int 0))]))] []) [x0, x1, x2, some (pt A B C X), x4, x5, some d, some (.ref dc), x8, some (.ref f), x10] k' = .nx [x0, x1, x2, some (pt A B C X), x4, x5, some d, some (.ref dc), x8, some (.ref f), x10] k' := by
      have q : ∀ P, evBI P .isinst [stp, .ty "list"] k' = .ok (.bl false) k' := fun P => rfl
      simp [evS, evT, evE, evEs, evSs, ixL hf, i2, q]
    exact ⟨k', some (.ref f), by simp only [turnB, evSs, st1, st2, st3], E⟩
  · obtain ⟨w1, w2, w3⟩ := W_small p hs
    have st2 := ne (repr_row w1 (paid_small p hs) w2 w3 hf hu) (repr_row w1 (paid_small p hs) w2 w3 (E _ _ hd) (E _ _ he))
    have st3 : evS C6 (.ife (.val (.bi .isinst [(.ix (.v 9) (.c (.int 2))), (.c (.ty "list"))])) [(.exp (.bm .append (.ix (.v 9) (.c (.int 2))) [(.c (.int 0))]))] []) [x0, x1, x2, some (pt A B C X), x4, x5, some d, some (.ref dc), x8, some (.ref f), x10] k' = .nx [x0, x1, x2, some (pt A B C X), x4, x5, some d, some (.ref dc), x8, some (.ref f), x10] (k'.set q (.lst ((W s.cps.toList A B C X s.length).2.map .int ++ [.int 0]))) := by
      have iq : ∀ P, evBI P .isinst [.ref q, .ty "list"] k' = .ok (.bl true) k' := fun P => by simp only [evBI, evIs, isOne, hu]; rfl
      have ap : evBM .append (.ref q) [.int 0] k' = .ok .non (k'.set q (.lst ((W s.cps.toList A B C X s.length).2.map .int ++ [.int 0]))) := by
        simp only [evBM, hu]
        exact if_pos (by rw [List.length_map]; simp only [LIM]; omega)
      have rc : rcv .append (.ref q) k' = true := by simp only [rcv, hu]
      simp [evS, evT, evE, evEs, evSs, ixL hf, i2, iq, ap, rc]
    exact ⟨k'.set q (.lst ((W s.cps.toList A B C X s.length).2.map .int ++ [.int 0])), some (.ref f), by simp only [turnB, evSs, st1, st2, st3], E.set hq _⟩
end Ev.K32
end
section
set_option Elab.async false
set_option linter.all false
set_option maxRecDepth 100000
set_option maxHeartbeats 1000000
/-! the mathematics of k32: the law -/
namespace Ev.K32
open PySem Ev
def innerB : List S := [(.asg (.nm 7) (.bin .Mult (.lst [(.tup [(.c (.str "step"))])]) (.c (.int 3)))), (.ife (.val (.call "_law_is_row" [(.v 6)])) [(.asg (.nm 7) (.call "_law_walked" [(.v 3), (.v 6)]))] []), (.for (.nm 8) (.rng1 (.c (.int 2))) turnB)]
theorem Thing.ext {p : Nat} {h h' : Hd} {v : D} (k : Ext h h') (t : Thing p h v) : Thing p h' v := by
  rcases t with a | ⟨c, x, e1, e2, e3, e4⟩ | a
  · exact .inl a
  · exact .inr (.inl ⟨c, x, e1, k c x e2, e3, e4⟩)
  · exact .inr (.inr a)
theorem get1 (H : Hd) (a b : Cell) : (H ++ [a, b])[H.length + 1]? = some b := by simp
theorem get0 (H : Hd) (a b : Cell) : (H ++ [a, b])[H.length]? = some a := by simp
theorem inner_run {A B C X : Int} {d : D} {pn : Nat} {x0 x1 x2 x4 x5 x7 x8 x9 x10 : Option D} {k : Hd} (p : Purse A B C X) (t : Thing pn k d) : ∃ k' a7 a8 a9, evSs C6 innerB [x0, x1, x2, some (pt A B C X), x4, x5, some d, x7, x8, x9, x10] k = .nx [x0, x1, x2, some (pt A B C X), x4, x5, some d, a7, a8, a9, x10] k' ∧ Ext k k' := by
  have st1 : evS C6 (.asg (.nm 7) (.bin .Mult (.lst [(.tup [(.c (.str "step"))])]) (.c (.int 3)))) [x0, x1, x2, some (pt A B C X), x4, x5, some d, x7, x8, x9, x10] k = .nx [x0, x1, x2, some (pt A B C X), x4, x5, some d, some (.ref (k.length + 1)), x8, x9, x10] (k ++ [.lst [stp], .lst [stp, stp, stp]]) := by
    have m : evBin .Mult (.ref k.length) (.int 3) (k ++ [.lst [stp]]) = .ok (.ref (k.length + 1)) (k ++ [.lst [stp], .lst [stp, stp, stp]]) := by
      rw [bMulL (xs := [stp]) (by simp) (by decide) (by decide) (by decide)]
      simp [List.replicate]
    have l : ∀ σ, evE C6 (.lst [(.tup [(.c (.str "step"))])]) σ k = .ok (.ref k.length) (k ++ [.lst [stp]]) := fun σ => rfl
    rw [evS, eBin, l, R.bind_ok, eC, R.bind_ok, m]; rfl
  -- what is due
  obtain ⟨k1, dc, st2, Du, E1⟩ : ∃ k1 dc, evS C6 (.ife (.val (.call "_law_is_row" [(.v 6)])) [(.asg (.nm 7) (.call "_law_walked" [(.v 3), (.v 6)]))] []) [x0, x1, x2, some (pt A B C X), x4, x5, some d, some (.ref (k.length + 1)), x8, x9, x10] (k ++ [.lst [stp], .lst [stp, stp, stp]]) = .nx [x0, x1, x2, some (pt A B C X), x4, x5, some d, some (.ref dc), x8, x9, x10] k1 ∧ Due A B C X d dc k1 ∧ Ext k k1 := by
    rcases thing_cases t with ⟨s, rfl, hs, hr⟩ | N
    · obtain ⟨l, e⟩ := is_row_str 5 (k ++ [.lst [stp], .lst [stp, stp, stp]]) hs
      rw [hr] at e
      have w := lwalked_run 4 (k ++ [.lst [stp], .lst [stp, stp, stp]] ++ l) (s := s) p hs
      refine ⟨k ++ [Cell.lst [stp], .lst [stp, stp, stp]] ++ l ++ [.lst ((W s.cps.toList A B C X s.length).2.map .int), .lst [.int (W s.cps.toList A B C X s.length).1, .int (paid s A B C X), .ref (k ++ [Cell.lst [stp], .lst [stp, stp, stp]] ++ l).length]], (k ++ [Cell.lst [stp], Cell.lst [stp, stp, stp]] ++ l).length + 1, ?_, .inr ⟨s, (k ++ [Cell.lst [stp], Cell.lst [stp, stp, stp]] ++ l).length, rfl, hs, hr, ?_, ?_⟩, ?_⟩
      · have c1 : evT C6 (.val (.call "_law_is_row" [(.v 6)])) [x0, x1, x2, some (pt A B C X), x4, x5, some (.str s), some (.ref (k.length + 1)), x8, x9, x10] (k ++ [.lst [stp], .lst [stp, stp, stp]]) = .ok true (k ++ [.lst [stp], .lst [stp, stp, stp]] ++ l) := by
          simp only [evT, evE, evEs, List.getElem?_cons_succ, List.getElem?_cons_zero, R.bind_ok, C6, cx_P, cl_no, if_false, Bool.false_eq_true, e, tBl, R.of_some]
        have c2 : evE C6 (.call "_law_walked" [(.v 3), (.v 6)]) [x0, x1, x2, some (pt A B C X), x4, x5, some (.str s), some (.ref (k.length + 1)), x8, x9, x10] (k ++ [.lst [stp], .lst [stp, stp, stp]] ++ l) = (cxN L.P FUEL (4 + 2)).call "" "_law_walked" [pt A B C X, .str s] (k ++ [.lst [stp], .lst [stp, stp, stp]] ++ l) := by
          simp only [evE, evEs, List.getElem?_cons_succ, List.getElem?_cons_zero, R.bind_ok, C6, cx_P, cl_no, if_false, Bool.false_eq_true]
        rw [evS, c1, R.st_ok, if_pos rfl, evSs, evS, c2, w]
        rfl
      · exact get1 _ _ _
      · exact get0 _ _ _
      · exact (((Ext.app _ _).trans (Ext.app _ _)).trans (Ext.app _ _))
    · obtain ⟨-, l, e⟩ := N 5 (k ++ [.lst [stp], .lst [stp, stp, stp]]) (Ext.app _ _)
      have E1 : Ext k (k ++ [.lst [stp], .lst [stp, stp, stp]] ++ l) := (Ext.app _ _).trans (Ext.app _ _)
      refine ⟨k ++ [.lst [stp], .lst [stp, stp, stp]] ++ l, k.length + 1, ?_, .inl ⟨N.ext E1, Ext.app _ _ _ _ (by simp)⟩, E1⟩
      have c1 : evT C6 (.val (.call "_law_is_row" [(.v 6)])) [x0, x1, x2, some (pt A B C X), x4, x5, some d, some (.ref (k.length + 1)), x8, x9, x10] (k ++ [.lst [stp], .lst [stp, stp, stp]]) = .ok false (k ++ [.lst [stp], .lst [stp, stp, stp]] ++ l) := by
        simp only [evT, evE, evEs, List.getElem?_cons_succ, List.getElem?_cons_zero, R.bind_ok, C6, cx_P, cl_no, if_false, Bool.false_eq_true, e, tBl, R.of_some]
      rw [evS, c1]; rfl
  have key := for_ind (tgt := evTg C6 (.nm 8)) (body := evSs C6 turnB) (J := .rng 0 1 2) (n := 2) (item := fun i => .int (0 + 1 * (i : Int)))
    (fun i σ k2 => Ext k1 k2 ∧ ∃ a8 a9, σ = [x0, x1, x2, some (pt A B C X), x4, x5, some d, some (.ref dc), a8, a9, x10])
    (fun i σ h g => rfl)
    (fun i σ h hi g => by
      obtain ⟨E, a8, a9, rfl⟩ := g
      obtain ⟨k', b9, e, E2⟩ := turn_run (x0 := x0) (x1 := x1) (x2 := x2) (x4 := x4) (x5 := x5) (x8 := some (.int (0 + 1 * (i : Int)))) (x9 := a9) (x10 := x10) p (Du.ext E)
      exact ⟨_, h, rfl, _, k', e, E.trans E2, _, _, rfl⟩)
    FUEL 0 [x0, x1, x2, some (pt A B C X), x4, x5, some d, some (.ref dc), x8, x9, x10] k1 (by decide) (by decide) ⟨Ext.refl _, _, _, rfl⟩
  obtain ⟨σ', h', e, E2, a8, a9, rfl⟩ := key
  have st3 : evS C6 (.for (.nm 8) (.rng1 (.c (.int 2))) turnB) [x0, x1, x2, some (pt A B C X), x4, x5, some d, some (.ref dc), x8, x9, x10] k1 = .nx [x0, x1, x2, some (pt A B C X), x4, x5, some d, some (.ref dc), a8, a9, x10] h' := by
    have it : evIt C6 (.rng1 (.c (.int 2))) [x0, x1, x2, some (pt A B C X), x4, x5, some d, some (.ref dc), x8, x9, x10] k1 = .ok (.rng 0 1 2) k1 := rfl
    have fu : C6.fuel = FUEL := rfl
    rw [evS, it, R.st_ok, fu, e]
  exact ⟨h', some (.ref dc), a8, a9, by simp only [innerB, evSs, st1, st2, st3], E1.trans E2⟩
theorem kp_ext {p : Nat} {h k : Hd} (hp : h.length ≤ p) {h0 : Hd} (e : Ext h h0) (K : Kp p h0 k) : Ext h k := fun c x q => K.keep c x (by have := (List.getElem?_eq_some_iff.mp q).1; omega) (e c x q)
def THINGS : E := .lst [(.v 4), (.rev (.v 4)), (.call "_law_bent" [(.v 2), (.v 4)]), (.call "_law_bent" [(.v 2), (.v 4)]), (.v 5), (.call "_law_odd" [(.v 2)])]
def outerB : List S := [(.asg (.nm 2) (.call "_law_pen_of" [(.v 1)])), (.asg (.tup [(.nm 3), (.nm 4)]) (.tup [(.call "_law_purse" [(.v 2)]), (.call "_law_row" [(.v 2)])])), (.asg (.nm 5) (.bin .Add (.v 4) (.bin .Mult (.c (.str "a")) (.bin .Sub (.c (.int 201)) (.bi .len [(.v 4)]))))), (.for (.nm 6) (.val THINGS) innerB)]
theorem outer_run {x0 x2 x3 x4 x5 x6 x7 x8 x9 x10 : Option D} {c : Int} (h : Hd) : ∃ k' y2 y3 y4 y5 y6 y7 y8 y9 y10, evSs C6 outerB [x0, some (.int c), x2, x3, x4, x5, x6, x7, x8, x9, x10] h = .nx [x0, some (.int c), y2, y3, y4, y5, y6, y7, y8, y9, y10] k' ∧ Ext h k' := by
  obtain ⟨x, y, z, e1⟩ := pen_run 5 c h
  have Pn : Pen (h ++ [.lst [.int x, .int y, .int z]]) h.length := ⟨x, y, z, by simp⟩
  obtain ⟨A, B, C, X, h1, e2, pu, k1⟩ := purse_run 3 Pn
  obtain ⟨s, h2, e3, hs, k2⟩ := row_run 3 k1.pen
  obtain ⟨b1, h3, e4, t1, k3⟩ := bent_run 3 (s := s) k2.pen hs
  obtain ⟨b2, h4, e5, t2, k4⟩ := bent_run 3 (s := s) k3.pen hs
  obtain ⟨o, h5, e6, t3, k5⟩ := odd_run 3 k4.pen
  have pte : (D.tup [.int A, .int B, .int C, .int X]) = pt A B C X := rfl
  rw [pte] at e2
  have st1 : evS C6 (.asg (.nm 2) (.call "_law_pen_of" [(.v 1)])) [x0, some (.int c), x2, x3, x4, x5, x6, x7, x8, x9, x10] h = .nx [x0, some (.int c), some (.ref h.length), x3, x4, x5, x6, x7, x8, x9, x10] (h ++ [.lst [.int x, .int y, .int z]]) := by
    simp [evS, evE, evEs, evTg, C6, e1]
  have st2 : evS C6 (.asg (.tup [(.nm 3), (.nm 4)]) (.tup [(.call "_law_purse" [(.v 2)]), (.call "_law_row" [(.v 2)])])) [x0, some (.int c), some (.ref h.length), x3, x4, x5, x6, x7, x8, x9, x10] (h ++ [.lst [.int x, .int y, .int z]]) = .nx [x0, some (.int c), some (.ref h.length), some (pt A B C X), some (.str s), x5, x6, x7, x8, x9, x10] h2 := by
    simp [evS, evE, evEs, evTg, evTgs, C6, e2, e3]
  -- the long row
  obtain ⟨w, hw, ew⟩ : ∃ w : Str, w.length ≤ 201 ∧ ∀ k, evBin .Mult (.str "a") (.int (201 - (s.length : Int))) k = .ok (.str w) k := by
    have z : (Str.ofString "a").length = 1 := by decide +kernel
    refine ⟨⟨(List.replicate (201 - (s.length : Int)).toNat (Str.ofString "a").cps.toList).flatten.toArray⟩, ?_, fun k => bMulS (by omega) (by omega) (by rw [z]; simp only [LIM]; omega)⟩
    have z' : (Str.ofString "a").cps.toList = [97] := by decide +kernel
    rw [z']
    show (List.replicate (201 - (s.length : Int)).toNat [97]).flatten.toArray.size ≤ 201
    rw [List.size_toArray, List.length_flatten, List.map_replicate, List.sum_replicate_nat]
    simp only [List.length_cons, List.length_nil]
    omega
  have ad : ∀ k, evBin .Add (.str s) (.str w) k = .ok (.str (s ++ w)) k := fun k => bAddS (by simp only [LIM]; omega)
  have lS : ∀ P k, evBI P .len [.str s] k = .ok (.int s.length) k := fun P k => if_pos (by rw [PySem.sizeLine_eq]; omega)
  have st3 : evS C6 (.asg (.nm 5) (.bin .Add (.v 4) (.bin .Mult (.c (.str "a")) (.bin .Sub (.c (.int 201)) (.bi .len [(.v 4)]))))) [x0, some (.int c), some (.ref h.length), some (pt A B C X), some (.str s), x5, x6, x7, x8, x9, x10] h2 = .nx [x0, some (.int c), some (.ref h.length), some (pt A B C X), some (.str s), some (.str (s ++ w)), x6, x7, x8, x9, x10] h2 := by
    simp [evS, evE, evEs, evTg, C6, lS, ew, ad]
  obtain ⟨rv, hrv, erv⟩ : ∃ r : Str, r.length ≤ 200 ∧ ∀ k, evRev (.str s) k = .ok (.str r) k := by
    refine ⟨⟨s.cps.toList.reverse.toArray⟩, ?_, fun k => if_pos (by rw [PySem.sizeLine_eq]; omega)⟩
    show s.cps.toList.reverse.toArray.size ≤ 200
    have hl : s.cps.toList.length = s.length := Array.length_toList
    rw [List.size_toArray, List.length_reverse]
    omega
  let xs : List D := [.str s, .str rv, b1, b2, .str (s ++ w), o]
  have it : evIt C6 (.val THINGS) [x0, some (.int c), some (.ref h.length), some (pt A B C X), some (.str s), some (.str (s ++ w)), x6, x7, x8, x9, x10] h2 = .ok (.lst h5.length) (h5 ++ [.lst xs]) := by
    have l : evE C6 THINGS [x0, some (.int c), some (.ref h.length), some (pt A B C X), some (.str s), some (.str (s ++ w)), x6, x7, x8, x9, x10] h2 = .ok (.ref h5.length) (h5 ++ [.lst xs]) := by
      simp [THINGS, evE, evEs, C6, erv, e4, e5, e6, new, xs]
    have q : itOf (.ref h5.length) (h5 ++ [.lst xs]) = some (.lst h5.length) := by simp [itOf]
    rw [evIt, l, R.bind_ok, q]; rfl
  have E0 : Ext h (h5 ++ [.lst xs]) := by
    have a1 := kp_ext (Nat.le_refl _) (Ext.app h [.lst [.int x, .int y, .int z]]) k1
    have a2 := kp_ext (Nat.le_refl _) a1 k2
    have a3 := kp_ext (Nat.le_refl _) a2 k3
    have a4 := kp_ext (Nat.le_refl _) a3 k4
    exact (kp_ext (Nat.le_refl _) a4 k5).trans (Ext.app _ _)
  have all : ∀ v ∈ xs, Thing h.length (h5 ++ [.lst xs]) v := by
    intro v hv
    simp only [xs, List.mem_cons, List.not_mem_nil, or_false] at hv
    rcases hv with rfl | rfl | rfl | rfl | rfl | rfl
    · exact .inl ⟨_, rfl, by omega⟩
    · exact .inl ⟨_, rfl, by omega⟩
    · exact ((t1.keep k4).keep k5).ext (Ext.app _ _)
    · exact (t2.keep k5).ext (Ext.app _ _)
    · exact .inl ⟨_, rfl, by rw [Str.length_append]; omega⟩
    · exact t3.ext (Ext.app _ _)
  have hx : (h5 ++ [.lst xs])[h5.length]? = some (.lst xs) := by simp
  generalize h5 ++ [.lst xs] = kT at *
  have key := for_ind (tgt := evTg C6 (.nm 6)) (body := evSs C6 innerB) (J := .lst h5.length) (n := 6) (item := fun i => xs[i]?.getD .non)
    (fun i σ k => Ext kT k ∧ ∃ a6 a7 a8 a9, σ = [x0, some (.int c), some (.ref h.length), some (pt A B C X), some (.str s), some (.str (s ++ w)), a6, a7, a8, a9, x10])
    (fun i σ k g => by
      obtain ⟨E, _⟩ := g
      have := E _ _ hx
      simp only [It.next, this]
      by_cases hi : i < 6
      · rw [if_pos hi, List.getElem?_eq_getElem (by exact hi)]; rfl
      · rw [if_neg hi, List.getElem?_eq_none (by show 6 ≤ i; omega)])
    (fun i σ k hi g => by
      obtain ⟨E, a6, a7, a8, a9, rfl⟩ := g
      have hv : xs[i]?.getD .non ∈ xs := by
        rw [List.getElem?_eq_getElem (by exact hi)]
        exact List.getElem_mem _
      generalize xs[i]?.getD .non = v at hv
      obtain ⟨k', c7, c8, c9, e, E2⟩ := inner_run (x0 := x0) (x1 := some (.int c)) (x2 := some (.ref h.length)) (x4 := some (.str s)) (x5 := some (.str (s ++ w))) (x7 := a7) (x8 := a8) (x9 := a9) (x10 := x10) pu ((all v hv).ext E)
      exact ⟨_, k, rfl, _, k', e, E.trans E2, _, _, _, _, rfl⟩)
    FUEL 0 [x0, some (.int c), some (.ref h.length), some (pt A B C X), some (.str s), some (.str (s ++ w)), x6, x7, x8, x9, x10] kT (by decide) (by decide) ⟨Ext.refl _, _, _, _, _, rfl⟩
  obtain ⟨σ', h', e, E2, a6, a7, a8, a9, rfl⟩ := key
  have st4 : evS C6 (.for (.nm 6) (.val THINGS) innerB) [x0, some (.int c), some (.ref h.length), some (pt A B C X), some (.str s), some (.str (s ++ w)), x6, x7, x8, x9, x10] h2 = .nx [x0, some (.int c), some (.ref h.length), some (pt A B C X), some (.str s), some (.str (s ++ w)), a6, a7, a8, a9, x10] h' := by
    have fu : C6.fuel = FUEL := rfl
    rw [evS, it, R.st_ok, fu, e]
  exact ⟨h', some (.ref h.length), some (pt A B C X), some (.str s), some (.str (s ++ w)), a6, a7, a8, a9, x10, by simp only [outerB, evSs, st1, st2, st3, st4], E0.trans E2⟩
theorem cut_map {α β : Type} (f : α → β) (l : List α) (lo hi : Option Int) : cut (l.map f) lo hi = (cut l lo hi).map f := by
  simp only [cut, List.map_take, List.map_drop, List.length_map]
theorem law_run (ns : List Int) (hn : ns.length ≤ 63) : ∃ h', run (cxN L.P FUEL 6) f_law [scr ns] [] = .ok (.bl true) h' := by
  obtain ⟨c, e1⟩ := cell_run 5 ns []
  have hc := cut_len ns (some 1) (some 5)
  let cs : List Int := c :: cut ns (some 1) (some 5)
  have it : evIt C6 (.val (.bin .Add (.lst [(.call "_law_cell_at" [(.v 0), (.c (.int 0))])]) (.sl (.v 0) (some (.c (.int 1))) (some (.c (.int 5)))))) [some (scr ns), none, none, none, none, none, none, none, none, none, none] [] = .ok (.lst 2) [.lst [.int c], .lst ((cut ns (some 1) (some 5)).map .int), .lst (cs.map .int)] := by
    have sl : evSl (scr ns) (some 1) (some 5) [.lst [.int c]] = .ok (.ref 1) [.lst [.int c], .lst ((cut ns (some 1) (some 5)).map .int)] := by
      show new (.lst (cut (ns.map .int) (some 1) (some 5))) _ = _
      rw [cut_map]; rfl
    have ad : evBin .Add (.ref 0) (.ref 1) [.lst [.int c], .lst ((cut ns (some 1) (some 5)).map .int)] = .ok (.ref 2) [.lst [.int c], .lst ((cut ns (some 1) (some 5)).map .int), .lst (cs.map .int)] := by
      rw [bAddL (xs := [.int c]) (ys := (cut ns (some 1) (some 5)).map .int) rfl rfl (by rw [List.length_map]; simp only [List.length_cons, List.length_nil, LIM]; omega)]
      rfl
    simp [evIt, evE, evEs, evO, C6, e1, new, sl, ad, itOf]
  have key := for_ind (tgt := evTg C6 (.nm 1)) (body := evSs C6 outerB) (J := .lst 2) (n := cs.length) (item := fun i => .int (cs[i]?.getD 0))
    (fun i σ k => Ext [.lst [.int c], .lst ((cut ns (some 1) (some 5)).map .int), .lst (cs.map .int)] k ∧ ∃ x0 x1 x2 x3 x4 x5 x6 x7 x8 x9 x10, σ = [x0, x1, x2, x3, x4, x5, x6, x7, x8, x9, x10])
    (fun i σ k g => by
      obtain ⟨E, _⟩ := g
      have := E 2 _ rfl
      simp only [It.next, this, List.getElem?_map]
      by_cases hi : i < cs.length
      · rw [if_pos hi, List.getElem?_eq_getElem (by exact hi)]; rfl
      · rw [if_neg hi, List.getElem?_eq_none (by omega)]; rfl)
    (fun i σ k hi g => by
      obtain ⟨E, x0, x1, x2, x3, x4, x5, x6, x7, x8, x9, x10, rfl⟩ := g
      obtain ⟨k', y2, y3, y4, y5, y6, y7, y8, y9, y10, e, E2⟩ := outer_run (x0 := x0) (x2 := x2) (x3 := x3) (x4 := x4) (x5 := x5) (x6 := x6) (x7 := x7) (x8 := x8) (x9 := x9) (x10 := x10) (c := cs[i]?.getD 0) k
      exact ⟨_, k, rfl, _, k', e, E.trans E2, _, _, _, _, _, _, _, _, _, _, _, rfl⟩)
    FUEL 0 [some (scr ns), none, none, none, none, none, none, none, none, none, none] [.lst [.int c], .lst ((cut ns (some 1) (some 5)).map .int), .lst (cs.map .int)] (by simp only [cs, List.length_cons, FUEL]; omega) (Nat.zero_le _) ⟨Ext.refl _, _, _, _, _, _, _, _, _, _, _, _, rfl⟩
  obtain ⟨σ', h', e, -, -⟩ := key
  have st1 : evS C6 (.for (.nm 1) (.val (.bin .Add (.lst [(.call "_law_cell_at" [(.v 0), (.c (.int 0))])]) (.sl (.v 0) (some (.c (.int 1))) (some (.c (.int 5)))))) outerB) [some (scr ns), none, none, none, none, none, none, none, none, none, none] [] = .nx σ' h' := by
    have fu : C6.fuel = FUEL := rfl
    rw [evS, it, R.st_ok, fu, e]
  have body : f_law.body = [(.for (.nm 1) (.val (.bin .Add (.lst [(.call "_law_cell_at" [(.v 0), (.c (.int 0))])]) (.sl (.v 0) (some (.c (.int 1))) (some (.c (.int 5)))))) outerB), (.ret (some (.c (.bl true))))] := rfl
  have np : f_law.np = 1 := rfl
  have ns' : f_law.ns = 11 := rfl
  refine ⟨h', ?_⟩
  show run C6 f_law [scr ns] [] = _
  simp only [run, body, np, ns', evSs, List.map_cons, List.map_nil, List.length_cons, List.length_nil, List.cons_append, List.nil_append, List.replicate, st1]
  rfl
end Ev.K32
end
section
set_option Elab.async false
set_option linter.all false
set_option maxRecDepth 100000
set_option maxHeartbeats 0
/-! the end for k32 -/
namespace Ev.K32
open PySem PySem.Spec PyProof.Rows Ev
theorem mem_law : e_law ∈ L.tbl := by
  simp only [L, List.mem_cons, List.not_mem_nil, or_false, true_or, or_true]
theorem the_end {K : PySem.W.Frag} {mg : Str → Option Value} {h : Heap} {w : World} {fa : Addr} (KX : K.In h) (G : h.Ns mainGlobals mg) (c : hobs L K = hval L) (hmg : mg ("law" : Str) = some (.ref fa)) :
    ∃ (K : PySem.W.Frag) (fd : FuncData) (sp : List D → Hd → R D), K.In h ∧ (∀ (s : Shared) (u : Value), BindsTo s fd ⟨[u], []⟩ [("_law_script", u)]) ∧ (∀ ns : List Int, ns.length ≤ 63 → ∃ h', sp [scr ns] [] = .ok (.bl true) h') ∧
        ∀ base : Heap, K.In base → base.Ns mainGlobals mg → FnE PySem.Challenge.pw_knockpurse_k32_rows_of_deeds w K mg base 7 fa fd ["_law_script"] sp := by
  obtain ⟨fd, OW, hb⟩ := own_of KX G c mem_law o_law
  have e := (OW.at_ rfl).symm.trans hmg
  cases e
  exact ⟨K, fd, run (cxN L.P FUEL 6) f_law, KX, fun s u => hb s [u] rfl, law_run, fun base KB GB => fnE_own (wd_of KX G c all_ok) (callOk (wd_of KX G c all_ok) FUEL 6) rfl rfl OW⟩
end Ev.K32
open PySem PySem.W PyProof.Rows in
set_option maxRecDepth 100000 in
set_option maxHeartbeats 0 in
theorem PySem.Challenge.cw_knockpurse_k32_rows_of_deeds_holds : PySem.Challenge.rw_knockpurse_k32_rows_of_deeds.Holds := by
  w_on; o_law
  refine HandSHeadRun.head_any (r := OpenLaw.row PySem.Challenge.rw_knockpurse_k32_rows_of_deeds) (q := view (OpenLaw.row PySem.Challenge.rw_knockpurse_k32_rows_of_deeds).prog [Ev.K32.lawIx]) (H := Ev.K32.L.hook 5) (ob := Ev.K32.L.ob 5) (M := 4000) (loose := Ev.K32.loose) (d := HandSHeadRun.topDef (OpenLaw.row PySem.Challenge.rw_knockpurse_k32_rows_of_deeds).prog Ev.K32.lawIx) (kwd := []) (Ev.ob_eq Ev.K32.L 5)
    (by kernel_rfl) (fun s => by kernel_rfl) Ev.K32.run_top (by kernel_rfl) (by kernel_rfl) (by kernel_rfl) (by rfl) (by first | assumption | decide +kernel) (by decide +kernel) ⟨rfl, rfl, rfl, rfl, rfl, by decide +kernel⟩ ?hw ?hc
  case hw => w_witness2
  case hc =>
    refine Ev.walkE (l := PySem.Challenge.rw_knockpurse_k32_rows_of_deeds) (n := 63) (k := 7) (x := "_law_script") rfl (by decide) (by kernel_rfl) ⟨by decide, by decide, rfl⟩ ?F
    intro w mg fa h Y G hmg0
    obtain ⟨K, KX, c⟩ := Y
    have hmg : mg ("law" : PySem.Str) = some (.ref fa) := by
      have e : (HandSHeadRun.topDef (OpenLaw.row PySem.Challenge.rw_knockpurse_k32_rows_of_deeds).prog Ev.K32.lawIx).name = ("law" : PySem.Str) := by kernel_rfl
      rw [← e]
      exact hmg0
    exact Ev.K32.the_end KX G c hmg
end
