import PyProof.Rows.All
import Wide.All
import OpenK.AllK
import Wide.FinOn
import KE.SortData
import KE.KTupSum
import KE.DataMinMax
import KE.DataFind
import HandS.ForMost
import HandS.Walk
import HandS.Zip
import HandS.TupAny
import HandS.Wide
import HandS.Style
import HandS.Exc
import HandS.ExcOwn
import HandS.TupMul
import HandS.Deep
import HandS.Flow
import HandS.IsInst
import KE.GoesEnum
import HandS.Codes
import HandS.ExcCtx
import KE.KExcSuper
import HandS.ExcInit
import HandS.Nested
import HandS.FStr
import HandS.ExcField
import KE.KExcIs
import HandS.ExcIs
import HandS.HotCalls
import HandS.NestedHot
import HandS.RaiseFrom
import HandS.SuiteRaise
import HandS.ExcInitHot
import HandS.Defaults
import HandS.Head0
import HandS.Head1
import HandS.Head2
import HandS.HeadEnd
import HandS.EndBits
import HandS.HeadHook1
import HandS.HeadHook2
import PyProof.Rows.ReprShort
import KE.KStateDown
import PySem.Challenge.RW_opensjust_k12_whole_wafers
set_option Elab.async false
set_option linter.all false
set_option maxRecDepth 100000
set_option maxHeartbeats 0
/-! Ev: an evaluator of a small Python over pure data; lists are values, owned by one place. -/
namespace Ev
open PySem

/-- data: lists are values -/
inductive PV where
  | undef | non
  | bl (b : Bool) | int (i : Int) | str (s : Str)
  | tup (l : List PV) | lst (l : List PV)
  | fn (k : Nat) | exc (c : Nat) (a : PV)
  /-- the script: a list that nobody changes -/
  | scr (l : List PV)
  deriving Inhabited

mutual
def PV.pd : PV → PyData
  | .bl b => .bool b
  | .int i => .int i
  | .str s => .str s
  | .tup l => .tuple (PV.pds l)
  | .lst l => .list (PV.pds l)
  | .undef => .none
  | .non => .none
  | .fn _ => .none
  | .exc _ _ => .none
  | .scr _ => .none
def PV.pds : List PV → List PyData
  | [] => []
  | x :: l => PV.pd x :: PV.pds l
end
mutual
/-- made of None, bools, asIntsP, texts, tuples, lists -/
def PV.data : PV → Bool
  | .tup l => PV.datas l
  | .lst l => PV.datas l
  | .undef => false
  | .fn _ => false
  | .exc _ _ => false
  | .scr _ => false
  | .bl _ => true
  | .int _ => true
  | .str _ => true
  | .non => true
def PV.datas : List PV → Bool
  | [] => true
  | x :: l => PV.data x && PV.datas l
end
mutual
/-- no list in it -/
def PV.lf : PV → Bool
  | .tup l => PV.lfs l
  | .lst _ => false
  | .undef => false
  | .fn _ => true
  | .exc _ _ => false
  | .scr _ => true
  | .bl _ => true
  | .int _ => true
  | .str _ => true
  | .non => true
def PV.lfs : List PV → Bool
  | [] => true
  | x :: l => PV.lf x && PV.lfs l
end
abbrev Env := List PV
mutual
/-- no error in it -/
def PV.ne : PV → Bool
  | .tup l => PV.nes l
  | .lst l => PV.nes l
  | .scr l => PV.nes l
  | .exc _ _ => false
  | .undef => true
  | .fn _ => true
  | .bl _ => true
  | .int _ => true
  | .str _ => true
  | .non => true
def PV.nes : List PV → Bool
  | [] => true
  | x :: l => PV.ne x && PV.nes l
end
/-- what an error may keep -/
def xarg : PV → Bool
  | .str s => decide (s.length ≤ 1000)
  | .int i => decide (i.natAbs.log2 < 1920)
  | _ => false
/-- is an error of class d one of class c (none: ValueError; 0: the base of all) -/
def isxB (c : Option Nat) (d : Nat) : Bool := match c with
  | none => true
  | some c => c == 0 || c == d
/-- behind an except clause that returned: the first slot alone -/
def keep0 : Env → Env
  | [] => []
  | x :: l => (if x.ne = true then x else .undef) :: List.replicate l.length .undef

/-! ### the syntax -/
inductive Ty | int | bool | tuple | str | list | own (c : Nat) | exc
  deriving DecidableEq, Inhabited
inductive Blt | len | tuple | list | sum | all | any | min | max | sorted | abs | int | repr | str | bool
  deriving DecidableEq, Inhabited
inductive Mth | count | index
  deriving DecidableEq, Inhabited
/-- targets -/
inductive T | n (i : Nat) | nil | cons (a : T) (r : T)
  deriving DecidableEq, Inhabited
mutual
inductive E where
  | c (p : PV) | g (x : Str) (v : PV) | fn (k : Nat)
  | v (i : Nat) | m (i : Nat) | mv (i : Nat)
  | chk (e : E) | chk1 (e : E)
  | bin (op : Operator) (a b : E) | neg (a : E) | not (a : E)
  | and (a b : E) | or (a b : E)
  | cmp (op : CmpOp) (a b : E) | cmp2 (o1 o2 : CmpOp) (a b c : E)
  | ife (c a b : E)
  | call (k : Nat) (es : Es) | callr (k i : Nat) (es : Es) | callrm (k i j : Nat) | callv (i : Nat) (ks : List Nat) (es : Es)
  | blt (b : Blt) (es : Es) | mth (m : Mth) (o : E) (e : E)
  | isi (a : E) (ty : Ty)
  | attr (a : E)
  | tup (es : Es) | lst (es : Es)
  | idx (a i : E) | sl (a : E) (lo hi : OE) | rev (a : E)
  | comp (own : List Nat) (tg : T) (it : It) (c : OE) (e : E)
  /-- for tg in it if c for t1 in it1 if c1; own1: the second target's slots -/
  | comp2 (own : List Nat) (tg : T) (it : It) (c : OE) (own1 : List Nat) (t1 : T) (it1 : It) (c1 : OE) (e : E)
  /-- isinstance(slot i, the class c | ValueError); the word of the error in slot i, which is of one of these classes -/
  | isx (i : Nat) (c : Option Nat) | fld (i : Nat) (cs : List Nat)
inductive Es where
  | nil | cons (e : E) (es : Es)
inductive OE where
  | no | so (e : E)
inductive It where
  | e (a : E) | m (a : E) | rng (es : Es) | enum (a : E) | zip (es : Es)
end
mutual
inductive S where
  | asg (t : T) (e : E) | masg (i : Nat) (e : E) | aug (i : Nat) (op : Operator) (e : E)
  | app (i : Nat) (e : E) | set (i : Nat) (p : E) (e : E) | augs (i : Nat) (p : E) (op : Operator) (e : E)
  | ex (e : E) | ret (e : E) | retn
  | ite (c : E) (a b : Ss)
  | for (t : T) (it : It) (b : Ss) | form (t : T) (i : Nat) (b : Ss) | whl (c : E) (b : Ss)
  | raise (c : Nat) (e : E)
  /-- except the class c as slot i; cs: the classes that may come -/
  | try (b : Ss) (c i : Nat) (cs : List Nat) (h : Ss)
  /-- except the class c: raise d(p) from None -/
  | tryf (b : Ss) (c : Nat) (cs : List Nat) (d : Nat) (p : PV)
  | brk | cont | pass
  /-- never reached -/
  | bad
inductive Ss where
  | nil | cons (s : S) (ss : Ss)
end

/-! ### results -/
inductive Res (α : Type) where
  | ok (a : α) | raise (c : Nat) (a : PV) (env : Env) | fail
def Res.nr {α : Type} : Res α → Res α
  | .ok a => .ok a
  | _ => .fail
def Res.bind {α β : Type} : Res α → (α → Res β) → Res β
  | .ok a, f => f a
  | .raise c a e, _ => .raise c a e
  | .fail, _ => .fail
inductive CR where
  | ok (v br : PV) | raise (c : Nat) (a br : PV) | fail
inductive Out where
  | nx (env : Env) | rt (v : PV) (env : Env) | bk (env : Env) | ct (env : Env) | raise (c : Nat) (a : PV) (env : Env) | fail
def Res.out {α : Type} : Res α → (α → Out) → Out
  | .ok a, f => f a
  | .raise c a e, _ => .raise c a e
  | .fail, _ => .fail
def Out.seq : Out → (Env → Out) → Out
  | .nx e, f => f e
  | o, _ => o

/-! ### operations -/
def ofC : Const → Option PV
  | .none => some .non
  | .bool b => some (.bl b)
  | .int i => some (.int i)
  | .str s => some (.str s)
  | _ => none
/-- truth -/
def truth : PV → Option Bool
  | .non => some false
  | .bl b => some b
  | .int i => some (i != 0)
  | .str s => if s.length ≤ sizeLine then some (s.length != 0) else none
  | .tup l => some (!l.isEmpty)
  | .lst l => some (!l.isEmpty)
  | _ => none
def PV.b2i : Bool → Int
  | true => 1
  | false => 0
def mulOk (i j : Int) : Bool := (decide (i.natAbs.log2 + j.natAbs.log2 < 1000000)) || (decide (-(2 ^ 64) < j) && decide (j < 2 ^ 64)) || (decide (-(2 ^ 64) < i) && decide (i < 2 ^ 64))
def fdivOk (j : Int) : Bool := decide (j ≠ 0) && decide (j.natAbs < 1073741824) || decide (0 < j) && decide (j.natAbs.log2 < 9000)
def rep (l : List PV) (k : Int) : List PV := (List.replicate k.toNat l).flatten
def binop : Operator → PV → PV → Option PV
  | .Add, .int i, .int j => some (.int (i + j))
  | .Add, .int i, .bl b => some (.int (i + PV.b2i b))
  | .Add, .str x, .str y => if x.length + y.length ≤ sizeLine then some (.str (x ++ y)) else none
  | .Add, .tup l, .tup r => if l.length + r.length ≤ sizeLine then some (.tup (l ++ r)) else none
  | .Add, .lst l, .lst r => if l.length + r.length ≤ sizeLine then some (.lst (l ++ r)) else none
  | .Sub, .int i, .int j => some (.int (i - j))
  | .Mult, .int i, .int j => if mulOk i j then some (.int (i * j)) else none
  | .Mult, .lst l, .int k => if l.length * k.toNat ≤ sizeLine ∧ -(2 ^ 63) ≤ k ∧ k < 2 ^ 63 then some (.lst (rep l k)) else none
  | .Mult, .tup l, .int k => if l.length ≤ 1000 ∧ 0 < l.length ∧ 2 ≤ k ∧ k ≤ 1000 then some (.tup (rep l k)) else none
  | .FloorDiv, .int i, .int j => if fdivOk j then some (.int (i.fdiv j)) else none
  | .Mod, .int i, .int j => if j ≠ 0 then some (.int (i.fmod j)) else none
  | .Pow, .int i, .int j => if 0 ≤ j ∧ j ≤ 1000000 ∧ i.natAbs < 2 ^ 64 then some (.int (i ^ j.toNat)) else none
  | .LShift, .int i, .int j => if 0 ≤ j ∧ j ≤ 1000000 ∧ i.natAbs < 2 ^ 64 then some (.int (i * 2 ^ j.toNat)) else none
  | .RShift, .int i, .int j => if 0 ≤ j then some (.int (i / 2 ^ j.toNat)) else none
  | .BitAnd, .int i, .int j => some (.int (Builtin.bitAnd i j))
  | .BitOr, .int i, .int j => some (.int (Builtin.bitOr i j))
  | .BitXor, .int i, .int j => some (.int (Builtin.bitXor i j))
  | _, _, _ => none
def augop : Operator → PV → PV → Option PV
  | .Add, .int i, .int j => some (.int (i + j))
  | .Add, .tup l, .tup r => if l.length + r.length ≤ sizeLine then some (.tup (l ++ r)) else none
  | .Sub, .int i, .int j => some (.int (i - j))
  | .Mult, .int i, .int j => if (-(2 ^ 64) < i ∧ i < 2 ^ 64) ∨ (-(2 ^ 64) < j ∧ j < 2 ^ 64) then some (.int (i * j)) else none
  | .FloorDiv, .int i, .int j => if 0 < j ∧ j < 1073741824 then some (.int (i / j)) else none
  | _, _, _ => none
def ixN (n : Nat) (i : Int) : Option Nat := if 0 ≤ i then (if i < n then some i.toNat else none) else if -(n : Int) ≤ i then some (i + n).toNat else none
def atI {α : Type} (xs : List α) (i : Int) : Option α := (ixN xs.length i).bind fun j => xs[j]?
def sIx (n d : Nat) : Option Int → Nat
  | none => d
  | some v => if v < 0 then (v + n).toNat else min v.toNat n
def cut {α : Type} (xs : List α) (lo hi : Option Int) : List α := (xs.drop (sIx xs.length 0 lo)).take (sIx xs.length xs.length hi - sIx xs.length 0 lo)
def index : PV → PV → Option PV
  | .tup l, .int i => atI l i
  | .lst l, .int i => atI l i
  | .str s, .int i => if s.length ≤ sizeLine then (atI s.cps.toList i).map fun c => .str ⟨#[c]⟩ else none
  | _, _ => none
def slice : PV → Option Int → Option Int → Option PV
  | .tup l, a, b => some (.tup (cut l a b))
  | .lst l, a, b => some (.lst (cut l a b))
  | .str s, a, b => if s.length ≤ sizeLine then some (.str ⟨(cut s.cps.toList a b).toArray⟩) else none
  | _, _, _ => none
def eqOk (x y : PV) : Bool := x.data && y.data && SeqAt.shaped x.pd && SeqAt.shaped y.pd
def ltOk (x y : PV) : Bool := x.data && y.data && PySem.W.alike x.pd y.pd && decide (x.pd.depth ≤ 64) && (match x.pd with | .none => false | _ => true)
def flat : PV → Bool
  | .non => true
  | .bl _ => true
  | .int _ => true
  | .str _ => true
  | _ => false
/-- x in l -/
def inOk (x : PV) (l : List PV) : Bool := x.data && PV.datas l && SeqAt.shaped x.pd && SeqAt.shaped (.list (PV.pds l))
def inP (x : PV) (l : List PV) : Bool := (PV.pds l).any fun d => PyData.eqv d x.pd
def cmpop : CmpOp → PV → PV → Option Bool
  | .Eq, .str x, .str y => some (decide (x = y))
  | .NotEq, .str x, .str y => some (!decide (x = y))
  | .Eq, x, y => if eqOk x y then some (PyData.eqv x.pd y.pd) else none
  | .NotEq, x, y => if eqOk x y then some (!PyData.eqv x.pd y.pd) else none
  | .Lt, .int i, .int j => some (decide (i < j))
  | .LtE, .int i, .int j => some (decide (i ≤ j))
  | .Gt, .int i, .int j => some (decide (j < i))
  | .GtE, .int i, .int j => some (decide (j ≤ i))
  | .Lt, x, y => if ltOk x y then some (PySem.W.dataLt x.pd y.pd) else none
  | .LtE, x, y => if ltOk x y then some (!PySem.W.dataLt y.pd x.pd) else none
  | .Gt, x, y => if ltOk x y then some (PySem.W.dataLt y.pd x.pd) else none
  | .GtE, x, y => if ltOk x y then some (!PySem.W.dataLt x.pd y.pd) else none
  | .Is, x, .non => match x with
    | .undef => none
    | .non => some true
    | _ => some false
  | .IsNot, x, .non => match x with
    | .undef => none
    | .non => some false
    | _ => some true
  | .In, x, .tup l => if inOk x l then some (inP x l) else none
  | .In, x, .lst l => if inOk x l then some (inP x l) else none
  | .NotIn, x, .tup l => if inOk x l then some (!inP x l) else none
  | .NotIn, x, .lst l => if inOk x l then some (!inP x l) else none
  | _, _, _ => none
def asIntsP : List PV → Option (List Int)
  | [] => some []
  | .int i :: l => (asIntsP l).map (i :: ·)
  | _ :: _ => none
def asBlsP : List PV → Option (List Bool)
  | [] => some []
  | .bl i :: l => (asBlsP l).map (i :: ·)
  | _ :: _ => none
def seqOf : PV → Option (List PV)
  | .tup l => some l
  | .lst l => some l
  | .scr l => some l
  | _ => none
/-- the first least item -/
def best (lt : PV → PV → Bool) : PV → List PV → PV
  | x, [] => x
  | x, y :: l => if lt y x then best lt y l else best lt x l
def ordOk (l : List PV) : Bool := l.all fun x => l.all fun y => ltOk x y
def pmin : List PV → Option PV
  | [] => none
  | x :: l => if ordOk (x :: l) then some (best (fun a b => PySem.W.dataLt a.pd b.pd) x l) else none
def pmax : List PV → Option PV
  | [] => none
  | x :: l => if ordOk (x :: l) then some (best (fun a b => PySem.W.dataLt b.pd a.pd) x l) else none
def sortOk (l : List PV) : Bool := ordOk l && ((l.all fun x => match x with | .tup (_ :: _) => true | _ => false) || (l.all fun x => match x with | .tup _ => false | _ => true))
def psort (l : List PV) : List PV := l.mergeSort (fun a b => !PySem.W.dataLt b.pd a.pd)
def reprOk (x : PV) : Bool := x.data && x.pd.showable && decide (x.pd.depth ≤ 60) && decide (x.pd.shown.length ≤ sizeLine)
def evalB : Blt → List PV → Option PV
  | .len, [.tup l] => some (.int l.length)
  | .len, [.lst l] => some (.int l.length)
  | .len, [.str s] => if s.length ≤ sizeLine then some (.int s.length) else none
  | .tuple, [.tup l] => some (.tup l)
  | .tuple, [.lst l] => some (.tup l)
  | .list, [.tup l] => some (.lst l)
  | .list, [.scr l] => some (.lst l)
  | .list, [.lst l] => some (.lst l)
  | .sum, [.lst l] => (asIntsP l).map fun ns => .int ns.sum
  | .sum, [.tup l] => (asIntsP l).map fun ns => .int ns.sum
  | .all, [.lst l] => (asBlsP l).map fun bs => .bl (bs.all id)
  | .any, [.lst l] => (asBlsP l).map fun bs => .bl (bs.any id)
  | .min, [.lst l] => pmin l
  | .max, [.lst l] => pmax l
  | .min, [.int i, .int j] => some (.int (if j < i then j else i))
  | .max, [.int i, .int j] => some (.int (if j > i then j else i))
  | .sorted, [.lst l] => if sortOk l then some (.lst (psort l)) else none
  | .abs, [.int i] => some (.int (if i < 0 then -i else i))
  | .int, [.int i] => some (.int i)
  | .int, [.bl b] => some (.int (PV.b2i b))
  | .repr, [x] => if reprOk x then some (.str x.pd.shown) else none
  | .str, [.int i] => if i.natAbs.log2 < 1920 then some (.str (toString i)) else none
  | .bool, [.int i] => some (.bl (i != 0))
  | .bool, [.bl b] => some (.bl b)
  | _, _ => none
def evalM : Mth → List PV → PV → Option PV
  | .count, l, x => if inOk x l then some (.int ((PV.pds l).countP fun y => PyData.eqv y x.pd)) else none
  | .index, l, x => if inOk x l then ((PV.pds l).findIdx? fun y => PyData.eqv y x.pd).map fun j => .int j else none
def isinst : PV → Ty → Option Bool
  | .undef, _ => none
  | .fn _, _ => none
  | .scr _, _ => none
  | .exc c _, .own d => some (d == 0 || d == c)
  | .exc _ _, .exc => some true
  | .exc _ _, _ => none
  | .int _, t => some (t == .int)
  | .bl _, t => some (t == .int || t == .bool)
  | .str _, t => some (t == .str)
  | .tup _, t => some (t == .tuple)
  | .lst _, t => some (t == .list)
  | .non, _ => some false
mutual
def assign : T → PV → Env → Option Env
  | .n i, x, env => some (env.set i x)
  | .nil, x, env => match x with
    | .tup [] => some env
    | _ => none
  | .cons a r, x, env => match x with
    | .tup (y :: l) => (assign a y env).bind fun e => assign r (.tup l) e
    | _ => none
end
def pairs (n : Int) : List PV → List PV
  | [] => []
  | x :: l => .tup [.int n, x] :: pairs (n + 1) l
def zips : List PV → List PV → List PV
  | x :: l, y :: r => .tup [x, y] :: zips l r
  | _, _ => []
def zip2 : PV → PV → Option (List PV)
  | .tup l, .tup r => some (zips l r)
  | .lst l, .lst r => some (zips l r)
  | _, _ => none
def enumOf : PV → Option (List PV)
  | .tup l => some (pairs 0 l)
  | .lst l => some (pairs 0 l)
  | _ => none
def rng (a : Int) : Nat → List PV
  | 0 => []
  | n + 1 => .int a :: rng (a + 1) n
def rngC (a c : Int) : Nat → List PV
  | 0 => []
  | n + 1 => .int a :: rngC (a + c) c n
def small62 (i : Int) : Bool := decide (-4611686018427387904 ≤ i) && decide (i < 4611686018427387904)
def ranges : List PV → Option (List PV)
  | [.int j] => if small62 j then some (rng 0 j.toNat) else none
  | [.int i, .int j] => if small62 i && small62 j then some (rng i (j - i).toNat) else none
  | [.int i, .int j, .int c] => if small62 i && small62 j && decide (c = -1) then some (rngC i (-1) (i - j).toNat) else none
  | _ => none
def wipe (own : List Nat) (env : Env) : Env := own.foldl (fun e i => e.set i .undef) env
def restore (own : List Nat) (e0 env : Env) : Env := own.foldl (fun e i => e.set i (e0.getD i .undef)) env
def compGo (f : PV → Env → Res (Option PV × Env)) : List PV → Env → Res (List PV × Env)
  | [], env => .ok ([], env)
  | x :: xs, env => (f x env).bind fun r => (compGo f xs r.2).bind fun q => .ok (match r.1 with | some y => y :: q.1 | none => q.1, q.2)
def catGo (f : PV → Env → Res (List PV × Env)) : List PV → Env → Res (List PV × Env)
  | [], env => .ok ([], env)
  | x :: xs, env => (f x env).bind fun r => (catGo f xs r.2).bind fun q => .ok (r.1 ++ q.1, q.2)
def ofO {α : Type} (o : Option α) : Res α := match o with
  | some a => .ok a
  | none => .fail
def get (env : Env) (i : Nat) : Res (PV × Env) := match env.getD i .undef with
  | .undef => .fail
  | x => .ok (x, env)

def getL (env : Env) (i : Nat) : Res (List PV × Env) := match env.getD i .undef with
  | .lst l => .ok (l, env)
  | _ => .fail

/-- the calls of defs, by their numbers -/
abbrev Calls := Nat → List PV → CR
def runCall (r : CR) (env : Env) : Res (PV × Env) := match r with
  | .ok v _ => .ok (v, env)
  | .raise c a _ => .raise c a env
  | .fail => .fail
def runCallR (r : CR) (i : Nat) (env : Env) : Res (PV × Env) := match r with
  | .ok v b => .ok (v, env.set i b)
  | .raise c a b => .raise c a (env.set i b)
  | .fail => .fail

section
variable (C : Calls)
mutual
def evalE : E → Env → Res (PV × Env)
  | .c p, env => .ok (p, env)
  | .g _ x, env => .ok (x, env)
  | .fn k, env => .ok (.fn k, env)
  | .v i, env => get env i
  | .m i, env => get env i
  | .mv i, env => (get env i).bind fun r => .ok (r.1, env.set i .undef)
  | .chk e, env => (evalE e env).bind fun r => if r.1.lf = true then .ok r else .fail
  | .chk1 e, env => (evalE e env).bind fun r => match r.1 with
    | .lst l => if PV.lfs l = true then .ok r else .fail
    | _ => .fail
  | .bin op a b, env => (evalE a env).bind fun r => (evalE b r.2).bind fun q => (ofO (binop op r.1 q.1)).bind fun x => .ok (x, q.2)
  | .neg a, env => (evalE a env).bind fun r => match r.1 with
    | .int i => .ok (.int (-i), r.2)
    | _ => .fail
  | .not a, env => (evalE a env).bind fun r => (ofO (truth r.1)).bind fun b => .ok (.bl (!b), r.2)
  | .and a b, env => (evalE a env).bind fun r => (ofO (truth r.1)).bind fun t => if t = true then evalE b r.2 else .ok r
  | .or a b, env => (evalE a env).bind fun r => (ofO (truth r.1)).bind fun t => if t = true then .ok r else evalE b r.2
  | .cmp op a b, env => (evalE a env).bind fun r => (evalE b r.2).bind fun q => (ofO (cmpop op r.1 q.1)).bind fun x => .ok (.bl x, q.2)
  | .cmp2 o1 o2 a b c, env => (evalE a env).bind fun r => (evalE b r.2).bind fun q => (ofO (cmpop o1 r.1 q.1)).bind fun x =>
      if x = true then (evalE c q.2).bind fun p => (ofO (cmpop o2 q.1 p.1)).bind fun y => .ok (.bl y, p.2) else .ok (.bl false, q.2)
  | .ife c a b, env => (evalE c env).bind fun r => (ofO (truth r.1)).bind fun t => if t = true then evalE a r.2 else evalE b r.2
  | .call k es, env => (evalEs es env).bind fun r => runCall (C k r.1) r.2
  | .callr k i es, env => (get env i).bind fun _ => (evalEs es env).bind fun r => (get r.2 i).bind fun s => runCallR (C k (s.1 :: r.1)) i r.2
  | .callrm k i j, env => (get env i).bind fun s => (get env j).bind fun l => runCallR (C k [s.1, l.1]) i env
  | .callv i ks es, env => match env.getD i .undef with
    | .fn k => if k ∈ ks then (evalEs es env).bind fun r => runCall (C k r.1) r.2 else .fail
    | _ => .fail
  | .blt b es, env => (evalEs es env).bind fun r => (ofO (evalB b r.1)).bind fun x => .ok (x, r.2)
  | .mth m o e, env => (evalE o env).bind fun q => match q.1 with
    | .lst l => (evalE e q.2).bind fun r => (ofO (evalM m l r.1)).bind fun x => .ok (x, r.2)
    | _ => .fail
  | .isi a t, env => (evalE a env).bind fun r => (ofO (isinst r.1 t)).bind fun b => .ok (.bl b, r.2)
  | .attr a, env => (evalE a env).bind fun r => match r.1 with
    | .exc _ x => .ok (x, r.2)
    | _ => .fail
  | .tup es, env => (evalEs es env).bind fun r => .ok (.tup r.1, r.2)
  | .lst es, env => (evalEs es env).bind fun r => .ok (.lst r.1, r.2)
  | .idx a i, env => (evalE a env).bind fun r => (evalE i r.2).bind fun q => (ofO (index r.1 q.1)).bind fun x => .ok (x, q.2)
  | .sl a lo hi, env => (evalE a env).bind fun r => (evalO lo r.2).bind fun p => (evalO hi p.2).bind fun q => (ofO (slice r.1 p.1 q.1)).bind fun x => .ok (x, q.2)
  | .rev a, env => (evalE a env).bind fun r => match r.1 with
    | .lst l => .ok (.lst l.reverse, r.2)
    | .tup l => .ok (.tup l.reverse, r.2)
    | _ => .fail
  | .comp own tg it c e, env => (evalI it env).bind fun r =>
      (compGo (fun x en => ((ofO (assign tg x en)).bind fun en1 => (evalC c en1).bind fun t => if t.1 = true then (evalE e t.2).bind fun q => .ok (some q.1, wipe own q.2) else .ok (none, wipe own t.2)).nr)
        r.1 (wipe own r.2)).bind fun q => if q.1.length ≤ sizeLine then .ok (.lst q.1, restore own r.2 q.2) else .fail
  | .comp2 own tg it c own1 t1 it1 c1 e, env => (evalI it env).bind fun r =>
      (catGo (fun x en => ((ofO (assign tg x en)).bind fun en1 => (evalC c en1).bind fun t => if t.1 = true then (evalI it1 t.2).bind fun s =>
          (compGo (fun x en => ((ofO (assign t1 x en)).bind fun en1 => (evalC c1 en1).bind fun t => if t.1 = true then (evalE e t.2).bind fun q => .ok (some q.1, wipe own1 q.2) else .ok (none, wipe own1 t.2)).nr)
            s.1 (wipe own1 s.2)).bind fun q => .ok (q.1, wipe own q.2) else .ok ([], wipe own t.2)).nr)
        r.1 (wipe own r.2)).bind fun q => if q.1.length ≤ sizeLine then .ok (.lst q.1, restore own r.2 q.2) else .fail
  | .isx i c, env => match env.getD i .undef with
    | .exc d _ => .ok (.bl (isxB c d), env)
    | _ => .fail
  | .fld i cs, env => match env.getD i .undef with
    | .exc d x => if d ∈ cs then .ok (x, env) else .fail
    | _ => .fail
def evalC : OE → Env → Res (Bool × Env)
  | .no, env => .ok (true, env)
  | .so c, env => (evalE c env).bind fun p => (ofO (truth p.1)).bind fun t => .ok (t, p.2)
def evalEs : Es → Env → Res (List PV × Env)
  | .nil, env => .ok ([], env)
  | .cons e es, env => (evalE e env).bind fun r => (evalEs es r.2).bind fun q => .ok (r.1 :: q.1, q.2)
def evalO : OE → Env → Res (Option Int × Env)
  | .no, env => .ok (none, env)
  | .so e, env => (evalE e env).bind fun r => match r.1 with
    | .int i => .ok (some i, r.2)
    | _ => .fail
def evalI : It → Env → Res (List PV × Env)
  | .e a, env => (evalE a env).bind fun r => (ofO (seqOf r.1)).bind fun l => .ok (l, r.2)
  | .m a, env => (evalE a env).bind fun r => (ofO (seqOf r.1)).bind fun l => if PV.lfs l = true then .ok (l, r.2) else .fail
  | .rng es, env => (evalEs es env).bind fun r => (ofO (ranges r.1)).bind fun l => .ok (l, r.2)
  | .enum a, env => (evalE a env).bind fun r => (ofO (enumOf r.1)).bind fun l => .ok (l, r.2)
  | .zip es, env => (evalEs es env).bind fun r => match r.1 with
    | [x, y] => (ofO (zip2 x y)).bind fun l => .ok (l, r.2)
    | _ => .fail
end

/-! ### statements -/
def forGo (f : PV → Env → Out) : List PV → Env → Out
  | [], env => .nx env
  | x :: xs, env => match f x env with
    | .nx e => forGo f xs e
    | .ct e => forGo f xs e
    | .bk e => .nx e
    | o => o
/-- over the list in slot i, as it stands at each turn -/
def formGo (f : PV → Env → Out) (i : Nat) : Nat → Nat → Env → Out
  | 0, _, _ => .fail
  | n + 1, k, env => match env.getD i .undef with
    | .lst l => match l[k]? with
      | none => .nx env
      | some x => if x.lf = true then match f x env with
        | .nx e => formGo f i n (k + 1) e
        | .ct e => formGo f i n (k + 1) e
        | .bk e => .nx e
        | o => o else .fail
    | _ => .fail
def whileGo (c : Env → Res (PV × Env)) (f : Env → Out) : Nat → Env → Out
  | 0, _ => .fail
  | n + 1, env => (c env).out fun r => (ofO (truth r.1)).out fun t => if t = true then match f r.2 with
    | .nx e => whileGo c f n e
    | .ct e => whileGo c f n e
    | .bk e => .nx e
    | o => o else .nx r.2
def pushP (y : PV) (l : List PV) : Option PV := if l.length < sizeLine then some (.lst (l ++ [y])) else none
def setP (y : PV) (i : PV) (l : List PV) : Option PV := match i with
  | .int i => (ixN l.length i).map fun j => .lst (l.set j y)
  | _ => none
variable (W : Nat)
mutual
def evalS : S → Env → Out
  | .asg t e, env => (evalE C e env).out fun r => (ofO (assign t r.1 r.2)).out fun en => .nx en
  | .masg i e, env => (evalE C e env).out fun r => .nx (r.2.set i r.1)
  | .aug i op e, env => (get env i).out fun x => (evalE C e env).out fun r => (ofO (augop op x.1 r.1)).out fun z => .nx (r.2.set i z)
  | .app i e, env => (getL env i).out fun _ => (evalE C e env).out fun r => (getL r.2 i).out fun l => (ofO (pushP r.1 l.1)).out fun z => .nx (r.2.set i z)
  | .set i p e, env => (evalE C e env).out fun r => (getL r.2 i).out fun _ => (evalE C p r.2).out fun q => (getL q.2 i).out fun l => (ofO (setP r.1 q.1 l.1)).out fun z => .nx (q.2.set i z)
  | .augs i p op e, env => (getL env i).out fun _ => (evalE C p env).out fun q => (getL q.2 i).out fun l => (ofO (index (.lst l.1) q.1)).out fun x => (evalE C e q.2).out fun r => (ofO (augop op x r.1)).out fun y =>
      (getL r.2 i).out fun l => (ofO (setP y q.1 l.1)).out fun z => .nx (r.2.set i z)
  | .ex e, env => (evalE C e env).out fun r => .nx r.2
  | .ret e, env => (evalE C e env).out fun r => .rt r.1 r.2
  | .retn, env => .rt .non env
  | .ite c a b, env => (evalE C c env).out fun r => (ofO (truth r.1)).out fun t => if t = true then evalSs a r.2 else evalSs b r.2
  | .for t it b, env => (evalI C it env).out fun r => forGo (fun x en => (ofO (assign t x en)).out fun en1 => evalSs b en1) r.1 r.2
  | .form t i b, env => formGo (fun x en => (ofO (assign t x en)).out fun en1 => evalSs b en1) i W 0 env
  | .whl c b, env => whileGo (fun en => evalE C c en) (fun en => evalSs b en) W env
  | .raise c e, env => (evalE C e env).out fun r => if xarg r.1 = true then .raise c r.1 r.2 else .fail
  | .try b c i cs h, env => match evalSs b env with
    | .raise d a en => if d ∈ cs then (if c = 0 ∨ c = d then (match evalSs h (en.set i (.exc d a)) with
      | .rt p e => if p.ne = true then .rt p (keep0 e) else .fail
      | _ => .fail) else .raise d a en) else .fail
    | o => o
  | .tryf b c cs d p, env => match evalSs b env with
    | .raise q a en => if q ∈ cs then (if c = 0 ∨ c = q then (match (if xarg p = true then Out.raise d p en else .fail) with
      | .raise d2 a2 e2 => .raise d2 a2 e2
      | _ => .fail) else .raise q a en) else .fail
    | o => o
  | .brk, env => .bk env
  | .cont, env => .ct env
  | .pass, env => .nx env
  | .bad, _ => .fail
def evalSs : Ss → Env → Out
  | .nil, env => .nx env
  | .cons s ss, env => (evalS s env).seq fun e => evalSs ss e
end
end

/-! ### defs -/
structure Def where
  /-- parameters, slots; does the first parameter come by reference; is the result a new one -/
  np : Nat
  n : Nat
  br : Bool
  fresh : Bool
  ms : List Nat
  body : Ss
def start (d : Def) (args : List PV) : Env := args ++ List.replicate (d.n - d.np) .undef
def finish (d : Def) : Out → CR
  | .rt v env => if d.br = true then match env.getD 0 .undef with
    | .undef => .fail
    | b => .ok v b else .ok v .undef
  | .nx env => if d.br = true then match env.getD 0 .undef with
    | .undef => .fail
    | b => .ok .non b else .ok .non .undef
  | .raise c a env => if d.br = true then match env.getD 0 .undef with
    | .undef => .fail
    | b => .raise c a b else .raise c a .undef
  | _ => .fail
def callN (W : Nat) (P : List Def) : Nat → Calls
  | 0 => fun _ _ => .fail
  | n + 1 => fun k args => match P[k]? with
    | none => .fail
    | some d => if args.length = d.np then finish d (evalSs (callN W P n) W d.body (start d args)) else .fail
end Ev

/-! EvRep: what it means that a value of the layer is a PV. -/
namespace Ev
open PySem PySem.Spec PyProof.Rows L2

abbrev St := L2.St
/-- what is known beside the heap: the written part, the defs' addresses, the handled exception (object, class, its own dict) -/
structure Gl0 where
  K : PySem.W.Frag
  fa : Nat → Addr
  ex : Option (Addr × Nat × Addr)
  fld : Nat → Str
variable (G : Gl0)
/-- a list of the written part -/
def KLst (K : PySem.W.Frag) (a : Addr) (xs : List V) : Prop := ∃ (o : Obj) (its : Array Value) (n : Nat), K.lookup a = some o ∧ o.cls = .type "list" ∧ o.dict = none ∧ o.data = .seq its n ∧ its.size ≤ sizeLine ∧ Vals xs its.toList
mutual
/-- v is the datum; fp: the lists that it reaches -/
def RepF (H : Hp) : PV → V → List Addr → Prop
  | .undef, _, _ => False
  | .non, v, fp => v = .non ∧ fp = []
  | .bl b, v, fp => v = .bl b ∧ fp = []
  | .int i, v, fp => v = .int i ∧ fp = []
  | .str s, v, fp => v = .str s ∧ fp = []
  | .tup l, v, fp => ∃ a vs, v = .ref a ∧ SqT G.K H a vs ∧ RepL H l vs fp
  | .lst l, v, fp => ∃ a vs f, v = .ref a ∧ H a = some (.lst vs) ∧ RepL H l vs f ∧ fp = a :: f
  | .scr l, v, fp => ∃ a vs, v = .ref a ∧ ((∃ o, H a = some (.frz o (.lst vs))) ∨ KLst G.K a vs) ∧ RepL H l vs fp ∧ fp = []
  | .fn k, v, fp => v = .ref (G.fa k) ∧ fp = []
  | .exc c x, v, fp => ∃ a d y, v = .ref a ∧ G.ex = some (a, c, d) ∧ H d = some (.xd [(G.fld c, y)]) ∧ RepF H x y fp
def RepL (H : Hp) : List PV → List V → List Addr → Prop
  | [], vs, fp => vs = [] ∧ fp = []
  | p :: l, vs, fp => ∃ v vs' f f', vs = v :: vs' ∧ fp = f ++ f' ∧ RepF H p v f ∧ RepL H l vs' f'
end
/-- lists and tuples are not too long -/
def LenOk (K : PySem.W.Frag) (H : Hp) : Prop := (∀ a xs, SqL K H a xs → xs.length ≤ sizeLine) ∧ ∀ a xs, SqT K H a xs → xs.length ≤ sizeLine

/-- what stands outside O stays -/
def Stay (O : Addr → Prop) (H H' : Hp) : Prop := ∀ a o, H a = some o → ¬ O a → H' a = some o
/-- O holds lists alone -/
def Lsts (O : Addr → Prop) (H : Hp) : Prop := ∀ a, O a → ∃ vs, H a = some (.lst vs)

variable {G}
variable {H H' : Hp} {O : Addr → Prop}
theorem Stay.sqT (st : Stay O H H') (ls : Lsts O H) {a : Addr} {vs : List V} (h : SqT G.K H a vs) : SqT G.K H' a vs := by
  rcases h with (h | ⟨o, h⟩) | h
  · refine .inl (.inl (st a _ h fun z => ?_))
    obtain ⟨vs', e⟩ := ls a z
    rw [h] at e; cases e
  · refine .inl (.inr ⟨o, st a _ h fun z => ?_⟩)
    obtain ⟨vs', e⟩ := ls a z
    rw [h] at e; cases e
  · exact .inr h
theorem Stay.sqL (st : Stay O H H') {a : Addr} {vs : List V} (n : ¬ O a) (h : SqL G.K H a vs) : SqL G.K H' a vs := by
  rcases h with (h | ⟨o, h⟩) | h
  · exact .inl (.inl (st a _ h n))
  · exact .inl (.inr ⟨o, st a _ h n⟩)
  · exact .inr h
theorem Stay.xd (st : Stay O H H') (ls : Lsts O H) {a : Addr} {fs : List (Str × V)} (h : H a = some (.xd fs)) : H' a = some (.xd fs) := st a _ h fun z => by
  obtain ⟨vs', e⟩ := ls a z
  rw [h] at e; cases e
mutual
theorem RepF.stay (st : Stay O H H') (ls : Lsts O H) : ∀ (p : PV) (v : V) (fp : List Addr), RepF G H p v fp → (∀ a ∈ fp, ¬ O a) → RepF G H' p v fp
  | .undef, _, _, h, _ => h
  | .non, _, _, h, _ => h
  | .bl _, _, _, h, _ => h
  | .int _, _, _, h, _ => h
  | .str _, _, _, h, _ => h
  | .fn _, _, _, h, _ => h
  | .tup l, v, fp, h, n => by
    obtain ⟨a, vs, e, hs, hl⟩ := h
    exact ⟨a, vs, e, st.sqT ls hs, RepL.stay st ls l vs fp hl n⟩
  | .lst l, v, fp, h, n => by
    obtain ⟨a, vs, f, e, hs, hl, rfl⟩ := h
    exact ⟨a, vs, f, e, st a _ hs (n a (by simp)), RepL.stay st ls l vs f hl fun b hb => n b (by simp [hb]), rfl⟩
  | .scr l, v, fp, h, n => by
    obtain ⟨a, vs, e, hs, hl, rfl⟩ := h
    refine ⟨a, vs, e, ?_, RepL.stay st ls l vs _ hl n, rfl⟩
    rcases hs with ⟨o, h⟩ | h
    · refine .inl ⟨o, st a _ h fun z => ?_⟩
      obtain ⟨vs', e⟩ := ls a z
      rw [h] at e; cases e
    · exact .inr h
  | .exc c x, v, fp, h, n => by
    obtain ⟨a, d, y, e, hx, hd, hr⟩ := h
    exact ⟨a, d, y, e, hx, st.xd ls hd, RepF.stay st ls x y fp hr n⟩
theorem RepL.stay (st : Stay O H H') (ls : Lsts O H) : ∀ (p : List PV) (v : List V) (fp : List Addr), RepL G H p v fp → (∀ a ∈ fp, ¬ O a) → RepL G H' p v fp
  | [], _, _, h, _ => h
  | x :: l, v, fp, h, n => by
    obtain ⟨y, vs, f, f', e, rfl, h1, h2⟩ := h
    exact ⟨y, vs, f, f', e, rfl, RepF.stay st ls x y f h1 fun a ha => n a (by simp [ha]), RepL.stay st ls l vs f' h2 fun a ha => n a (by simp [ha])⟩
end
/-- everything stays -/
theorem RepF.same (st : ∀ a o, H a = some o → H' a = some o) {p : PV} {v : V} {fp : List Addr} (h : RepF G H p v fp) : RepF G H' p v fp :=
  RepF.stay (O := fun _ => False) (fun a o e _ => st a o e) (fun _ z => z.elim) p v fp h fun _ _ z => z
theorem RepL.same (st : ∀ a o, H a = some o → H' a = some o) {p : List PV} {v : List V} {fp : List Addr} (h : RepL G H p v fp) : RepL G H' p v fp :=
  RepL.stay (O := fun _ => False) (fun a o e _ => st a o e) (fun _ z => z.elim) p v fp h fun _ _ z => z
mutual
theorem RepF.lf : ∀ (p : PV) (v : V) (fp : List Addr), RepF G H p v fp → p.lf = true → fp = []
  | .undef, _, _, h, _ => h.elim
  | .non, _, _, h, _ => h.2
  | .bl _, _, _, h, _ => h.2
  | .int _, _, _, h, _ => h.2
  | .str _, _, _, h, _ => h.2
  | .fn _, _, _, h, _ => h.2
  | .tup l, v, fp, h, n => by
    obtain ⟨a, vs, e, hs, hl⟩ := h
    exact RepL.lf l vs fp hl (by simpa [PV.lf] using n)
  | .lst l, v, fp, h, n => by simp [PV.lf] at n
  | .scr l, v, fp, h, n => by
    obtain ⟨a, vs, e, hs, hl, rfl⟩ := h
    rfl
  | .exc c x, v, fp, h, n => by simp [PV.lf] at n
theorem RepL.lf : ∀ (p : List PV) (v : List V) (fp : List Addr), RepL G H p v fp → PV.lfs p = true → fp = []
  | [], _, _, h, _ => h.2
  | x :: l, v, fp, h, n => by
    obtain ⟨y, vs, f, f', e, rfl, h1, h2⟩ := h
    have n' : x.lf = true ∧ PV.lfs l = true := by simpa [PV.lfs] using n
    rw [RepF.lf x y f h1 n'.1, RepL.lf l vs f' h2 n'.2]
    rfl
end
theorem RepL.length : ∀ {p : List PV} {v : List V} {fp : List Addr}, RepL G H p v fp → v.length = p.length
  | [], _, _, h => by rw [h.1]; rfl
  | x :: l, v, fp, h => by
    obtain ⟨y, vs, f, f', rfl, rfl, h1, h2⟩ := h
    simp [RepL.length h2]
theorem RepL.get : ∀ {p : List PV} {v : List V} {fp : List Addr} {i : Nat} {x : PV}, RepL G H p v fp → p[i]? = some x → ∃ y f, v[i]? = some y ∧ RepF G H x y f ∧ ∀ a ∈ f, a ∈ fp
  | [], _, _, _, _, _, e => by simp at e
  | x :: l, v, fp, 0, z, h, e => by
    obtain ⟨y, vs, f, f', rfl, rfl, h1, h2⟩ := h
    simp at e; subst e
    exact ⟨y, f, rfl, h1, fun a ha => by simp [ha]⟩
  | x :: l, v, fp, i + 1, z, h, e => by
    obtain ⟨y, vs, f, f', rfl, rfl, h1, h2⟩ := h
    obtain ⟨y', f'', e', h', k⟩ := RepL.get (i := i) h2 (by simpa using e)
    exact ⟨y', f'', by simpa using e', h', fun a ha => by simp [k a ha]⟩
theorem RepL.append : ∀ {p q : List PV} {v u : List V} {f g : List Addr}, RepL G H p v f → RepL G H q u g → RepL G H (p ++ q) (v ++ u) (f ++ g)
  | [], q, v, u, f, g, h, k => by
    obtain ⟨rfl, rfl⟩ := h
    exact k
  | x :: l, q, v, u, f, g, h, k => by
    obtain ⟨y, vs, f1, f2, rfl, rfl, h1, h2⟩ := h
    exact ⟨y, vs ++ u, f1, f2 ++ g, rfl, by rw [List.append_assoc], h1, RepL.append h2 k⟩
theorem RepL.nil : RepL G H [] [] [] := ⟨rfl, rfl⟩
theorem RepL.cons {x : PV} {l : List PV} {y : V} {vs : List V} {f g : List Addr} (h : RepF G H x y f) (k : RepL G H l vs g) : RepL G H (x :: l) (y :: vs) (f ++ g) := ⟨y, vs, f, g, rfl, rfl, h, k⟩
theorem RepL.one {x : PV} {y : V} {f : List Addr} (h : RepF G H x y f) : RepL G H [x] [y] f := by
  have := RepL.cons h (RepL.nil (G := G) (H := H))
  simpa using this
/-- a part of the row -/
theorem RepL.take : ∀ {p : List PV} {v : List V} {fp : List Addr} (n : Nat), RepL G H p v fp → ∃ f, RepL G H (p.take n) (v.take n) f ∧ ∀ a ∈ f, a ∈ fp
  | _, _, fp, 0, _ => ⟨[], ⟨by simp, rfl⟩, fun _ z => by simp at z⟩
  | [], v, fp, n + 1, h => ⟨[], ⟨by simp [h.1], rfl⟩, fun _ z => by simp at z⟩
  | x :: l, v, fp, n + 1, h => by
    obtain ⟨y, vs, f1, f2, rfl, rfl, h1, h2⟩ := h
    obtain ⟨f, hf, k⟩ := RepL.take n h2
    refine ⟨f1 ++ f, RepL.cons h1 hf, fun a ha => ?_⟩
    rcases List.mem_append.mp ha with z | z
    · simp [z]
    · simp [k a z]
theorem RepL.drop : ∀ {p : List PV} {v : List V} {fp : List Addr} (n : Nat), RepL G H p v fp → ∃ f, RepL G H (p.drop n) (v.drop n) f ∧ ∀ a ∈ f, a ∈ fp
  | _, _, fp, 0, h => ⟨fp, h, fun _ z => z⟩
  | [], v, fp, n + 1, h => ⟨[], ⟨by simp [h.1], rfl⟩, fun _ z => by simp at z⟩
  | x :: l, v, fp, n + 1, h => by
    obtain ⟨y, vs, f1, f2, rfl, rfl, h1, h2⟩ := h
    obtain ⟨f, hf, k⟩ := RepL.drop n h2
    exact ⟨f, hf, fun a ha => by simp [k a ha]⟩
theorem RepL.split : ∀ {p q : List PV} {v : List V} {fp : List Addr}, RepL G H (p ++ q) v fp → ∃ v1 v2 f1 f2, v = v1 ++ v2 ∧ fp = f1 ++ f2 ∧ RepL G H p v1 f1 ∧ RepL G H q v2 f2
  | [], q, v, fp, h => ⟨[], v, [], fp, rfl, rfl, RepL.nil, h⟩
  | x :: l, q, v, fp, h => by
    obtain ⟨y, vs, f1, f2, rfl, rfl, h1, h2⟩ := h
    obtain ⟨v1, v2, g1, g2, rfl, rfl, a, b⟩ := RepL.split h2
    exact ⟨y :: v1, v2, f1 ++ g1, g2, rfl, by rw [List.append_assoc], RepL.cons h1 a, b⟩

theorem RepF.new {l : List PV} {a : Addr} {vs : List V} {f : List Addr} (h : H a = some (.lst vs)) (r : RepL G H l vs f) : RepF G H (.lst l) (.ref a) (a :: f) := ⟨a, vs, f, rfl, h, r, rfl⟩
/-! ### kinds -/
theorem RepF.shape_int {i : Int} {v : V} {fp : List Addr} (h : RepF G H (.int i) v fp) : v = .int i := h.1

/-! ### as PyData -/
mutual
theorem RepF.dp : ∀ (p : PV) (v : V) (fp : List Addr), RepF G H p v fp → p.data = true → Dp G.K H v p.pd
  | .undef, _, _, h, _ => h.elim
  | .non, _, _, h, _ => by rw [h.1]; exact .non
  | .bl _, _, _, h, _ => by rw [h.1]; exact .bl _
  | .int _, _, _, h, _ => by rw [h.1]; exact .int _
  | .str _, _, _, h, _ => by rw [h.1]; exact .str _
  | .fn _, _, _, h, n => by simp [PV.data] at n
  | .exc _ _, _, _, h, n => by simp [PV.data] at n
  | .tup l, v, fp, h, n => by
    obtain ⟨a, vs, rfl, hs, hl⟩ := h
    have n' : PV.datas l = true := by simpa [PV.data] using n
    show Dp G.K H (.ref a) (.tuple (PV.pds l))
    exact .tup hs (RepL.dp l vs fp hl n')
  | .lst l, v, fp, h, n => by
    obtain ⟨a, vs, f, rfl, hs, hl, rfl⟩ := h
    have n' : PV.datas l = true := by simpa [PV.data] using n
    show Dp G.K H (.ref a) (.list (PV.pds l))
    exact .lst (.of hs) (RepL.dp l vs f hl n')
  | .scr _, _, _, h, n => by simp [PV.data] at n
theorem RepL.dp : ∀ (p : List PV) (v : List V) (fp : List Addr), RepL G H p v fp → PV.datas p = true → DpAll G.K H v (PV.pds p)
  | [], _, _, h, _ => by rw [h.1]; exact .nil
  | x :: l, v, fp, h, n => by
    obtain ⟨y, vs, f, f', rfl, rfl, h1, h2⟩ := h
    have n' : x.data = true ∧ PV.datas l = true := by simpa [PV.datas] using n
    exact .cons (RepF.dp x y f h1 n'.1) (RepL.dp l vs f' h2 n'.2)
end
end Ev

/-! EvEnv: the frame's values, who owns which list, what a step may change; the readings. -/
namespace Ev
open PySem PySem.Spec PyProof.Rows L2

/-- a frame: the owning slots, the heap at the entry, the lists that came by reference, those that came at all, the wish of exceptions -/
structure Fr0 where
  G : Gl0
  ms : List Nat
  br : Bool
  H0 : Hp
  B : Addr → Prop
  A : Addr → Prop
  cls : Nat → Addr
  /-- slots that stand: their lists' addresses -/
  pin : Nat → Option V
/-- owned by some slot -/
def OW (ms : List Nat) (F : Nat → List Addr) (a : Addr) : Prop := ∃ i ∈ ms, a ∈ F i
structure EnvOk (R : Fr0) (σ : St) (H : Hp) (F : Nat → List Addr) (env : Env) : Prop where
  len : env.length = σ.length
  slot : ∀ i p, env[i]? = some p → p ≠ .undef → ∃ v, σ[i]? = some (some v) ∧ RepF R.G H p v (F i)
  non : ∀ i, env.getD i .undef = .undef → F i = []
  nd : ∀ i ∈ R.ms, (F i).Nodup
  mu : ∀ i ∈ R.ms, ∀ a ∈ F i, ∃ vs, H a = some (.lst vs)
  ow : ∀ i ∈ R.ms, ∀ a ∈ F i, R.H0 a = none ∨ (i = 0 ∧ R.br = true ∧ R.B a)
  dj : ∀ i ∈ R.ms, ∀ j, j ≠ i → ∀ a ∈ F i, a ∉ F j
  old : ∀ i, ∀ a ∈ F i, R.A a
  keep : ∀ a o, R.H0 a = some o → ¬ R.B a → H a = some o
  dom : ∀ a, H a = none → R.H0 a = none ∧ R.A a
  lok : LenOk R.G.K H
  rf : ∀ i v, R.pin i = some v → i ∈ R.ms ∧ σ[i]? = some (some v)
/-- what a part of a frame's run may change -/
structure Step (ms : List Nat) (H : Hp) (F : Nat → List Addr) (H' : Hp) (F' : Nat → List Addr) : Prop where
  st : Stay (OW ms F) H H'
  sub : ∀ j, ∀ a ∈ F' j, a ∈ F j ∨ OW ms F a ∨ H a = none
  ow : ∀ a, OW ms F' a → OW ms F a ∨ H a = none
  dom : ∀ a, H' a = none → H a = none

variable {R : Fr0} {σ : St} {H H1 H' : Hp} {F F1 F' : Nat → List Addr} {env env' : Env}
theorem EnvOk.lsts (h : EnvOk R σ H F env) : Lsts (OW R.ms F) H := fun a ⟨i, hi, ha⟩ => h.mu i hi a ha
theorem none_of_same (st : ∀ a o, H a = some o → H' a = some o) : ∀ a, H' a = none → H a = none := fun a e => by
  cases e' : H a with
  | none => rfl
  | some o => rw [st a o e'] at e; cases e
theorem Step.refl : Step R.ms H F H F := ⟨fun a o e _ => e, fun j a h => .inl h, fun a h => .inl h, fun _ e => e⟩
theorem Step.same (st : ∀ a o, H a = some o → H' a = some o) : Step R.ms H F H' F := ⟨fun a o e _ => st a o e, fun j a h => .inl h, fun a h => .inl h, none_of_same st⟩
theorem Step.dead (ls : Lsts (OW R.ms F) H) (s1 : Step R.ms H F H1 F1) {a : Addr} {o : HO} (e : H a = some o) (n : ¬ OW R.ms F a) : ¬ OW R.ms F1 a := fun z => by
  rcases s1.ow a z with h | h
  · exact n h
  · rw [e] at h; cases h
theorem Step.trans (s1 : Step R.ms H F H1 F1) (s2 : Step R.ms H1 F1 H' F') : Step R.ms H F H' F' where
  st := fun a o e n => s2.st a o (s1.st a o e n) fun z => by
    rcases s1.ow a z with h | h
    · exact n h
    · rw [e] at h; cases h
  sub := fun j a h => by
    rcases s2.sub j a h with h | h | h
    · exact s1.sub j a h
    · exact .inr (s1.ow a h)
    · exact .inr (.inr (s1.dom a h))
  ow := fun a h => by
    rcases s2.ow a h with h | h
    · exact s1.ow a h
    · exact .inr (s1.dom a h)
  dom := fun a e => s1.dom a (s2.dom a e)
theorem Step.rep (s1 : Step R.ms H F H1 F1) (k : EnvOk R σ H F env) {p : PV} {v : V} {fp : List Addr} (h : RepF R.G H p v fp) (n : ∀ a ∈ fp, ¬ OW R.ms F a) : RepF R.G H1 p v fp := RepF.stay s1.st k.lsts p v fp h n
theorem Step.repL (s1 : Step R.ms H F H1 F1) (k : EnvOk R σ H F env) {p : List PV} {v : List V} {fp : List Addr} (h : RepL R.G H p v fp) (n : ∀ a ∈ fp, ¬ OW R.ms F a) : RepL R.G H1 p v fp := RepL.stay s1.st k.lsts p v fp h n
mutual
theorem RepF.there {G : Gl0} : ∀ (p : PV) (v : V) (fp : List Addr), RepF G H p v fp → ∀ a ∈ fp, H a ≠ none
  | .undef, _, _, h, _ => h.elim
  | .non, _, _, h, a => fun z => by rw [h.2] at z; simp at z
  | .bl _, _, _, h, a => fun z => by rw [h.2] at z; simp at z
  | .int _, _, _, h, a => fun z => by rw [h.2] at z; simp at z
  | .str _, _, _, h, a => fun z => by rw [h.2] at z; simp at z
  | .fn _, _, _, h, a => fun z => by rw [h.2] at z; simp at z
  | .tup l, v, fp, h, a => by
    obtain ⟨b, vs, rfl, hs, hl⟩ := h
    exact RepL.there l vs fp hl a
  | .lst l, v, fp, h, a => fun z => by
    obtain ⟨b, vs, f, rfl, hs, hl, rfl⟩ := h
    rcases List.mem_cons.mp z with rfl | z
    · rw [hs]; exact nofun
    · exact RepL.there l vs f hl a z
  | .scr l, v, fp, h, a => fun z => by
    obtain ⟨b, vs, rfl, hs, hl, rfl⟩ := h
    simp at z
  | .exc c x, v, fp, h, a => by
    obtain ⟨b, d, y, e, hx, hd, hr⟩ := h
    exact RepF.there x y fp hr a
theorem RepL.there {G : Gl0} : ∀ (p : List PV) (v : List V) (fp : List Addr), RepL G H p v fp → ∀ a ∈ fp, H a ≠ none
  | [], _, _, h, a => fun z => by rw [h.2] at z; simp at z
  | x :: l, v, fp, h, a => fun z => by
    obtain ⟨y, vs, f, f', rfl, rfl, h1, h2⟩ := h
    rcases List.mem_append.mp z with z | z
    · exact RepF.there x y f h1 a z
    · exact RepL.there l vs f' h2 a z
end
/-- the environment behind a step that leaves F and the slots -/
theorem EnvOk.same (k : EnvOk R σ H F env) (st : ∀ a o, H a = some o → H' a = some o) (lok : LenOk R.G.K H') : EnvOk R σ H' F env :=
  ⟨k.len, fun i p e n => let ⟨v, h1, h2⟩ := k.slot i p e n; ⟨v, h1, h2.same st⟩, k.non, k.nd, fun i hi a ha => let ⟨vs, e⟩ := k.mu i hi a ha; ⟨vs, st _ _ e⟩, k.ow, k.dj, k.old, fun a o e n => st a o (k.keep a o e n), fun a e => k.dom a (none_of_same st a e), lok, k.rf⟩

/-! ### the readings -/
/-- what is known of an expression's value ahead of its run: its lists are its own; none of them is a slot's; it is a new list; no call by reference -/
structure Kd where
  own : Bool
  stb : Bool
  top : Bool
  nor : Bool
/-- what is wanted of a value: where it stands -/
structure ValOk (R : Fr0) (kd : Kd) (H : Hp) (F : Nat → List Addr) (H' : Hp) (F' : Nat → List Addr) (p : PV) (v : V) (fp : List Addr) : Prop where
  rep : RepF R.G H' p v fp
  old : ∀ a ∈ fp, R.A a
  st : kd.stb = true → ∀ a ∈ fp, ¬ OW R.ms F' a
  nd : kd.own = true → fp.Nodup
  mu : kd.own = true → ∀ a ∈ fp, ∃ vs, H' a = some (.lst vs)
  fr : kd.own = true → ∀ a ∈ fp, ∀ j, a ∉ F' j
  nw : kd.own = true → ∀ a ∈ fp, OW R.ms F a ∨ H a = none
  h0 : kd.own = true → ∀ a ∈ fp, R.H0 a = none
  tp : kd.top = true → ∀ l, p = .lst l → ∃ a vs f, v = .ref a ∧ H' a = some (.lst vs) ∧ RepL R.G H' l vs f ∧ H a = none ∧ (∀ j, a ∉ F' j) ∧ R.H0 a = none
abbrev WXX := Value → Option Addr → St → Hp → Prop
/-- the exception's dict holds its word -/
def ExcAt (R : Fr0) (H : Hp) (c : Nat) (x : PV) (d : Addr) : Prop := ∃ y fp, H d = some (.xd [(R.G.fld c, y)]) ∧ RepF R.G H x y fp ∧ (∀ a ∈ fp, R.A a) ∧ fp = []
/-- what is wanted of an evaluator's result, from where its run began -/
def okR (R : Fr0) (W : WXX) (kd : Kd) (σ : St) (H : Hp) (F : Nat → List Addr) (env : Env) (Q : VK) : Res (PV × Env) → Prop
  | .ok r => ∀ v H' F' fp, EnvOk R σ H' F' r.2 → Step R.ms H F H' F' → ValOk R kd H F H' F' r.1 v fp → (kd.nor = true → F' = F ∧ r.2 = env ∧ ∀ a o, H a = some o → H' a = some o) → Q v H'
  | .raise c x env' => ∀ d H' F', EnvOk R σ H' F' env' → Step R.ms H F H' F' → ExcAt R H' c x d → W (.ref (R.cls c)) (some d) σ H'
  | .fail => False
def okT (R : Fr0) (W : WXX) (nor : Bool) (σ : St) (H : Hp) (F : Nat → List Addr) (env : Env) (Q : Bool → Hp → Prop) : Res (PV × Env) → Prop
  | .ok r => ∃ b, truth r.1 = some b ∧ ∀ H' F', EnvOk R σ H' F' r.2 → Step R.ms H F H' F' → (nor = true → F' = F ∧ r.2 = env ∧ ∀ a o, H a = some o → H' a = some o) → Q b H'
  | .raise c x env' => ∀ d H' F', EnvOk R σ H' F' env' → Step R.ms H F H' F' → ExcAt R H' c x d → W (.ref (R.cls c)) (some d) σ H'
  | .fail => False
structure RowOk (R : Fr0) (own stb : Bool) (H : Hp) (F : Nat → List Addr) (H' : Hp) (F' : Nat → List Addr) (p : List PV) (v : List V) (fp : List Addr) : Prop where
  rep : RepL R.G H' p v fp
  old : ∀ a ∈ fp, R.A a
  st : stb = true → ∀ a ∈ fp, ¬ OW R.ms F' a
  nd : own = true → fp.Nodup
  mu : own = true → ∀ a ∈ fp, ∃ vs, H' a = some (.lst vs)
  fr : own = true → ∀ a ∈ fp, ∀ j, a ∉ F' j
  nw : own = true → ∀ a ∈ fp, OW R.ms F a ∨ H a = none
  h0 : own = true → ∀ a ∈ fp, R.H0 a = none
def okA (R : Fr0) (W : WXX) (own stb nor : Bool) (σ : St) (H : Hp) (F : Nat → List Addr) (env : Env) (Q : List V → Hp → Prop) : Res (List PV × Env) → Prop
  | .ok r => ∀ vs H' F' fp, EnvOk R σ H' F' r.2 → Step R.ms H F H' F' → RowOk R own stb H F H' F' r.1 vs fp → (nor = true → F' = F ∧ r.2 = env ∧ ∀ a o, H a = some o → H' a = some o) → Q vs H'
  | .raise c x env' => ∀ d H' F', EnvOk R σ H' F' env' → Step R.ms H F H' F' → ExcAt R H' c x d → W (.ref (R.cls c)) (some d) σ H'
  | .fail => False
/-- the reading of an expression: run from values that env describes, it gives what the evaluator says -/
def rdE (R : Fr0) (W : WXX) (kd : Kd) (ev : Env → Res (PV × Env)) : TE := fun σ H Q => ∃ F env, EnvOk R σ H F env ∧ okR R W kd σ H F env Q (ev env)
/-- .. of a test -/
def rdT (R : Fr0) (W : WXX) (nor : Bool) (ev : Env → Res (PV × Env)) : TT := fun σ H Q => ∃ F env, EnvOk R σ H F env ∧ okT R W nor σ H F env Q (ev env)
/-- .. of a row of arguments -/
def rdA (R : Fr0) (W : WXX) (own stb nor : Bool) (ev : Env → Res (List PV × Env)) : TA := fun σ H Q => ∃ F env, EnvOk R σ H F env ∧ okA R W own stb nor σ H F env Q (ev env)

variable {W : WXX} {own stb nor o1 s1 n1 o2 s2 n2 : Bool} {kd kd1 kd2 : Kd} {Q Q1 : VK}
abbrev Nor (n : Bool) (H : Hp) (F : Nat → List Addr) (env : Env) (H' : Hp) (F' : Nat → List Addr) (env' : Env) : Prop := n = true → F' = F ∧ env' = env ∧ ∀ a o, H a = some o → H' a = some o
theorem Nor.refl : Nor n1 H F env H F env := fun _ => ⟨rfl, rfl, fun _ _ e => e⟩
theorem Nor.trans {env1 : Env} (a : Nor n1 H F env H1 F1 env1) (b : Nor n2 H1 F1 env1 H' F' env') : Nor (n1 && n2) H F env H' F' env' := fun z => by
  obtain ⟨z1, z2⟩ := Bool.and_eq_true_iff.mp z
  obtain ⟨e1, e2, k⟩ := a z1
  obtain ⟨e3, e4, k'⟩ := b z2
  exact ⟨e3.trans e1, e4.trans e2, fun a o e => k' a o (k a o e)⟩
theorem Nor.mono {n m : Bool} (a : Nor n1 H F env H1 F1 env') (h : m = true → n1 = true) : Nor m H F env H1 F1 env' := fun z => a (h z)
/-- a sub-run, then the rest -/
theorem okR.bind {env1 : Env} {r : Res (PV × Env)} {k : PV × Env → Res (PV × Env)} (s0 : Step R.ms H F H1 F1) (h : okR R W kd σ H F env Q (r.bind k))
    (step : ∀ q v H2 F2 fp, r = .ok q → EnvOk R σ H2 F2 q.2 → Step R.ms H1 F1 H2 F2 → ValOk R kd1 H1 F1 H2 F2 q.1 v fp → Nor kd1.nor H1 F1 env1 H2 F2 q.2 → okR R W kd σ H F env Q (k q) → Q1 v H2) :
    okR R W kd1 σ H1 F1 env1 Q1 r := by
  cases r with
  | ok q => exact fun v H2 F2 fp k1 k2 k3 k4 => step q v H2 F2 fp rfl k1 k2 k3 k4 h
  | raise c x e => exact fun d H2 F2 k1 k2 k3 => h d H2 F2 k1 (s0.trans k2) k3
  | fail => exact h
theorem okR.bindA {env1 : Env} {QA : List V → Hp → Prop} {r : Res (List PV × Env)} {k : List PV × Env → Res (PV × Env)} (s0 : Step R.ms H F H1 F1) (h : okR R W kd σ H F env Q (r.bind k))
    (step : ∀ q vs H2 F2 fp, r = .ok q → EnvOk R σ H2 F2 q.2 → Step R.ms H1 F1 H2 F2 → RowOk R o1 s1 H1 F1 H2 F2 q.1 vs fp → Nor n1 H1 F1 env1 H2 F2 q.2 → okR R W kd σ H F env Q (k q) → QA vs H2) :
    okA R W o1 s1 n1 σ H1 F1 env1 QA r := by
  cases r with
  | ok q => exact fun v H2 F2 fp k1 k2 k3 k4 => step q v H2 F2 fp rfl k1 k2 k3 k4 h
  | raise c x e => exact fun d H2 F2 k1 k2 k3 => h d H2 F2 k1 (s0.trans k2) k3
  | fail => exact h
theorem okR.bindT {env1 : Env} {QT : Bool → Hp → Prop} {r : Res (PV × Env)} {k : Bool → PV × Env → Res (PV × Env)} (s0 : Step R.ms H F H1 F1) (h : okR R W kd σ H F env Q (r.bind fun q => (ofO (truth q.1)).bind fun b => k b q))
    (step : ∀ b q H2 F2, r = .ok q → EnvOk R σ H2 F2 q.2 → Step R.ms H1 F1 H2 F2 → Nor n1 H1 F1 env1 H2 F2 q.2 → okR R W kd σ H F env Q (k b q) → QT b H2) :
    okT R W n1 σ H1 F1 env1 QT r := by
  cases r with
  | ok q =>
    cases e : truth q.1 with
    | none =>
      have h' : okR R W kd σ H F env Q ((ofO (truth q.1)).bind fun b => k b q) := h
      rw [e] at h'
      exact h'.elim
    | some b =>
      have h' : okR R W kd σ H F env Q ((ofO (truth q.1)).bind fun b => k b q) := h
      rw [e] at h'
      exact ⟨b, e, fun H2 F2 k1 k2 k3 => step b q H2 F2 rfl k1 k2 k3 h'⟩
  | raise c x e => exact fun d H2 F2 k1 k2 k3 => h d H2 F2 k1 (s0.trans k2) k3
  | fail => exact h
theorem okR.ofO {α : Type} {o : Option α} {k : α → Res (PV × Env)} (h : okR R W kd σ H F env Q ((Ev.ofO o).bind k)) : ∃ x, o = some x ∧ okR R W kd σ H F env Q (k x) := by
  cases o with
  | none => exact h.elim
  | some x => exact ⟨x, rfl, h⟩

/-! ### values that hold no list, new objects -/
theorem ValOk.flat {p : PV} {v : V} (h : RepF R.G H' p v []) : ValOk R kd H F H' F' p v [] :=
  ⟨h, fun _ z => by simp at z, fun _ _ z => by simp at z, fun _ => List.nodup_nil, fun _ _ z => by simp at z, fun _ _ z => by simp at z, fun _ _ z => by simp at z, fun _ _ z => by simp at z, fun _ l e => by
    subst e
    obtain ⟨a, vs, f, _, _, _, z⟩ := h
    cases z⟩
theorem LenOk.upd {K : PySem.W.Frag} {o : HO} {p : Addr} (h : LenOk K H) (h1 : ∀ xs, o = .lst xs → xs.length ≤ sizeLine) (h2 : ∀ xs, o = .tup xs → xs.length ≤ sizeLine) (h3 : ∀ ob u, o ≠ .frz ob u) : LenOk K (upd H p o) := by
  refine ⟨fun a xs s => ?_, fun a xs s => ?_⟩
  · by_cases e : a = p
    · subst e
      rcases s with (s | ⟨ob, s⟩) | s
      · rw [upd_same] at s; exact h1 xs (Option.some.inj s)
      · rw [upd_same] at s; exact absurd (Option.some.inj s) (h3 _ _)
      · exact h.1 a xs (.inr s)
    · rcases s with (s | ⟨ob, s⟩) | s
      · rw [upd_ne e] at s; exact h.1 a xs (.inl (.inl s))
      · rw [upd_ne e] at s; exact h.1 a xs (.inl (.inr ⟨ob, s⟩))
      · exact h.1 a xs (.inr s)
  · by_cases e : a = p
    · subst e
      rcases s with (s | ⟨ob, s⟩) | s
      · rw [upd_same] at s; exact h2 xs (Option.some.inj s)
      · rw [upd_same] at s; exact absurd (Option.some.inj s) (h3 _ _)
      · exact h.2 a xs (.inr s)
    · rcases s with (s | ⟨ob, s⟩) | s
      · rw [upd_ne e] at s; exact h.2 a xs (.inl (.inl s))
      · rw [upd_ne e] at s; exact h.2 a xs (.inl (.inr ⟨ob, s⟩))
      · exact h.2 a xs (.inr s)
theorem same_upd {p : Addr} {o : HO} (hp : H p = none) : ∀ a u, H a = some u → upd H p o a = some u := fun a u e => by
  rw [upd_ne (ne_of_none e hp)]; exact e
theorem RowOk.nil : RowOk R own stb H F H' F' [] [] [] :=
  ⟨RepL.nil, fun _ z => by simp at z, fun _ _ z => by simp at z, fun _ => List.nodup_nil, fun _ _ z => by simp at z, fun _ _ z => by simp at z, fun _ _ z => by simp at z, fun _ _ z => by simp at z⟩
/-- a value that was held while a further part ran -/
theorem ValOk.held {p : PV} {v : V} {fp : List Addr} {env1 env2 : Env} {H2 : Hp} {F2 : Nat → List Addr} (k1 : EnvOk R σ H1 F1 env1) (h : ValOk R kd1 H F H1 F1 p v fp) (s2' : Step R.ms H1 F1 H2 F2) (n : Nor n2 H1 F1 env1 H2 F2 env2) (c : (kd1.stb || n2) = true) :
    RepF R.G H2 p v fp := by
  rcases Bool.or_eq_true_iff.mp c with z | z
  · exact s2'.rep k1 h.rep (h.st z)
  · exact h.rep.same (n z).2.2
theorem OW.none_of (s : Step R.ms H1 F1 H' F') {a : Addr} (n : ¬ OW R.ms F1 a) (e : (∃ o, H1 a = some o)) : ¬ OW R.ms F' a := fun z => by
  obtain ⟨o, e⟩ := e
  rcases s.ow a z with h | h
  · exact n h
  · rw [e] at h; cases h
end Ev

/-! EvE1: expressions, a construct a lemma. -/
namespace Ev
open PySem PySem.Spec PyProof.Rows L2
section
variable {X : Cx} {R : Fr0} {W : WXX} {σ : St} {H : Hp} {F : Nat → List Addr} {env : Env} {Q : VK}

theorem PE.imp {e : Expr} {t t' : TE} (h : PE X e t) (k : ∀ σ H Q, t' σ H Q → t σ H Q) : PE X e t' := ⟨fun pins s σ H Q I q => h.run pins s σ H Q I (k σ H Q q)⟩
theorem PT.imp {e : Expr} {t t' : TT} (h : PT X e t) (k : ∀ σ H Q, t' σ H Q → t σ H Q) : PT X e t' := ⟨fun pins s σ H Q I q => h.run pins s σ H Q I (k σ H Q q)⟩
theorem PA.imp {e : List Expr} {t t' : TA} (h : PA X e t) (k : ∀ σ H Q, t' σ H Q → t σ H Q) : PA X e t' := ⟨fun p pins s σ H Q I q => h.run p pins s σ H Q I (k σ H Q q)⟩

theorem PE.by {e : Expr} {t : TE} {kd : Kd} {ev : Env → Res (PV × Env)} (h : PE X e t) (k : ∀ σ H Q F env, EnvOk R σ H F env → okR R W kd σ H F env Q (ev env) → t σ H Q) : PE X e (rdE R W kd ev) :=
  PE.imp h fun σ H Q ⟨F, env, a, b⟩ => k σ H Q F env a b
theorem PT.by {e : Expr} {t : TT} {n : Bool} {ev : Env → Res (PV × Env)} (h : PT X e t) (k : ∀ σ H Q F env, EnvOk R σ H F env → okT R W n σ H F env Q (ev env) → t σ H Q) : PT X e (rdT R W n ev) :=
  PT.imp h fun σ H Q ⟨F, env, a, b⟩ => k σ H Q F env a b
theorem PA.by {e : List Expr} {t : TA} {o s n : Bool} {ev : Env → Res (List PV × Env)} (h : PA X e t) (k : ∀ σ H Q F env, EnvOk R σ H F env → okA R W o s n σ H F env Q (ev env) → t σ H Q) : PA X e (rdA R W o s n ev) :=
  PA.imp h fun σ H Q ⟨F, env, a, b⟩ => k σ H Q F env a b
/-- a value without lists at the state as it stands -/
theorem okR.now {kd : Kd} {p : PV} {v : V} (k : EnvOk R σ H F env) (h : okR R W kd σ H F env Q (.ok (p, env))) (r : RepF R.G H p v []) : Q v H :=
  h v H F [] k Step.refl (ValOk.flat r) Nor.refl
/-- .. behind a step -/
theorem okR.flat {kd : Kd} {n : Bool} {p : PV} {v : V} {H1 : Hp} {F1 : Nat → List Addr} {env1 : Env} (h : okR R W kd σ H F env Q (.ok (p, env1))) (k : EnvOk R σ H1 F1 env1) (s : Step R.ms H F H1 F1) (nr : Nor n H F env H1 F1 env1) (hn : kd.nor = true → n = true)
    (r : RepF R.G H1 p v []) : Q v H1 := h v H1 F1 [] k s (ValOk.flat r) fun z => nr (hn z)

/-! ### constants, names -/
def cV : Const → Option V
  | .none => some .non
  | .bool b => some (.bl b)
  | .int i => some (.int i)
  | .str s => some (.str s)
  | _ => none
theorem ev_c {c : Const} {j : Nat} {pos : Pos} {kd : Kd} : PE X (.Constant c j pos) (rdE R W kd fun env => (ofO (ofC c)).bind fun x => .ok (x, env)) := by
  cases c with
  | none => exact PE.by pe_non fun σ H Q F env k h => okR.now k h ⟨rfl, rfl⟩
  | bool b => exact PE.by pe_bl fun σ H Q F env k h => okR.now k h ⟨rfl, rfl⟩
  | int i => exact PE.by pe_int fun σ H Q F env k h => okR.now k h ⟨rfl, rfl⟩
  | str s => exact PE.by pe_str fun σ H Q F env k h => okR.now k h ⟨rfl, rfl⟩
  | float f => exact ⟨fun _ _ σ H Q _ ⟨_, _, _, h⟩ => h.elim⟩
  | complex f g => exact ⟨fun _ _ σ H Q _ ⟨_, _, _, h⟩ => h.elim⟩
  | bytes f => exact ⟨fun _ _ σ H Q _ ⟨_, _, _, h⟩ => h.elim⟩
  | ellipsis => exact ⟨fun _ _ σ H Q _ ⟨_, _, _, h⟩ => h.elim⟩
theorem ev_g {x : Str} {p : PV} {v : V} {u : Value} {pos : Pos} {kd : Kd} (hg : Gl X x) (hm : X.mg x = some u) (r : RelV v u) (hr : ∀ H, RepF R.G H p v []) (hd : (x == ("__debug__" : Str)) = false) :
    PE X (.Name x pos) (rdE R W kd fun env => .ok (p, env)) := PE.by (pe_glob hg hm r hd) fun σ H Q F env k h => okR.now k h (hr H)

theorem getD_of {env : Env} {i : Nat} {p : PV} (h : env.getD i .undef = p) (n : p ≠ .undef) : env[i]? = some p := by
  rw [List.getD_eq_getElem?_getD] at h
  cases e : env[i]? with
  | none => rw [e] at h; exact absurd h.symm n
  | some q => rw [e] at h; rw [← h]; rfl
theorem get_ok {env : Env} {i : Nat} : (∃ p, p ≠ .undef ∧ env[i]? = some p ∧ get env i = .ok (p, env)) ∨ get env i = .fail := by
  unfold get
  cases e : env.getD i .undef with
  | undef => exact .inr rfl
  | non => exact .inl ⟨.non, nofun, getD_of e nofun, rfl⟩
  | bl b => exact .inl ⟨.bl b, nofun, getD_of e nofun, rfl⟩
  | int b => exact .inl ⟨.int b, nofun, getD_of e nofun, rfl⟩
  | str b => exact .inl ⟨.str b, nofun, getD_of e nofun, rfl⟩
  | tup b => exact .inl ⟨.tup b, nofun, getD_of e nofun, rfl⟩
  | lst b => exact .inl ⟨.lst b, nofun, getD_of e nofun, rfl⟩
  | fn b => exact .inl ⟨.fn b, nofun, getD_of e nofun, rfl⟩
  | exc b c => exact .inl ⟨.exc b c, nofun, getD_of e nofun, rfl⟩
  | scr b => exact .inl ⟨.scr b, nofun, getD_of e nofun, rfl⟩
theorem EnvOk.free (k : EnvOk R σ H F env) {i : Nat} (hi : i ∉ R.ms) : ∀ a ∈ F i, ¬ OW R.ms F a := fun a ha ⟨j, hj, hb⟩ => k.dj j hj i (fun e => hi (e ▸ hj)) a hb ha
theorem ev_v {i : Nat} {x : Str} {pos : Pos} (hN : X.N[i]? = some x) (hv : Vis X.env.scope x) (hi : i ∉ R.ms) (hd : (x == ("__debug__" : Str)) = false) (hcd : (x == ("__classdict__" : Str)) = false) :
    PE X (.Name x pos) (rdE R W ⟨false, true, false, true⟩ fun env => get env i) := PE.by (pe_var hN hv hd hcd) fun σ H Q F env k h => by
  rcases get_ok (env := env) (i := i) with ⟨p, n, e, g⟩ | g
  · rw [g] at h
    obtain ⟨v, hs, hr⟩ := k.slot i p e n
    exact ⟨v, hs, h v H F (F i) k Step.refl ⟨hr, k.old i, fun _ => k.free hi, nofun, nofun, nofun, nofun, nofun, nofun⟩ Nor.refl⟩
  · rw [g] at h
    exact h.elim
theorem ev_m {i : Nat} {x : Str} {pos : Pos} (hN : X.N[i]? = some x) (hv : Vis X.env.scope x) (hd : (x == ("__debug__" : Str)) = false) (hcd : (x == ("__classdict__" : Str)) = false) :
    PE X (.Name x pos) (rdE R W ⟨false, false, false, true⟩ fun env => get env i) := PE.by (pe_var hN hv hd hcd) fun σ H Q F env k h => by
  rcases get_ok (env := env) (i := i) with ⟨p, n, e, g⟩ | g
  · rw [g] at h
    obtain ⟨v, hs, hr⟩ := k.slot i p e n
    exact ⟨v, hs, h v H F (F i) k Step.refl ⟨hr, k.old i, nofun, nofun, nofun, nofun, nofun, nofun, nofun⟩ Nor.refl⟩
  · rw [g] at h
    exact h.elim
/-- one slot's value is given up -/
def drop1 (F : Nat → List Addr) (i : Nat) : Nat → List Addr := fun j => if j = i then [] else F j
theorem drop1_same {i : Nat} : drop1 F i i = [] := if_pos rfl
theorem drop1_ne {i j : Nat} (h : j ≠ i) : drop1 F i j = F j := if_neg h
theorem drop1_sub {i j : Nat} {a : Addr} (h : a ∈ drop1 F i j) : a ∈ F j := by
  unfold drop1 at h
  split at h
  · simp at h
  · exact h
theorem getElem?_set_undef {env : Env} {i j : Nat} {p q : PV} (h : (env.set i q)[j]? = some p) : (j = i ∧ p = q ∧ i < env.length) ∨ (j ≠ i ∧ env[j]? = some p) := by
  rw [List.getElem?_set] at h
  split at h
  · rename_i e
    split at h
    · exact .inl ⟨e.symm, (Option.some.inj h).symm, by assumption⟩
    · cases h
  · rename_i e
    exact .inr ⟨fun z => e z.symm, h⟩
theorem getD_set {env : Env} {i j : Nat} {q : PV} (n : j ≠ i) : (env.set i q).getD j .undef = env.getD j .undef := by
  rw [List.getD_eq_getElem?_getD, List.getD_eq_getElem?_getD, List.getElem?_set_ne (Ne.symm n)]
theorem EnvOk.drop (k : EnvOk R σ H F env) (i : Nat) : EnvOk R σ H (drop1 F i) (env.set i .undef) where
  len := by rw [List.length_set]; exact k.len
  slot := fun j p e n => by
    rcases getElem?_set_undef e with ⟨_, e1, _⟩ | ⟨hj, e1⟩
    · exact absurd e1 n
    · rw [drop1_ne hj]; exact k.slot j p e1 n
  non := fun j e => by
    by_cases hj : j = i
    · subst hj; exact drop1_same
    · rw [drop1_ne hj]; exact k.non j (by rw [← getD_set hj]; exact e)
  nd := fun j hj => by
    unfold drop1
    split
    · exact List.nodup_nil
    · exact k.nd j hj
  mu := fun j hj a ha => k.mu j hj a (drop1_sub ha)
  ow := fun j hj a ha => k.ow j hj a (drop1_sub ha)
  dj := fun j hj l n a ha hb => k.dj j hj l n a (drop1_sub ha) (drop1_sub hb)
  old := fun j a ha => k.old j a (drop1_sub ha)
  keep := k.keep
  dom := k.dom
  lok := k.lok
  rf := k.rf
theorem ev_mv {i : Nat} {x : Str} {pos : Pos} (hN : X.N[i]? = some x) (hv : Vis X.env.scope x) (hi : i ∈ R.ms) (h0 : i ≠ 0 ∨ R.br = false) (hd : (x == ("__debug__" : Str)) = false) (hcd : (x == ("__classdict__" : Str)) = false) :
    PE X (.Name x pos) (rdE R W ⟨true, true, false, false⟩ fun env => (get env i).bind fun r => .ok (r.1, env.set i .undef)) := PE.by (pe_var hN hv hd hcd) fun σ H Q F env k h => by
  rcases get_ok (env := env) (i := i) with ⟨p, n, e, g⟩ | g
  · rw [g] at h
    obtain ⟨v, hs, hr⟩ := k.slot i p e n
    refine ⟨v, hs, h v H (drop1 F i) (F i) (k.drop i) ⟨fun a o e _ => e, fun j a ha => .inl (drop1_sub ha), fun a ⟨j, hj, ha⟩ => .inl ⟨j, hj, drop1_sub ha⟩, fun _ e => e⟩ ⟨hr, k.old i, fun _ a ha ⟨j, hj, hb⟩ => ?_, fun _ => k.nd i hi, fun _ => k.mu i hi, fun _ a ha j hb => ?_, fun _ a ha => .inl ⟨i, hi, ha⟩, fun _ a ha => ?_, nofun⟩ nofun⟩
    · by_cases e : j = i
      · rw [e, drop1_same] at hb; simp at hb
      · rw [drop1_ne e] at hb; exact k.dj j hj i (Ne.symm e) a hb ha
    · by_cases e : j = i
      · rw [e, drop1_same] at hb; simp at hb
      · rw [drop1_ne e] at hb; exact k.dj i hi j e a ha hb
    · rcases k.ow i hi a ha with z | ⟨z1, z2, _⟩
      · exact z
      · rcases h0 with w | w
        · exact absurd z1 w
        · rw [w] at z2; cases z2
  · rw [g] at h
    exact h.elim

/-! ### looks -/
theorem ev_chk {e : Expr} {ev : Env → Res (PV × Env)} {kd : Kd} {own stb top : Bool} (he : PE X e (rdE R W kd ev)) : PE X e (rdE R W ⟨own, stb, top, kd.nor⟩ fun env => (ev env).bind fun r => if r.1.lf = true then .ok r else .fail) := PE.by he fun σ H Q F env k h => by
  refine ⟨F, env, k, okR.bind Step.refl h fun q v H2 F2 fp _ k2 s2 v2 nr h2 => ?_⟩
  by_cases c : q.1.lf = true
  · rw [if_pos c] at h2
    have e : fp = [] := RepF.lf _ _ _ v2.rep c
    subst e
    exact h2 v H2 F2 [] k2 s2 (ValOk.flat v2.rep) nr
  · rw [if_neg c] at h2
    exact h2.elim
/-- a new list of values that hold none -/
theorem ev_chk1 {e : Expr} {ev : Env → Res (PV × Env)} {kd : Kd} (ht : kd.top = true) (he : PE X e (rdE R W kd ev)) :
    PE X e (rdE R W ⟨true, true, true, kd.nor⟩ fun env => (ev env).bind fun r => match r.1 with
      | .lst l => if PV.lfs l = true then .ok r else .fail
      | _ => .fail) := PE.by he fun σ H Q F env k h => by
  refine ⟨F, env, k, okR.bind Step.refl h fun q v H2 F2 fp _ k2 s2 v2 nr h2 => ?_⟩
  obtain ⟨p, env2⟩ := q
  cases p with
  | lst l =>
    by_cases c : PV.lfs l = true
    · dsimp only at h2
      rw [if_pos c] at h2
      obtain ⟨a, vs, f, e1, e2, hl, e3, e4, e5⟩ := v2.tp ht l rfl
      have e : f = [] := RepL.lf _ _ _ hl c
      subst e
      have only : ∀ {P : Addr → Prop}, P a → ∀ c ∈ [a], P c := fun q c hc => by
        rw [List.mem_singleton.mp hc]; exact q
      have hA : R.A a := by
        have r := v2.rep
        obtain ⟨a', vs', f', e6, _, _, e7⟩ := r
        rw [e1] at e6
        cases e6
        exact v2.old a (by rw [e7]; simp)
      exact h2 v H2 F2 [a] k2 s2 ⟨e1 ▸ RepF.new e2 hl, only hA, fun _ => only fun ⟨j, _, z⟩ => e4 j z, fun _ => by simp, fun _ => only ⟨_, e2⟩, fun _ => only e4, fun _ => only (.inr e3), fun _ => only e5, fun _ l' el => by
        cases el
        exact ⟨a, vs, [], e1, e2, hl, e3, e4, e5⟩⟩ nr
    · dsimp only at h2
      rw [if_neg c] at h2
      exact h2.elim
  | _ => exact h2.elim
end
end Ev

/-! EvE2: operators. -/
namespace Ev
open PySem PySem.Spec PyProof.Rows L2
/-- what a pure operation hands on: its value, of old parts and new ones -/
structure NewV (G : Gl0) (H : Hp) (fs : List Addr) (p : PV) (top : Bool) (z : V) (H' : Hp) (fz : List Addr) : Prop where
  same : ∀ a o, H a = some o → H' a = some o
  lok : LenOk G.K H'
  rep : RepF G H' p z fz
  sub : ∀ a ∈ fz, a ∈ fs ∨ H a = none
  tp : top = true → ∀ l, p = .lst l → ∃ a vs f, z = .ref a ∧ H' a = some (.lst vs) ∧ RepL G H' l vs f ∧ H a = none
def rBin (G : Gl0) (op : Operator) : R2 := fun x y H Q => ∃ p q r fp fq, RepF G H p x fp ∧ RepF G H q y fq ∧ LenOk G.K H ∧ binop op p q = some r ∧ ∀ z H' fz, NewV G H (fp ++ fq) r true z H' fz → Q z H'
section
variable {G : Gl0} {H : Hp} {fs : List Addr}
theorem NewV.flat {p : PV} {z : V} {t : Bool} (lok : LenOk G.K H) (r : RepF G H p z []) : NewV G H fs p t z H [] := ⟨fun _ _ e => e, lok, r, fun _ h => by simp at h, fun _ l e => by
  subst e
  obtain ⟨a, vs, f, _, _, _, z⟩ := r
  cases z⟩
theorem NewV.part {p : PV} {z : V} {fz : List Addr} (lok : LenOk G.K H) (r : RepF G H p z fz) (s : ∀ a ∈ fz, a ∈ fs) : NewV G H fs p false z H fz := ⟨fun _ _ e => e, lok, r, fun a h => .inl (s a h), nofun⟩
/-- a part that is no list -/
theorem NewV.partT {l : List PV} {z : V} {fz : List Addr} (lok : LenOk G.K H) (r : RepF G H (.tup l) z fz) (s : ∀ a ∈ fz, a ∈ fs) : NewV G H fs (.tup l) true z H fz := ⟨fun _ _ e => e, lok, r, fun a h => .inl (s a h), fun _ _ e => nomatch e⟩
theorem lok_tup {l : List V} {a : Addr} (lok : LenOk G.K H) (hz : l.length ≤ sizeLine) : LenOk G.K (upd H a (.tup l)) := lok.upd (fun _ e => nomatch e) (fun xs e => by cases e; exact hz) (fun _ _ e => nomatch e)
theorem lok_lst {l : List V} {a : Addr} (lok : LenOk G.K H) (hz : l.length ≤ sizeLine) : LenOk G.K (upd H a (.lst l)) := lok.upd (fun xs e => by cases e; exact hz) (fun _ e => nomatch e) (fun _ _ e => nomatch e)
/-- a new tuple of old values -/
theorem NewV.tup {l : List PV} {vs : List V} {f : List Addr} {a : Addr} {t : Bool} (lok : LenOk G.K H) (hn : H a = none) (r : RepL G H l vs f) (hz : vs.length ≤ sizeLine) (s : ∀ a ∈ f, a ∈ fs) : NewV G H fs (.tup l) t (.ref a) (upd H a (.tup vs)) f :=
  ⟨same_upd hn, lok_tup lok hz, ⟨a, vs, rfl, .of upd_same, r.same (same_upd hn)⟩, fun b h => .inl (s b h), fun _ _ e => nomatch e⟩
theorem NewV.lst {l : List PV} {vs : List V} {f : List Addr} {a : Addr} {t : Bool} (lok : LenOk G.K H) (hn : H a = none) (r : RepL G H l vs f) (hz : vs.length ≤ sizeLine) (s : ∀ a ∈ f, a ∈ fs) : NewV G H fs (.lst l) t (.ref a) (upd H a (.lst vs)) (a :: f) :=
  ⟨same_upd hn, lok_lst lok hz, RepF.new upd_same (r.same (same_upd hn)), fun b h => by
    rcases List.mem_cons.mp h with rfl | h
    · exact .inr hn
    · exact .inl (s b h), fun _ _ e => by
      cases e
      exact ⟨a, vs, f, rfl, upd_same, r.same (same_upd hn), hn⟩⟩
end
section
variable {X : Cx} {R : Fr0} {W : WXX} {σ : St} {H : Hp} {F : Nat → List Addr} {env : Env} {Q : VK} {kd kd1 kd2 kd3 : Kd}
/-- the end of a pure operation -/
theorem okR.pure {p : PV} {z : V} {H1 H' : Hp} {F1 : Nat → List Addr} {env1 : Env} {fs fz : List Addr} {t : Bool} (h : okR R W kd σ H F env Q (.ok (p, env1))) (k : EnvOk R σ H1 F1 env1) (s : Step R.ms H F H1 F1) (nr : kd.nor = true → F1 = F ∧ env1 = env ∧ ∀ a o, H a = some o → H1 a = some o)
    (v : NewV R.G H1 fs p t z H' fz) (hold : ∀ a ∈ fs, R.A a) (hst : kd.stb = true → ∀ a ∈ fs, ¬ OW R.ms F1 a) (ho : kd.own = false) (ht : kd.top = true → t = true) : Q z H' := by
  have k' : EnvOk R σ H' F1 env1 := k.same v.same v.lok
  have h0 : ∀ a, H1 a = none → R.H0 a = none := fun a e => (k.dom a e).1
  have nf : ∀ a, H1 a = none → ∀ j, a ∉ F1 j := fun a e j hj => by
    cases ep : env1.getD j .undef with
    | undef => rw [k.non j ep] at hj; simp at hj
    | _ =>
      obtain ⟨v, _, r⟩ := k.slot j _ (getD_of ep nofun) nofun
      exact RepF.there _ _ _ r a hj e
  have s' : Step R.ms H F H' F1 := s.trans (Step.same v.same)
  refine h z H' F1 fz k' s' ⟨v.rep, fun a ha => ?_, fun c a ha => ?_, fun c => ?_, fun c => ?_, fun c => ?_, fun c => ?_, fun c => ?_, fun c l e => ?_⟩ fun c => ?_
  · rcases v.sub a ha with q | q
    · exact hold a q
    · exact (k.dom a q).2
  · rcases v.sub a ha with q | q
    · exact hst c a q
    · exact fun ⟨j, _, hj⟩ => nf a q j hj
  · rw [ho] at c; cases c
  · rw [ho] at c; cases c
  · rw [ho] at c; cases c
  · rw [ho] at c; cases c
  · rw [ho] at c; cases c
  · obtain ⟨a, vs, f, e1, e2, e3, e4⟩ := v.tp (ht c) l e
    exact ⟨a, vs, f, e1, e2, e3, s.dom a e4, nf a e4, h0 a e4⟩
  · obtain ⟨e1, e2, e3⟩ := nr c
    exact ⟨e1, e2, fun a o e => v.same a o (e3 a o e)⟩
/-- a op b -/
theorem ev_bin {a b : Expr} {op : Operator} {pos : Pos} {eva evb : Env → Res (PV × Env)} (ho : OpR X (binaryOp op) (rBin R.G op)) (ha : PE X a (rdE R W kd1 eva)) (hb : PE X b (rdE R W kd2 evb)) (hc : (kd1.stb || kd2.nor) = true) :
    PE X (.BinOp a op b pos) (rdE R W ⟨false, kd1.stb && kd2.stb, true, kd1.nor && kd2.nor⟩ fun env => (eva env).bind fun r => (evb r.2).bind fun q => (ofO (binop op r.1 q.1)).bind fun x => .ok (x, q.2)) :=
  PE.by (pe_op ho ha hb) fun σ H Q F env k h => by
    refine ⟨F, env, k, okR.bind Step.refl h fun p x H1 F1 fp _ k1 s1 v1 n1 h1 => ?_⟩
    refine ⟨F1, p.2, k1, okR.bind s1 h1 fun q y H2 F2 fq _ k2 s2 v2 n2 h2 => ?_⟩
    obtain ⟨z, e, h3⟩ := okR.ofO h2
    have hx := v1.held k1 s2 n2 hc
    refine ⟨p.1, q.1, z, fp, fq, hx, v2.rep, k2.lok, e, fun zv H' fz nv => ?_⟩
    refine okR.pure h3 k2 (s1.trans s2) (Nor.trans n1 n2) nv (fun a ha => (List.mem_append.mp ha).elim (v1.old a) (v2.old a)) (fun c a ha => ?_) rfl fun _ => rfl
    obtain ⟨c1, c2⟩ := Bool.and_eq_true_iff.mp c
    rcases List.mem_append.mp ha with z | z
    · exact fun w => by
        rcases s2.ow a w with w | w
        · exact v1.st c1 a z w
        · exact RepF.there _ _ _ v1.rep a z w
    · exact v2.st c2 a z
end
end Ev

/-! EvE3: each operator on data. -/
namespace Ev
open PySem PySem.Spec PyProof.Rows L2
section
variable {X : Cx} {G : Gl0}
theorem op_P_int {op : Operator} {r : R2} (ho : OpR X (binaryOp op) r) (hk : ∀ {x y : V} {H : Hp} {Q : VK}, rBin G op x y H Q → r x y H Q) : OpR X (binaryOp op) (rBin G op) :=
  fun pins s σ H x y v u Q I rx ry h => ho pins s σ H x y v u Q I rx ry (hk h)
theorem rep_len {H : Hp} {l : List PV} {vs : List V} {f : List Addr} (h : RepL G H l vs f) : vs.length = l.length := h.length
theorem op_addP (hK : G.K = X.K) : OpR X (binaryOp .Add) (rBin G .Add) := by
  intro pins s σ H x y v u Q I rx ry ⟨p, q, r, fp, fq, hp, hq, lok, e, k⟩
  cases p with
  | int i =>
    cases q with
    | int j =>
      obtain ⟨rfl, rfl⟩ := hp
      obtain ⟨rfl, rfl⟩ := hq
      cases e
      exact op_add pins s σ H _ _ v u Q I rx ry ⟨i, j, rfl, rfl, k _ _ [] (NewV.flat lok ⟨rfl, rfl⟩)⟩
    | bl b =>
      obtain ⟨rfl, rfl⟩ := hp
      obtain ⟨rfl, rfl⟩ := hq
      cases e
      refine op_add_ib pins s σ H _ _ v u Q I rx ry ⟨i, b, rfl, rfl, k _ _ [] (NewV.flat lok ⟨?_, rfl⟩)⟩
      cases b <;> rfl
    | _ => simp [binop] at e
  | str i =>
    cases q with
    | str j =>
      obtain ⟨rfl, rfl⟩ := hp
      obtain ⟨rfl, rfl⟩ := hq
      simp only [binop] at e
      split at e
      · rename_i c
        cases e
        exact op_add_str pins s σ H _ _ v u Q I rx ry ⟨i, j, rfl, rfl, c, k _ _ [] (NewV.flat lok ⟨rfl, rfl⟩)⟩
      · cases e
    | _ => simp [binop] at e
  | tup l =>
    cases q with
    | tup m =>
      obtain ⟨a, vs, rfl, ha, hl⟩ := hp
      obtain ⟨b, us, rfl, hb, hm⟩ := hq
      simp only [binop] at e
      split at e
      · rename_i c
        cases e
        rw [hK] at ha hb
        rw [← hl.length, ← hm.length] at c
        refine op_catA pins s σ H _ _ v u Q I rx ry ⟨a, b, vs, us, rfl, rfl, ha, hb, c, fun e => ?_, fun _ e => ?_, fun _ _ z hz => ?_⟩
        · subst e
          cases l with
          | cons x l => simp [RepL] at hl
          | nil => exact k _ _ fq (NewV.partT lok ⟨b, us, rfl, hK ▸ hb, hm⟩ fun c hc => List.mem_append_right _ hc)
        · subst e
          cases m with
          | cons x l => simp [RepL] at hm
          | nil =>
            rw [List.append_nil] at k
            exact k _ _ fp (NewV.partT lok ⟨a, vs, rfl, hK ▸ ha, hl⟩ fun c hc => List.mem_append_left _ hc)
        · exact k _ _ _ (NewV.tup lok hz (hl.append hm) (by rw [List.length_append]; exact c) fun _ w => w)
      · cases e
    | _ => simp [binop] at e
  | lst l =>
    cases q with
    | lst m =>
      obtain ⟨a, vs, f, rfl, ha, hl, rfl⟩ := hp
      obtain ⟨b, us, g, rfl, hb, hm, rfl⟩ := hq
      simp only [binop] at e
      split at e
      · rename_i c
        cases e
        rw [← hl.length, ← hm.length] at c
        refine op_cat pins s σ H _ _ v u Q I rx ry ⟨a, b, vs, us, rfl, rfl, ha, hb, c, fun z hz => ?_⟩
        refine k _ _ _ (NewV.lst lok hz (hl.append hm) (by rw [List.length_append]; exact c) fun w hw => ?_)
        rcases List.mem_append.mp hw with z | z
        · exact List.mem_append_left _ (List.mem_cons_of_mem _ z)
        · exact List.mem_append_right _ (List.mem_cons_of_mem _ z)
      · cases e
    | _ => simp [binop] at e
  | _ => simp [binop] at e
/-- two ints -/
theorem op_ints {op : Operator} {f : Int → Int → Option Int} {C : Int → Int → Prop} {g : Int → Int → V} (ho : OpR X (binaryOp op) (rI C g)) (hb : ∀ p q r, binop op p q = some r → ∃ i j n, p = .int i ∧ q = .int j ∧ r = .int n ∧ C i j ∧ g i j = .int n) : OpR X (binaryOp op) (rBin G op) := by
  intro pins s σ H x y v u Q I rx ry ⟨p, q, r, fp, fq, hp, hq, lok, e, k⟩
  obtain ⟨i, j, n, rfl, rfl, rfl, hc, hg⟩ := hb p q r e
  obtain ⟨rfl, rfl⟩ := hp
  obtain ⟨rfl, rfl⟩ := hq
  exact ho pins s σ H _ _ v u Q I rx ry ⟨i, j, rfl, rfl, hc, k _ _ [] (NewV.flat lok ⟨hg, rfl⟩)⟩
theorem rI0_I {op : Operator} {g : Int → Int → V} (h : OpR X (binaryOp op) (rI0 g)) : OpR X (binaryOp op) (rI (fun _ _ => True) g) := fun pins s σ H x y v u Q I rx ry ⟨i, j, a, b, _, c⟩ => h pins s σ H x y v u Q I rx ry ⟨i, j, a, b, c⟩
theorem op_subP : OpR X (binaryOp .Sub) (rBin G .Sub) := op_ints (f := fun _ _ => none) (rI0_I op_sub) fun p q r e => by
  cases p <;> cases q <;> simp only [binop, reduceCtorEq] at e
  cases e
  exact ⟨_, _, _, rfl, rfl, rfl, trivial, rfl⟩
theorem op_andP : OpR X (binaryOp .BitAnd) (rBin G .BitAnd) := op_ints (f := fun _ _ => none) (rI0_I op_and) fun p q r e => by
  cases p <;> cases q <;> simp only [binop, reduceCtorEq] at e
  cases e
  exact ⟨_, _, _, rfl, rfl, rfl, trivial, rfl⟩
theorem op_orP : OpR X (binaryOp .BitOr) (rBin G .BitOr) := op_ints (f := fun _ _ => none) (rI0_I op_or) fun p q r e => by
  cases p <;> cases q <;> simp only [binop, reduceCtorEq] at e
  cases e
  exact ⟨_, _, _, rfl, rfl, rfl, trivial, rfl⟩
theorem op_xorP : OpR X (binaryOp .BitXor) (rBin G .BitXor) := op_ints (f := fun _ _ => none) (rI0_I op_xor) fun p q r e => by
  cases p <;> cases q <;> simp only [binop, reduceCtorEq] at e
  cases e
  exact ⟨_, _, _, rfl, rfl, rfl, trivial, rfl⟩
theorem op_modP : OpR X (binaryOp .Mod) (rBin G .Mod) := op_ints (f := fun _ _ => none) op_modN fun p q r e => by
  cases p <;> cases q <;> simp only [binop, reduceCtorEq] at e
  split at e
  · cases e
    exact ⟨_, _, _, rfl, rfl, rfl, ‹_›, rfl⟩
  · cases e
theorem op_powP : OpR X (binaryOp .Pow) (rBin G .Pow) := op_ints (f := fun _ _ => none) op_pow fun p q r e => by
  cases p <;> cases q <;> simp only [binop, reduceCtorEq] at e
  split at e
  · cases e
    exact ⟨_, _, _, rfl, rfl, rfl, ‹_›, rfl⟩
  · cases e
theorem op_shlP : OpR X (binaryOp .LShift) (rBin G .LShift) := op_ints (f := fun _ _ => none) op_shl fun p q r e => by
  cases p <;> cases q <;> simp only [binop, reduceCtorEq] at e
  split at e
  · cases e
    exact ⟨_, _, _, rfl, rfl, rfl, ‹_›, rfl⟩
  · cases e
theorem op_shrP : OpR X (binaryOp .RShift) (rBin G .RShift) := op_ints (f := fun _ _ => none) op_shr fun p q r e => by
  cases p <;> cases q <;> simp only [binop, reduceCtorEq] at e
  split at e
  · cases e
    exact ⟨_, _, _, rfl, rfl, rfl, ‹_›, rfl⟩
  · cases e
/-- // by either rule -/
theorem op_fdivP : OpR X (binaryOp .FloorDiv) (rBin G .FloorDiv) := by
  intro pins s σ H x y v u Q I rx ry ⟨p, q, r, fp, fq, hp, hq, lok, e, k⟩
  cases p <;> cases q <;> simp only [binop, reduceCtorEq] at e
  rename_i i j
  split at e
  · rename_i c
    cases e
    obtain ⟨rfl, rfl⟩ := hp
    obtain ⟨rfl, rfl⟩ := hq
    unfold fdivOk at c
    rcases Bool.or_eq_true_iff.mp c with c | c
    · obtain ⟨c1, c2⟩ := Bool.and_eq_true_iff.mp c
      exact op_fdivN pins s σ H _ _ v u Q I rx ry ⟨i, j, rfl, rfl, ⟨of_decide_eq_true c1, of_decide_eq_true c2⟩, k _ _ [] (NewV.flat lok ⟨rfl, rfl⟩)⟩
    · obtain ⟨c1, c2⟩ := Bool.and_eq_true_iff.mp c
      have c1 := of_decide_eq_true c1
      have c2 := of_decide_eq_true c2
      refine op_fdivW pins s σ H _ _ v u Q I rx ry ⟨i, j, rfl, rfl, ⟨c1, c2⟩, ?_⟩
      have ez : i.fdiv j = i / j := Int.fdiv_eq_ediv_of_nonneg i (by omega)
      show Q (V.int (i / j)) H
      rw [← ez]
      exact k _ _ [] (NewV.flat lok ⟨rfl, rfl⟩)
  · cases e
theorem RepL.rep {H : Hp} {l : List PV} {vs : List V} {f : List Addr} (h : RepL G H l vs f) : ∀ k : Nat, ∃ g, RepL G H (List.replicate k l).flatten (List.replicate k vs).flatten g ∧ ∀ a ∈ g, a ∈ f
  | 0 => ⟨[], RepL.nil, fun _ z => by simp at z⟩
  | k + 1 => by
    obtain ⟨g, h1, h2⟩ := RepL.rep h k
    refine ⟨f ++ g, ?_, fun a z => (List.mem_append.mp z).elim (fun z => z) (h2 a)⟩
    rw [List.replicate_succ, List.replicate_succ, List.flatten_cons, List.flatten_cons]
    exact h.append h1
theorem op_mulP (hK : G.K = X.K) : OpR X (binaryOp .Mult) (rBin G .Mult) := by
  intro pins s σ H x y v u Q I rx ry ⟨p, q, r, fp, fq, hp, hq, lok, e, k⟩
  cases p with
  | int i =>
    cases q with
    | int j =>
      simp only [binop] at e
      split at e
      · rename_i c
        cases e
        obtain ⟨rfl, rfl⟩ := hp
        obtain ⟨rfl, rfl⟩ := hq
        unfold mulOk at c
        rcases Bool.or_eq_true_iff.mp c with c | c
        · rcases Bool.or_eq_true_iff.mp c with c | c
          · exact op_mulW pins s σ H _ _ v u Q I rx ry ⟨i, j, rfl, rfl, (of_decide_eq_true c : i.natAbs.log2 + j.natAbs.log2 < 1000000), k _ _ [] (NewV.flat lok ⟨rfl, rfl⟩)⟩
          · obtain ⟨c1, c2⟩ := Bool.and_eq_true_iff.mp c
            exact op_mul pins s σ H _ _ v u Q I rx ry ⟨i, j, rfl, rfl, .inr ⟨of_decide_eq_true c1, of_decide_eq_true c2⟩, k _ _ [] (NewV.flat lok ⟨rfl, rfl⟩)⟩
        · obtain ⟨c1, c2⟩ := Bool.and_eq_true_iff.mp c
          exact op_mul pins s σ H _ _ v u Q I rx ry ⟨i, j, rfl, rfl, .inl ⟨of_decide_eq_true c1, of_decide_eq_true c2⟩, k _ _ [] (NewV.flat lok ⟨rfl, rfl⟩)⟩
      · cases e
    | _ => simp [binop] at e
  | lst l =>
    cases q with
    | int n =>
      simp only [binop] at e
      split at e
      · rename_i c
        cases e
        obtain ⟨a, vs, f, rfl, ha, hl, rfl⟩ := hp
        obtain ⟨rfl, rfl⟩ := hq
        obtain ⟨c1, c2, c3⟩ := c
        rw [← hl.length] at c1
        refine op_rep pins s σ H _ _ v u Q I rx ry ⟨a, n, vs, rfl, rfl, ha, c2, c3, c1, fun z hz => ?_⟩
        obtain ⟨g, h1, h2⟩ := hl.rep n.toNat
        refine k _ _ _ (NewV.lst lok hz h1 ?_ fun w hw => ?_)
        · rw [PyProof.Rows.lm_len_rep_flat, Nat.mul_comm]; exact c1
        · rw [List.append_nil]; exact List.mem_cons_of_mem _ (h2 w hw)
      · cases e
    | _ => simp [binop] at e
  | tup l =>
    cases q with
    | int n =>
      simp only [binop] at e
      split at e
      · rename_i c
        cases e
        obtain ⟨a, vs, rfl, ha, hl⟩ := hp
        obtain ⟨rfl, rfl⟩ := hq
        obtain ⟨c1, c2, c3, c4⟩ := c
        have el := hl.length
        obtain ⟨g, h1, h2⟩ := hl.rep n.toNat
        refine op_repT pins s σ H _ _ v u Q I rx ry ⟨a, n, vs, rfl, rfl, hK ▸ ha, fun e => ?_, c3, c4, by omega, fun z hz => ?_⟩
        · rw [e] at el
          simp at el
          omega
        · refine k _ _ _ (NewV.tup lok hz h1 ?_ fun w hw => ?_)
          · rw [PyProof.Rows.lm_len_rep_flat, el]
            have hm : n.toNat * l.length ≤ 1000 * 1000 := Nat.mul_le_mul (by omega) c1
            rw [sizeLine_eq]
            omega
          · rw [List.append_nil]; exact h2 w hw
      · cases e
    | _ => simp [binop] at e
  | _ => simp [binop] at e
end
end Ev

/-! EvE4: comparisons, truth, and, or, not. -/
namespace Ev
open PySem PySem.Spec PyProof.Rows L2
def rCmp (G : Gl0) (op : CmpOp) : R2 := fun x y H Q => ∃ p q b fp fq, RepF G H p x fp ∧ RepF G H q y fq ∧ LenOk G.K H ∧ cmpop op p q = some b ∧ Q (.bl b) H
section
variable {X : Cx} {G : Gl0}
theorem RepF.nn {H : Hp} {p : PV} {x : V} {fp : List Addr} (h : RepF G H p x fp) (n : p ≠ .non) : x ≠ .non := by
  cases p with
  | undef => exact h.elim
  | non => exact absurd rfl n
  | bl b => rw [h.1]; exact nofun
  | int b => rw [h.1]; exact nofun
  | str b => rw [h.1]; exact nofun
  | fn b => rw [h.1]; exact nofun
  | tup l => obtain ⟨a, vs, e, _⟩ := h; rw [e]; exact nofun
  | lst l => obtain ⟨a, vs, f, e, _⟩ := h; rw [e]; exact nofun
  | scr l => obtain ⟨a, vs, e, _⟩ := h; rw [e]; exact nofun
  | exc c b => obtain ⟨a, d, y, e, _⟩ := h; rw [e]; exact nofun
theorem op_eqP (hK : G.K = X.K) (hu : X.A.units + 64 < cLine) : OpR X (compareOp .Eq) (rCmp G .Eq) := by
  intro pins s σ H x y v u Q I rx ry ⟨p, q, b, fp, fq, hp, hq, lok, e, k⟩
  by_cases st : ∃ a b, p = .str a ∧ q = .str b
  · obtain ⟨a, c, rfl, rfl⟩ := st
    cases e
    obtain ⟨rfl, rfl⟩ := hp
    obtain ⟨rfl, rfl⟩ := hq
    obtain ⟨t, rfl⟩ := rx
    obtain ⟨t', rfl⟩ := ry
    refine PyProof.Rows.eq_str ⟨.bl _, H, I, rfl, ?_⟩
    by_cases ec : a = c
    · subst ec; simpa using k
    · have e2 : (a == c) = false := beq_eq_false_iff_ne.mpr ec
      simpa [ec, e2] using k
  have e : (if eqOk p q = true then some (PyData.eqv p.pd q.pd) else none) = some b := by
    rw [← e]
    cases p <;> cases q <;> first | rfl | exact absurd ⟨_, _, rfl, rfl⟩ st
  split at e
  · rename_i c
    cases e
    unfold eqOk at c
    obtain ⟨c, c4⟩ := Bool.and_eq_true_iff.mp c
    obtain ⟨c, c3⟩ := Bool.and_eq_true_iff.mp c
    obtain ⟨c1, c2⟩ := Bool.and_eq_true_iff.mp c
    exact op_eqD hu pins s σ H x y v u Q I rx ry ⟨p.pd, q.pd, hK ▸ hp.dp _ _ _ c1, hK ▸ hq.dp _ _ _ c2, c3, c4, k⟩
  · cases e
theorem op_neP (hK : G.K = X.K) (hu : X.A.units + 64 < cLine) : OpR X (compareOp .NotEq) (rCmp G .NotEq) := by
  intro pins s σ H x y v u Q I rx ry ⟨p, q, b, fp, fq, hp, hq, lok, e, k⟩
  by_cases st : ∃ a b, p = .str a ∧ q = .str b
  · obtain ⟨a, c, rfl, rfl⟩ := st
    cases e
    obtain ⟨rfl, rfl⟩ := hp
    obtain ⟨rfl, rfl⟩ := hq
    obtain ⟨t, rfl⟩ := rx
    obtain ⟨t', rfl⟩ := ry
    refine PyProof.Rows.ne_str ⟨.bl _, H, I, rfl, ?_⟩
    by_cases ec : a = c
    · subst ec; simpa [bne] using k
    · have e2 : (a == c) = false := beq_eq_false_iff_ne.mpr ec
      simpa [ec, e2, bne] using k
  have e : (if eqOk p q = true then some (!PyData.eqv p.pd q.pd) else none) = some b := by
    rw [← e]
    cases p <;> cases q <;> first | rfl | exact absurd ⟨_, _, rfl, rfl⟩ st
  split at e
  · rename_i c
    cases e
    unfold eqOk at c
    obtain ⟨c, c4⟩ := Bool.and_eq_true_iff.mp c
    obtain ⟨c, c3⟩ := Bool.and_eq_true_iff.mp c
    obtain ⟨c1, c2⟩ := Bool.and_eq_true_iff.mp c
    exact op_neD hu pins s σ H x y v u Q I rx ry ⟨p.pd, q.pd, hK ▸ hp.dp _ _ _ c1, hK ▸ hq.dp _ _ _ c2, c3, c4, k⟩
  · cases e
theorem ltOk_parts {p q : PV} (c : ltOk p q = true) : p.data = true ∧ q.data = true ∧ PySem.W.alike p.pd q.pd = true ∧ p.pd.depth ≤ 64 ∧ p.pd ≠ .none := by
  unfold ltOk at c
  obtain ⟨c, c5⟩ := Bool.and_eq_true_iff.mp c
  obtain ⟨c, c4⟩ := Bool.and_eq_true_iff.mp c
  obtain ⟨c, c3⟩ := Bool.and_eq_true_iff.mp c
  obtain ⟨c1, c2⟩ := Bool.and_eq_true_iff.mp c
  refine ⟨c1, c2, c3, of_decide_eq_true c4, fun e => ?_⟩
  rw [e] at c5
  cases c5
/-- an ordering of data, by the library's rule -/
theorem op_ordP {op : CmpOp} {f : PV → PV → Bool} (hK : G.K = X.K) (hu : X.A.units + 64 < cLine)
    (hf : ∀ p q b, cmpop op p q = some b → (∃ i j, p = .int i ∧ q = .int j ∧ b = f p q) ∨ (ltOk p q = true ∧ b = f p q))
    (hi : ∀ (i j : Int), f (.int i) (.int j) = f (.int i) (.int j) ∧ ltOk (.int i) (.int j) = true)
    (rule : ∀ {p q : PV} {s : Shared} {v u : Value} {as bs : List Addr} {Q : Value → Shared → Prop}, Reads s.heap v p.pd as → Reads s.heap u q.pd bs → PySem.W.alike p.pd q.pd = true → p.pd ≠ .none → X.A.units + min p.pd.depth q.pd.depth < cLine → Q (.bool (f p q)) s → wpAny (model X.prog X.w) X.A (compareOp op v u) Q X.xe s) :
    OpR X (compareOp op) (rCmp G op) := by
  intro pins s σ H x y v u Q I rx ry ⟨p, q, b, fp, fq, hp, hq, lok, e, k⟩
  have hb : ltOk p q = true ∧ b = f p q := by
    rcases hf p q b e with ⟨i, j, rfl, rfl, e⟩ | h
    · exact ⟨(hi i j).2, e⟩
    · exact h
  obtain ⟨c, rfl⟩ := hb
  obtain ⟨c1, c2, c3, c4, c5⟩ := ltOk_parts c
  obtain ⟨as, r1⟩ := Dp.reads I p.pd x v (hK ▸ hp.dp _ _ _ c1) rx
  obtain ⟨bs, r2⟩ := Dp.reads I q.pd y u (hK ▸ hq.dp _ _ _ c2) ry
  have hm : min p.pd.depth q.pd.depth ≤ p.pd.depth := Nat.min_le_left _ _
  exact rule r1 r2 c3 c5 (by omega) ⟨.bl _, H, I, rfl, k⟩
theorem lt_ii (i j : Int) : PySem.W.dataLt (PV.int i).pd (PV.int j).pd = decide (i < j) := PySem.W.dataLt_int i j
theorem ltOk_ii (i j : Int) : ltOk (.int i) (.int j) = true := by simp [ltOk, PV.data, PV.pd, PySem.W.alike, PyData.depth]
theorem not_lt_dec (i j : Int) : (!decide (j < i)) = decide (i ≤ j) := by
  by_cases h : j < i
  · rw [decide_eq_true h, decide_eq_false (by omega)]; rfl
  · rw [decide_eq_false h, decide_eq_true (by omega)]; rfl
theorem cmp_shape {op : CmpOp} {p q : PV} {b : Bool} {f : PV → PV → Bool} (h1 : ∀ i j, cmpop op (.int i) (.int j) = some (f (.int i) (.int j)))
    (h2 : (∀ i j, ¬ (p = .int i ∧ q = .int j)) → cmpop op p q = if ltOk p q then some (f p q) else none) (e : cmpop op p q = some b) : (∃ i j, p = .int i ∧ q = .int j ∧ b = f p q) ∨ (ltOk p q = true ∧ b = f p q) := by
  by_cases h : ∃ i j, p = .int i ∧ q = .int j
  · obtain ⟨i, j, rfl, rfl⟩ := h
    rw [h1] at e
    exact .inl ⟨i, j, rfl, rfl, (Option.some.inj e).symm⟩
  · rw [h2 fun i j z => h ⟨i, j, z⟩] at e
    split at e
    · exact .inr ⟨‹_›, (Option.some.inj e).symm⟩
    · cases e
theorem op_ltP (hK : G.K = X.K) (hu : X.A.units + 64 < cLine) : OpR X (compareOp .Lt) (rCmp G .Lt) :=
  op_ordP (f := fun p q => PySem.W.dataLt p.pd q.pd) hK hu (fun p q b e => cmp_shape (f := fun p q => PySem.W.dataLt p.pd q.pd) (fun i j => by show some _ = some _; rw [lt_ii]) (fun n => by
    cases p with
    | int i => cases q with
      | int j => exact absurd ⟨rfl, rfl⟩ (n i j)
      | _ => rfl
    | _ => rfl) e) (fun i j => ⟨rfl, ltOk_ii i j⟩) fun r1 r2 a n h q => PySem.W.lt_data r1 r2 a n h q
theorem op_gtP (hK : G.K = X.K) (hu : X.A.units + 64 < cLine) : OpR X (compareOp .Gt) (rCmp G .Gt) :=
  op_ordP (f := fun p q => PySem.W.dataLt q.pd p.pd) hK hu (fun p q b e => cmp_shape (f := fun p q => PySem.W.dataLt q.pd p.pd) (fun i j => by show some _ = some _; rw [lt_ii]) (fun n => by
    cases p with
    | int i => cases q with
      | int j => exact absurd ⟨rfl, rfl⟩ (n i j)
      | _ => rfl
    | _ => rfl) e) (fun i j => ⟨rfl, ltOk_ii i j⟩) fun r1 r2 a n h q => PySem.W.gt_data r1 r2 a n h q
theorem op_leP (hK : G.K = X.K) (hu : X.A.units + 64 < cLine) : OpR X (compareOp .LtE) (rCmp G .LtE) :=
  op_ordP (f := fun p q => !PySem.W.dataLt q.pd p.pd) hK hu (fun p q b e => cmp_shape (f := fun p q => !PySem.W.dataLt q.pd p.pd) (fun i j => by show some _ = some _; rw [lt_ii, not_lt_dec]) (fun n => by
    cases p with
    | int i => cases q with
      | int j => exact absurd ⟨rfl, rfl⟩ (n i j)
      | _ => rfl
    | _ => rfl) e) (fun i j => ⟨rfl, ltOk_ii i j⟩) fun r1 r2 a n h q => PySem.W.le_data r1 r2 a n h q
theorem op_geP (hK : G.K = X.K) (hu : X.A.units + 64 < cLine) : OpR X (compareOp .GtE) (rCmp G .GtE) :=
  op_ordP (f := fun p q => !PySem.W.dataLt p.pd q.pd) hK hu (fun p q b e => cmp_shape (f := fun p q => !PySem.W.dataLt p.pd q.pd) (fun i j => by show some _ = some _; rw [lt_ii, not_lt_dec]) (fun n => by
    cases p with
    | int i => cases q with
      | int j => exact absurd ⟨rfl, rfl⟩ (n i j)
      | _ => rfl
    | _ => rfl) e) (fun i j => ⟨rfl, ltOk_ii i j⟩) fun r1 r2 a n h q => PySem.W.ge_data r1 r2 a n h q
theorem op_isP : OpR X (compareOp .Is) (rCmp G .Is) := by
  intro pins s σ H x y v u Q I rx ry ⟨p, q, b, fp, fq, hp, hq, lok, e, k⟩
  cases q <;> simp only [cmpop, reduceCtorEq] at e
  obtain ⟨rfl, _⟩ := hq
  refine op_isN pins s σ H x _ v u Q I rx ry ⟨rfl, ?_⟩
  by_cases hn : p = .non
  · subst hn
    cases e
    obtain ⟨rfl, _⟩ := hp
    exact k
  · have hx := RepF.nn hp hn
    have e' : b = false := by
      cases p <;> first | exact absurd rfl hn | exact hp.elim | exact (Option.some.inj e).symm
    subst e'
    rw [decide_eq_false hx]
    exact k
theorem op_isnP : OpR X (compareOp .IsNot) (rCmp G .IsNot) := by
  intro pins s σ H x y v u Q I rx ry ⟨p, q, b, fp, fq, hp, hq, lok, e, k⟩
  cases q <;> simp only [cmpop, reduceCtorEq] at e
  obtain ⟨rfl, _⟩ := hq
  refine op_notN pins s σ H x _ v u Q I rx ry ⟨rfl, ?_⟩
  by_cases hn : p = .non
  · subst hn
    cases e
    obtain ⟨rfl, _⟩ := hp
    exact k
  · have hx := RepF.nn hp hn
    have e' : b = true := by
      cases p <;> first | exact absurd rfl hn | exact hp.elim | exact (Option.some.inj e).symm
    subst e'
    rw [decide_eq_false hx]
    exact k
theorem inOk_parts {x : PV} {l : List PV} (c : inOk x l = true) : x.data = true ∧ PV.datas l = true ∧ SeqAt.shaped x.pd = true ∧ SeqAt.shaped (.list (PV.pds l)) = true := by
  unfold inOk at c
  obtain ⟨c, c4⟩ := Bool.and_eq_true_iff.mp c
  obtain ⟨c, c3⟩ := Bool.and_eq_true_iff.mp c
  obtain ⟨c1, c2⟩ := Bool.and_eq_true_iff.mp c
  exact ⟨c1, c2, c3, c4⟩
theorem op_inP (hK : G.K = X.K) (hu : X.A.units + 65 < cLine) : OpR X (compareOp .In) (rCmp G .In) := by
  intro pins s σ H x y v u Q I rx ry ⟨p, q, b, fp, fq, hp, hq, lok, e, k⟩
  cases q with
  | lst l =>
    simp only [cmpop] at e
    split at e
    · rename_i c
      cases e
      obtain ⟨c1, c2, c3, c4⟩ := inOk_parts c
      exact op_inD hu pins s σ H x y v u Q I rx ry ⟨p.pd, PV.pds l, hK ▸ hp.dp _ _ _ c1, hK ▸ hq.dp (.lst l) _ _ (by simpa [PV.data] using c2), c3, c4, k⟩
    · cases e
  | tup l =>
    simp only [cmpop] at e
    split at e
    · rename_i c
      cases e
      obtain ⟨c1, c2, c3, c4⟩ := inOk_parts c
      obtain ⟨as, r1⟩ := Dp.reads I p.pd x v (hK ▸ hp.dp _ _ _ c1) rx
      obtain ⟨bs, r2⟩ := Dp.reads I (.tuple (PV.pds l)) y u (hK ▸ hq.dp (.tup l) _ _ (by simpa [PV.data] using c2)) ry
      exact SeqAt.in_tuple_reads r2 r1 (SeqAt.canLay_of_shaped c4) (SeqAt.canLay_of_shaped c3) (room_in_shaped c3 hu) ⟨.bl _, H, I, rfl, k⟩
    · cases e
  | _ => simp [cmpop] at e
theorem op_ninP (hK : G.K = X.K) (hu : X.A.units + 65 < cLine) : OpR X (compareOp .NotIn) (rCmp G .NotIn) := by
  intro pins s σ H x y v u Q I rx ry ⟨p, q, b, fp, fq, hp, hq, lok, e, k⟩
  cases q with
  | lst l =>
    simp only [cmpop] at e
    split at e
    · rename_i c
      cases e
      obtain ⟨c1, c2, c3, c4⟩ := inOk_parts c
      exact op_notInD hu pins s σ H x y v u Q I rx ry ⟨p.pd, PV.pds l, hK ▸ hp.dp _ _ _ c1, hK ▸ hq.dp (.lst l) _ _ (by simpa [PV.data] using c2), c3, c4, k⟩
    · cases e
  | tup l =>
    simp only [cmpop] at e
    split at e
    · rename_i c
      cases e
      obtain ⟨c1, c2, c3, c4⟩ := inOk_parts c
      obtain ⟨as, r1⟩ := Dp.reads I p.pd x v (hK ▸ hp.dp _ _ _ c1) rx
      obtain ⟨bs, r2⟩ := Dp.reads I (.tuple (PV.pds l)) y u (hK ▸ hq.dp (.tup l) _ _ (by simpa [PV.data] using c2)) ry
      exact SeqAt.notIn_tuple_reads r2 r1 (SeqAt.canLay_of_shaped c4) (SeqAt.canLay_of_shaped c3) (room_in_shaped c3 hu) ⟨.bl _, H, I, rfl, k⟩
    · cases e
  | _ => simp [cmpop] at e
theorem op_cmpP (op : CmpOp) (hK : G.K = X.K) (hu : X.A.units + 65 < cLine) : OpR X (compareOp op) (rCmp G op) := by
  cases op with
  | Eq => exact op_eqP hK (by omega)
  | NotEq => exact op_neP hK (by omega)
  | Lt => exact op_ltP hK (by omega)
  | LtE => exact op_leP hK (by omega)
  | Gt => exact op_gtP hK (by omega)
  | GtE => exact op_geP hK (by omega)
  | Is => exact op_isP
  | IsNot => exact op_isnP
  | In => exact op_inP hK hu
  | NotIn => exact op_ninP hK hu
end
end Ev

/-! EvE5: comparisons in place, truth, and, or, not, if. -/
namespace Ev
open PySem PySem.Spec PyProof.Rows L2
section
variable {X : Cx} {R : Fr0} {W : WXX} {σ : St} {H H1 : Hp} {F F1 : Nat → List Addr} {env env1 : Env} {Q1 : VK} {QT Q : Bool → Hp → Prop} {kd kd1 kd2 kd3 : Kd} {nor n1 n2 n3 : Bool}
theorem okT.bind {r : Res (PV × Env)} {k : PV × Env → Res (PV × Env)} (s0 : Step R.ms H F H1 F1) (h : okT R W nor σ H F env Q (r.bind k))
    (step : ∀ q v H2 F2 fp, r = .ok q → EnvOk R σ H2 F2 q.2 → Step R.ms H1 F1 H2 F2 → ValOk R kd1 H1 F1 H2 F2 q.1 v fp → Nor kd1.nor H1 F1 env1 H2 F2 q.2 → okT R W nor σ H F env Q (k q) → Q1 v H2) :
    okR R W kd1 σ H1 F1 env1 Q1 r := by
  cases r with
  | ok q => exact fun v H2 F2 fp k1 k2 k3 k4 => step q v H2 F2 fp rfl k1 k2 k3 k4 h
  | raise c x e => exact fun d H2 F2 k1 k2 k3 => h d H2 F2 k1 (s0.trans k2) k3
  | fail => exact h
theorem okT.ofO {α : Type} {o : Option α} {k : α → Res (PV × Env)} (h : okT R W nor σ H F env Q ((Ev.ofO o).bind k)) : ∃ x, o = some x ∧ okT R W nor σ H F env Q (k x) := by
  cases o with
  | none => exact h.elim
  | some x => exact ⟨x, rfl, h⟩
theorem okT.bindT {r : Res (PV × Env)} {k : Bool → PV × Env → Res (PV × Env)} (s0 : Step R.ms H F H1 F1) (h : okT R W nor σ H F env Q (r.bind fun q => (Ev.ofO (truth q.1)).bind fun b => k b q))
    (step : ∀ b q H2 F2, r = .ok q → truth q.1 = some b → EnvOk R σ H2 F2 q.2 → Step R.ms H1 F1 H2 F2 → Nor n1 H1 F1 env1 H2 F2 q.2 → okT R W nor σ H F env Q (k b q) → QT b H2) :
    okT R W n1 σ H1 F1 env1 QT r := by
  cases r with
  | ok q =>
    obtain ⟨b, e, h'⟩ := okT.ofO (show okT R W nor σ H F env Q ((_root_.Ev.ofO (truth q.1)).bind fun b => k b q) from h)
    exact ⟨b, e, fun H2 F2 k1 k2 k3 => step b q H2 F2 rfl e k1 k2 k3 h'⟩
  | raise c x e => exact fun d H2 F2 k1 k2 k3 => h d H2 F2 k1 (s0.trans k2) k3
  | fail => exact h
/-- the end of a test -/
theorem okT.done {p : PV} {b : Bool} {n : Bool} (h : okT R W nor σ H F env Q (.ok (p, env1))) (e : truth p = some b) (k : EnvOk R σ H1 F1 env1) (s : Step R.ms H F H1 F1) (nr : Nor n H F env H1 F1 env1) (hn : nor = true → n = true) : Q b H1 := by
  obtain ⟨b', e', h'⟩ := h
  have e2 : truth p = some b' := e'
  rw [e] at e2
  cases e2
  exact h' H1 F1 k s fun z => nr (hn z)

theorem tru_of {p : PV} {x : V} {fp : List Addr} {b : Bool} (h : RepF R.G H p x fp) (e : truth p = some b) : TruV R.G.K x H b := by
  cases p with
  | undef => exact h.elim
  | non => rw [h.1]; cases e; rfl
  | bl c => rw [h.1]; cases e; rfl
  | int c => rw [h.1]; cases e; rfl
  | str c =>
    rw [h.1]
    simp only [truth] at e
    split at e
    · cases e
      refine ⟨‹_›, ?_⟩
      cases z : c.length with
      | zero => rfl
      | succ n =>
        show (n + 1 != 0) = (((n + 1 : Nat) : Int) != 0)
        rw [show (n + 1 != 0) = true from rfl]
        symm
        rw [bne_iff_ne]
        omega
    · cases e
  | tup l =>
    obtain ⟨a, vs, rfl, ha, hl⟩ := h
    cases e
    refine .inr (.inl ⟨vs, ha, ?_⟩)
    cases l with
    | nil => rw [hl.1]; rfl
    | cons y l => obtain ⟨y, vs', f, f', rfl, _⟩ := hl; rfl
  | lst l =>
    obtain ⟨a, vs, f, rfl, ha, hl, _⟩ := h
    cases e
    refine .inl ⟨vs, .of ha, ?_⟩
    cases l with
    | nil => rw [hl.1]; rfl
    | cons y l => obtain ⟨y, vs', f, f', rfl, _⟩ := hl; rfl
  | fn k => simp [truth] at e
  | scr k => simp [truth] at e
  | exc c k => simp [truth] at e
/-- expressions whose test is their value's truth -/
def plainT : Expr → Bool
  | .UnaryOp .Not _ _ => false
  | .BoolOp _ _ _ => false
  | .IfExp _ _ _ _ => false
  | .Compare _ _ _ _ => false
  | _ => true
theorem plainT_is {ex : Expr} (h : plainT ex = true) (env : PySem.Env) : ∀ whole, isTrue ex env whole = (do let v ← whole; standAt ex.pos; holding [v] (truthy v)) := by
  intro whole
  cases ex with
  | UnaryOp op a p => cases op <;> first | rfl | cases h
  | BoolOp => cases h
  | IfExp => cases h
  | Compare => cases h
  | _ => rfl
theorem ev_tru {ex : Expr} {ev : Env → Res (PV × Env)} (hK : R.G.K = X.K) (hp : plainT ex = true) (he : PE X ex (rdE R W kd ev)) : PT X ex (rdT R W kd.nor ev) :=
  PT.by (pt_truth he (plainT_is hp _)) fun σ H Q F env k h => ⟨F, env, k, by
    cases e : ev env with
    | ok q =>
      rw [e] at h
      obtain ⟨b, e1, h1⟩ := h
      exact fun v H2 F2 fp k2 s2 v2 nr => ⟨b, hK ▸ tru_of v2.rep e1, h1 H2 F2 k2 s2 nr⟩
    | raise c x e' => rw [e] at h; exact h
    | fail => rw [e] at h; exact h⟩

/-! ### not -/
theorem ev_not {a : Expr} {pos : Pos} {ev : Env → Res (PV × Env)} (hK : R.G.K = X.K) (ha : PE X a (rdE R W kd1 ev)) : PE X (.UnaryOp .Not a pos) (rdE R W ⟨true, true, true, kd1.nor⟩ fun env => (ev env).bind fun r => (ofO (truth r.1)).bind fun b => .ok (.bl (!b), r.2)) :=
  PE.by (pe_notT ha) fun σ H Q F env k h => ⟨F, env, k, okR.bind Step.refl h fun q v H2 F2 fp _ k2 s2 v2 nr h2 => by
    obtain ⟨b, e, h3⟩ := okR.ofO h2
    exact ⟨b, hK ▸ tru_of v2.rep e, okR.flat h3 k2 s2 nr (fun z => z) ⟨rfl, rfl⟩⟩⟩
theorem ev_notT {a : Expr} {pos : Pos} {ev : Env → Res (PV × Env)} (ha : PT X a (rdT R W n1 ev)) : PT X (.UnaryOp .Not a pos) (rdT R W n1 fun env => (ev env).bind fun r => (ofO (truth r.1)).bind fun b => .ok (.bl (!b), r.2)) :=
  PT.by (pt_not ha) fun σ H Q F env k h => ⟨F, env, k, okT.bindT (k := fun b q => .ok (.bl (!b), q.2)) Step.refl h fun b q H2 F2 _ _ k2 s2 nr h2 => okT.done h2 rfl k2 s2 nr fun z => z⟩

/-! ### comparisons -/
theorem stb_two {H2 H3 : Hp} {F2 F3 : Nat → List Addr} {p q : PV} {x y : V} {fp fq : List Addr} (v1 : ValOk R kd1 H F H2 F2 p x fp) (s2 : Step R.ms H2 F2 H3 F3) (v2 : ValOk R kd2 H2 F2 H3 F3 q y fq) (c : (kd1.stb && kd2.stb) = true) : ∀ a ∈ fp ++ fq, ¬ OW R.ms F3 a := fun a ha => by
  obtain ⟨c1, c2⟩ := Bool.and_eq_true_iff.mp c
  rcases List.mem_append.mp ha with z | z
  · exact fun w => by
      rcases s2.ow a w with w | w
      · exact v1.st c1 a z w
      · exact RepF.there _ _ _ v1.rep a z w
  · exact v2.st c2 a z
theorem ev_cmp {a b : Expr} {op : CmpOp} {pos : Pos} {eva evb : Env → Res (PV × Env)} (hK : R.G.K = X.K) (hu : X.A.units + 65 < cLine) (ha : PE X a (rdE R W kd1 eva)) (hb : PE X b (rdE R W kd2 evb)) (hc : (kd1.stb || kd2.nor) = true) (hm : behindInMarks op b = false) :
    PE X (.Compare a [op] [b] pos) (rdE R W ⟨true, true, true, kd1.nor && kd2.nor⟩ fun env => (eva env).bind fun r => (evb r.2).bind fun q => (ofO (cmpop op r.1 q.1)).bind fun x => .ok (.bl x, q.2)) :=
  PE.by (pe_cmpR (op_cmpP op hK hu) ha hb hm) fun σ H Q F env k h => by
    refine ⟨F, env, k, okR.bind Step.refl h fun p x H1 F1 fp _ k1 s1 v1 m1 h1 => ?_⟩
    refine ⟨F1, p.2, k1, okR.bind s1 h1 fun q y H2 F2 fq _ k2 s2 v2 m2 h2 => ?_⟩
    obtain ⟨z, e, h3⟩ := okR.ofO h2
    exact ⟨p.1, q.1, z, fp, fq, v1.held k1 s2 m2 hc, v2.rep, k2.lok, e, okR.flat h3 k2 (s1.trans s2) (Nor.trans m1 m2) (fun z => z) ⟨rfl, rfl⟩⟩
theorem ev_cmpT {a b : Expr} {op : CmpOp} {pos : Pos} {eva evb : Env → Res (PV × Env)} (hK : R.G.K = X.K) (hu : X.A.units + 65 < cLine) (ha : PE X a (rdE R W kd1 eva)) (hb : PE X b (rdE R W kd2 evb)) (hc : (kd1.stb || kd2.nor) = true) (hm : behindInMarks op b = false) :
    PT X (.Compare a [op] [b] pos) (rdT R W (kd1.nor && kd2.nor) fun env => (eva env).bind fun r => (evb r.2).bind fun q => (ofO (cmpop op r.1 q.1)).bind fun x => .ok (.bl x, q.2)) :=
  PT.by (pt_cmpR (op_cmpP op hK hu) ha hb hm) fun σ H Q F env k h => by
    refine ⟨F, env, k, okT.bind Step.refl h fun p x H1 F1 fp _ k1 s1 v1 m1 h1 => ?_⟩
    refine ⟨F1, p.2, k1, okT.bind s1 h1 fun q y H2 F2 fq _ k2 s2 v2 m2 h2 => ?_⟩
    obtain ⟨z, e, h3⟩ := okT.ofO h2
    exact ⟨p.1, q.1, z, fp, fq, v1.held k1 s2 m2 hc, v2.rep, k2.lok, e, z, rfl, okT.done h3 rfl k2 (s1.trans s2) (Nor.trans m1 m2) fun z => z⟩
/-- a op b op c -/
theorem ev_cmp2 {a b c : Expr} {o1 o2 : CmpOp} {pos : Pos} {eva evb evc : Env → Res (PV × Env)} (hK : R.G.K = X.K) (hu : X.A.units + 65 < cLine) (ha : PE X a (rdE R W kd1 eva)) (hb : PE X b (rdE R W kd2 evb)) (hc : PE X c (rdE R W kd3 evc))
    (hs : (kd1.stb || kd2.nor) = true) (hs2 : (kd2.stb || kd3.nor) = true) (hm : lastMarks [o1, o2] [b, c] = false) :
    PE X (.Compare a [o1, o2] [b, c] pos) (rdE R W ⟨true, true, true, kd1.nor && kd2.nor && kd3.nor⟩ fun env => (eva env).bind fun r => (evb r.2).bind fun q => (ofO (cmpop o1 r.1 q.1)).bind fun x =>
      if x = true then (evc q.2).bind fun p => (ofO (cmpop o2 q.1 p.1)).bind fun y => .ok (.bl y, p.2) else .ok (.bl false, q.2)) :=
  PE.by (pe_chain (op_cmpP o1 hK hu) (op_cmpP o2 hK hu) ha hb hc hm) fun σ H Q F env k h => by
    refine ⟨F, env, k, okR.bind Step.refl h fun p x H1 F1 fp _ k1 s1 v1 m1 h1 => ?_⟩
    refine ⟨F1, p.2, k1, okR.bind s1 h1 fun q y H2 F2 fq _ k2 s2 v2 m2 h2 => ?_⟩
    obtain ⟨z, e, h3⟩ := okR.ofO h2
    refine ⟨p.1, q.1, z, fp, fq, v1.held k1 s2 m2 hs, v2.rep, k2.lok, e, z, rfl, ?_⟩
    cases z with
    | false =>
      rw [if_neg Bool.false_ne_true] at h3
      rw [if_neg Bool.false_ne_true]
      exact okR.flat h3 k2 (s1.trans s2) (Nor.trans m1 m2) (fun z => (Bool.and_eq_true_iff.mp z).1) ⟨rfl, rfl⟩
    | true =>
      rw [if_pos rfl] at h3
      rw [if_pos rfl]
      refine ⟨F2, q.2, k2, okR.bind (s1.trans s2) h3 fun p3 w H3 F3 fr _ k3 s3 v3 m3 h4 => ?_⟩
      obtain ⟨z3, e3, h5⟩ := okR.ofO h4
      exact ⟨q.1, p3.1, z3, fq, fr, v2.held k2 s3 m3 hs2, v3.rep, k3.lok, e3, okR.flat h5 k3 ((s1.trans s2).trans s3) (Nor.trans (Nor.trans m1 m2) m3) (fun z => z) ⟨rfl, rfl⟩⟩
theorem ev_cmp2T {a b c : Expr} {o1 o2 : CmpOp} {pos : Pos} {eva evb evc : Env → Res (PV × Env)} (hK : R.G.K = X.K) (hu : X.A.units + 65 < cLine) (ha : PE X a (rdE R W kd1 eva)) (hb : PE X b (rdE R W kd2 evb)) (hc : PE X c (rdE R W kd3 evc))
    (hs : (kd1.stb || kd2.nor) = true) (hs2 : (kd2.stb || kd3.nor) = true) (hm : lastMarks [o1, o2] [b, c] = false) :
    PT X (.Compare a [o1, o2] [b, c] pos) (rdT R W (kd1.nor && kd2.nor && kd3.nor) fun env => (eva env).bind fun r => (evb r.2).bind fun q => (ofO (cmpop o1 r.1 q.1)).bind fun x =>
      if x = true then (evc q.2).bind fun p => (ofO (cmpop o2 q.1 p.1)).bind fun y => .ok (.bl y, p.2) else .ok (.bl false, q.2)) :=
  PT.by (pt_chain (op_cmpP o1 hK hu) (op_cmpP o2 hK hu) ha hb hc hm) fun σ H Q F env k h => by
    refine ⟨F, env, k, okT.bind Step.refl h fun p x H1 F1 fp _ k1 s1 v1 m1 h1 => ?_⟩
    refine ⟨F1, p.2, k1, okT.bind s1 h1 fun q y H2 F2 fq _ k2 s2 v2 m2 h2 => ?_⟩
    obtain ⟨z, e, h3⟩ := okT.ofO h2
    refine ⟨p.1, q.1, z, fp, fq, v1.held k1 s2 m2 hs, v2.rep, k2.lok, e, z, rfl, ?_⟩
    cases z with
    | false =>
      rw [if_neg Bool.false_ne_true] at h3
      rw [if_neg Bool.false_ne_true]
      exact ⟨false, rfl, okT.done h3 rfl k2 (s1.trans s2) (Nor.trans m1 m2) (fun z => (Bool.and_eq_true_iff.mp z).1)⟩
    | true =>
      rw [if_pos rfl] at h3
      rw [if_pos rfl]
      refine ⟨F2, q.2, k2, okT.bind (s1.trans s2) h3 fun p3 w H3 F3 fr _ k3 s3 v3 m3 h4 => ?_⟩
      obtain ⟨z3, e3, h5⟩ := okT.ofO h4
      exact ⟨q.1, p3.1, z3, fq, fr, v2.held k2 s3 m3 hs2, v3.rep, k3.lok, e3, z3, rfl, okT.done h5 rfl k3 ((s1.trans s2).trans s3) (Nor.trans (Nor.trans m1 m2) m3) fun z => z⟩

/-! ### and, or -/
/-- the rest of a run stands for the whole of it -/
theorem okR.sub {p : Res (PV × Env)} {Q : VK} (s0 : Step R.ms H F H1 F1) (m0 : Nor n1 H F env H1 F1 env1) (h : okR R W kd σ H F env Q p) (hn : kd.nor = true → n1 = true ∧ kd1.nor = true)
    (ho : kd.own = true → kd1.own = true ∧ n1 = true) (hs : kd.stb = true → kd1.stb = true) (ht : kd.top = true → kd1.top = true) : okR R W kd1 σ H1 F1 env1 Q p := by
  cases p with
  | ok q =>
    refine fun v H2 F2 fp k2 s2 v2 m2 => h v H2 F2 fp k2 (s0.trans s2) ⟨v2.rep, v2.old, fun z => v2.st (hs z), fun z => v2.nd (ho z).1, fun z => v2.mu (ho z).1, fun z => v2.fr (ho z).1, fun z a ha => ?_, fun z => v2.h0 (ho z).1, fun z l e => ?_⟩ fun z => ?_
    · obtain ⟨e1, e2, e3⟩ := m0 (ho z).2
      rcases v2.nw (ho z).1 a ha with w | w
      · rw [e1] at w; exact .inl w
      · exact .inr (s0.dom a w)
    · obtain ⟨a, vs, f, e1, e2, e3, e4, e5, e6⟩ := v2.tp (ht z) l e
      exact ⟨a, vs, f, e1, e2, e3, s0.dom a e4, e5, e6⟩
    · obtain ⟨z1, z2⟩ := hn z
      obtain ⟨e1, e2, e3⟩ := m0 z1
      obtain ⟨e4, e5, e6⟩ := m2 z2
      exact ⟨e4.trans e1, e5.trans e2, fun a o e => e6 a o (e3 a o e)⟩
  | raise c x e => exact fun d H2 F2 k2 s2 => h d H2 F2 k2 (s0.trans s2)
  | fail => exact h
theorem okT.sub {p : Res (PV × Env)} (s0 : Step R.ms H F H1 F1) (m0 : Nor n1 H F env H1 F1 env1) (h : okT R W nor σ H F env Q p) (hn : nor = true → n1 = true ∧ n2 = true) : okT R W n2 σ H1 F1 env1 Q p := by
  cases p with
  | ok q =>
    obtain ⟨b, e, h⟩ := h
    refine ⟨b, e, fun H2 F2 k2 s2 m2 => h H2 F2 k2 (s0.trans s2) fun z => ?_⟩
    obtain ⟨z1, z2⟩ := hn z
    obtain ⟨e1, e2, e3⟩ := m0 z1
    obtain ⟨e4, e5, e6⟩ := m2 z2
    exact ⟨e4.trans e1, e5.trans e2, fun a o e => e6 a o (e3 a o e)⟩
  | raise c x e => exact fun d H2 F2 k2 s2 => h d H2 F2 k2 (s0.trans s2)
  | fail => exact h
abbrev evAnd (eva evb : Env → Res (PV × Env)) : Env → Res (PV × Env) := fun env => (eva env).bind fun r => (ofO (truth r.1)).bind fun t => if t = true then evb r.2 else .ok r
abbrev evOr (eva evb : Env → Res (PV × Env)) : Env → Res (PV × Env) := fun env => (eva env).bind fun r => (ofO (truth r.1)).bind fun t => if t = true then .ok r else evb r.2
theorem ev_and {a b : Expr} {rest : List Expr} {pos : Pos} {eva evb : Env → Res (PV × Env)} (hK : R.G.K = X.K) (ha : PE X a (rdE R W kd1 eva)) (hb : PE X (.BoolOp .And (b :: rest) pos) (rdE R W kd2 evb)) :
    PE X (.BoolOp .And (a :: b :: rest) pos) (rdE R W ⟨false, kd1.stb && kd2.stb, false, kd1.nor && kd2.nor⟩ (evAnd eva evb)) :=
  PE.by (pe_andT ha hb) fun σ H Q F env k h => ⟨F, env, k, okR.bind Step.refl h fun q v H2 F2 fp _ k2 s2 v2 nr h2 => by
    obtain ⟨t, e, h3⟩ := okR.ofO h2
    refine ⟨t, hK ▸ tru_of v2.rep e, ?_⟩
    cases t with
    | true =>
      rw [if_pos rfl] at h3 ⊢
      exact ⟨F2, q.2, k2, okR.sub s2 nr h3 (fun z => Bool.and_eq_true_iff.mp z) nofun (fun z => (Bool.and_eq_true_iff.mp z).2) nofun⟩
    | false =>
      rw [if_neg Bool.false_ne_true] at h3 ⊢
      exact h3 v H2 F2 fp k2 s2 ⟨v2.rep, v2.old, fun z => v2.st (Bool.and_eq_true_iff.mp z).1, nofun, nofun, nofun, nofun, nofun, nofun⟩ fun z => nr (Bool.and_eq_true_iff.mp z).1⟩
theorem ev_or {a b : Expr} {rest : List Expr} {pos : Pos} {eva evb : Env → Res (PV × Env)} (hK : R.G.K = X.K) (ha : PE X a (rdE R W kd1 eva)) (hb : PE X (.BoolOp .Or (b :: rest) pos) (rdE R W kd2 evb)) :
    PE X (.BoolOp .Or (a :: b :: rest) pos) (rdE R W ⟨false, kd1.stb && kd2.stb, false, kd1.nor && kd2.nor⟩ (evOr eva evb)) :=
  PE.by (pe_orT ha hb) fun σ H Q F env k h => ⟨F, env, k, okR.bind Step.refl h fun q v H2 F2 fp _ k2 s2 v2 nr h2 => by
    obtain ⟨t, e, h3⟩ := okR.ofO h2
    refine ⟨t, hK ▸ tru_of v2.rep e, ?_⟩
    cases t with
    | false =>
      rw [if_neg Bool.false_ne_true] at h3 ⊢
      exact ⟨F2, q.2, k2, okR.sub s2 nr h3 (fun z => Bool.and_eq_true_iff.mp z) nofun (fun z => (Bool.and_eq_true_iff.mp z).2) nofun⟩
    | true =>
      rw [if_pos rfl] at h3 ⊢
      exact h3 v H2 F2 fp k2 s2 ⟨v2.rep, v2.old, fun z => v2.st (Bool.and_eq_true_iff.mp z).1, nofun, nofun, nofun, nofun, nofun, nofun⟩ fun z => nr (Bool.and_eq_true_iff.mp z).1⟩
theorem PW.imp {e : Expr} {t t' : TT} (h : PW X e t) (k : ∀ σ H Q, t' σ H Q → t σ H Q) : PW X e t' := ⟨fun w pins s σ H Q I q => h.run w pins s σ H Q I (k σ H Q q)⟩
theorem ev_andW {a b : Expr} {rest : List Expr} {pos : Pos} {eva evb : Env → Res (PV × Env)} (ha : PT X a (rdT R W n1 eva)) (hb : PW X (.BoolOp .And (b :: rest) pos) (rdT R W n2 evb)) :
    PW X (.BoolOp .And (a :: b :: rest) pos) (rdT R W (n1 && n2) (evAnd eva evb)) :=
  PW.imp (pw_and ha hb) fun σ H Q ⟨F, env, k, h⟩ => ⟨F, env, k, okT.bindT (k := fun t r => if t = true then evb r.2 else .ok r) Step.refl h fun t q H2 F2 _ e k2 s2 nr h3 => by
    cases t with
    | true =>
      rw [if_pos rfl] at h3 ⊢
      exact ⟨F2, q.2, k2, okT.sub s2 nr h3 fun z => Bool.and_eq_true_iff.mp z⟩
    | false =>
      rw [if_neg Bool.false_ne_true] at h3 ⊢
      exact okT.done h3 e k2 s2 nr fun z => (Bool.and_eq_true_iff.mp z).1⟩
theorem ev_orW {a b : Expr} {rest : List Expr} {pos : Pos} {eva evb : Env → Res (PV × Env)} (ha : PT X a (rdT R W n1 eva)) (hb : PW X (.BoolOp .Or (b :: rest) pos) (rdT R W n2 evb)) :
    PW X (.BoolOp .Or (a :: b :: rest) pos) (rdT R W (n1 && n2) (evOr eva evb)) :=
  PW.imp (pw_or ha hb) fun σ H Q ⟨F, env, k, h⟩ => ⟨F, env, k, okT.bindT (k := fun t r => if t = true then .ok r else evb r.2) Step.refl h fun t q H2 F2 _ e k2 s2 nr h3 => by
    cases t with
    | false =>
      rw [if_neg Bool.false_ne_true] at h3 ⊢
      exact ⟨F2, q.2, k2, okT.sub s2 nr h3 fun z => Bool.and_eq_true_iff.mp z⟩
    | true =>
      rw [if_pos rfl] at h3 ⊢
      exact okT.done h3 e k2 s2 nr fun z => (Bool.and_eq_true_iff.mp z).1⟩
/-! ### a if c else b -/
theorem ev_ife {c a b : Expr} {pos : Pos} {evc eva evb : Env → Res (PV × Env)} (hc : PT X c (rdT R W n3 evc)) (ha : PE X a (rdE R W kd1 eva)) (hb : PE X b (rdE R W kd2 evb)) :
    PE X (.IfExp c a b pos) (rdE R W ⟨kd1.own && kd2.own && n3, kd1.stb && kd2.stb, kd1.top && kd2.top, n3 && kd1.nor && kd2.nor⟩ fun env => (evc env).bind fun r => (ofO (truth r.1)).bind fun t => if t = true then eva r.2 else evb r.2) :=
  PE.by (pe_ifExp hc ha hb) fun σ H Q F env k h => ⟨F, env, k, okR.bindT (k := fun t r => if t = true then eva r.2 else evb r.2) Step.refl h fun t q H2 F2 _ k2 s2 nr h3 => by
    cases t with
    | true =>
      rw [if_pos rfl] at h3 ⊢
      refine ⟨F2, q.2, k2, okR.sub s2 nr h3 (fun z => ?_) (fun z => ?_) (fun z => (Bool.and_eq_true_iff.mp z).1) fun z => (Bool.and_eq_true_iff.mp z).1⟩
      · obtain ⟨z, _⟩ := Bool.and_eq_true_iff.mp z
        exact Bool.and_eq_true_iff.mp z
      · obtain ⟨z, z3⟩ := Bool.and_eq_true_iff.mp z
        exact ⟨(Bool.and_eq_true_iff.mp z).1, z3⟩
    | false =>
      rw [if_neg Bool.false_ne_true] at h3 ⊢
      refine ⟨F2, q.2, k2, okR.sub s2 nr h3 (fun z => ?_) (fun z => ?_) (fun z => (Bool.and_eq_true_iff.mp z).2) fun z => (Bool.and_eq_true_iff.mp z).2⟩
      · obtain ⟨z, z2⟩ := Bool.and_eq_true_iff.mp z
        exact ⟨(Bool.and_eq_true_iff.mp z).1, z2⟩
      · obtain ⟨z, z3⟩ := Bool.and_eq_true_iff.mp z
        exact ⟨(Bool.and_eq_true_iff.mp z).2, z3⟩⟩
/-! ### -a -/
theorem ev_neg {a : Expr} {pos : Pos} {eva : Env → Res (PV × Env)} (ha : PE X a (rdE R W kd1 eva)) : PE X (.UnaryOp .USub a pos) (rdE R W ⟨true, true, true, kd1.nor⟩ fun env => (eva env).bind fun r => match r.1 with
    | .int i => .ok (.int (-i), r.2)
    | _ => .fail) :=
  PE.by (pe_un un_neg ha) fun σ H Q F env k h => ⟨F, env, k, okR.bind Step.refl h fun q v H2 F2 fp _ k2 s2 v2 nr h2 => by
    obtain ⟨p, env2⟩ := q
    cases p with
    | int i => exact ⟨i, v2.rep.1, okR.flat h2 k2 s2 nr (fun z => z) ⟨rfl, rfl⟩⟩
    | _ => exact h2.elim⟩
end
end Ev

/-! EvE6: rows of arguments, displays, built-ins, items, slices. -/
namespace Ev
open PySem PySem.Spec PyProof.Rows L2
/-- no star stands in the row -/
def noStar : Expr → Bool
  | .Starred _ _ => false
  | _ => true
theorem star_cons {e : Expr} {es : List Expr} (h : noStar e = true) (env : PySem.Env) : starEach (e :: es) env = (false, eval e env) :: starEach es env := by
  cases e <;> first | rfl | cases h
theorem star_none : ∀ {es : List Expr}, es.all noStar = true → ∀ (env : PySem.Env) (pos : Pos), (backTo pos (starEach es env)).any (·.1) = false
  | [], _, _, _ => rfl
  | e :: es, h, env, pos => by
    have h' : noStar e = true ∧ es.all noStar = true := by simpa using h
    rw [star_cons h'.1]
    show (false || (backTo pos (starEach es env)).any (·.1)) = false
    rw [star_none h'.2]
    rfl
section
variable {X : Cx} {R : Fr0} {W : WXX} {σ : St} {H H1 : Hp} {F F1 : Nat → List Addr} {env env1 : Env} {Q1 : VK} {Q : List V → Hp → Prop} {kd kd1 kd2 kd3 : Kd} {own stb nor o1 s1 n1 : Bool}
theorem okA.bind {r : Res (PV × Env)} {k : PV × Env → Res (List PV × Env)} (s0 : Step R.ms H F H1 F1) (h : okA R W own stb nor σ H F env Q (r.bind k))
    (step : ∀ q v H2 F2 fp, r = .ok q → EnvOk R σ H2 F2 q.2 → Step R.ms H1 F1 H2 F2 → ValOk R kd1 H1 F1 H2 F2 q.1 v fp → Nor kd1.nor H1 F1 env1 H2 F2 q.2 → okA R W own stb nor σ H F env Q (k q) → Q1 v H2) :
    okR R W kd1 σ H1 F1 env1 Q1 r := by
  cases r with
  | ok q => exact fun v H2 F2 fp k1 k2 k3 k4 => step q v H2 F2 fp rfl k1 k2 k3 k4 h
  | raise c x e => exact fun d H2 F2 k1 k2 k3 => h d H2 F2 k1 (s0.trans k2) k3
  | fail => exact h
theorem okA.bindA {QA : List V → Hp → Prop} {r : Res (List PV × Env)} {k : List PV × Env → Res (List PV × Env)} (s0 : Step R.ms H F H1 F1) (h : okA R W own stb nor σ H F env Q (r.bind k))
    (step : ∀ q vs H2 F2 fp, r = .ok q → EnvOk R σ H2 F2 q.2 → Step R.ms H1 F1 H2 F2 → RowOk R o1 s1 H1 F1 H2 F2 q.1 vs fp → Nor n1 H1 F1 env1 H2 F2 q.2 → okA R W own stb nor σ H F env Q (k q) → QA vs H2) :
    okA R W o1 s1 n1 σ H1 F1 env1 QA r := by
  cases r with
  | ok q => exact fun v H2 F2 fp k1 k2 k3 k4 => step q v H2 F2 fp rfl k1 k2 k3 k4 h
  | raise c x e => exact fun d H2 F2 k1 k2 k3 => h d H2 F2 k1 (s0.trans k2) k3
  | fail => exact h
theorem ev_anil : PA X [] (rdA R W true true true fun env => .ok ([], env)) :=
  PA.by pa_nil fun σ H Q F env k h => h [] H F [] k Step.refl RowOk.nil Nor.refl
theorem ev_acons {e : Expr} {es : List Expr} {ev : Env → Res (PV × Env)} {evs : Env → Res (List PV × Env)} (hn : noStar e = true) (he : PE X e (rdE R W kd1 ev)) (hs : PA X es (rdA R W o1 s1 n1 evs)) (hc : (kd1.stb || n1) = true) :
    PA X (e :: es) (rdA R W (kd1.own && o1) (kd1.stb && s1) (kd1.nor && n1) fun env => (ev env).bind fun r => (evs r.2).bind fun q => .ok (r.1 :: q.1, q.2)) :=
  PA.by (pa_cons he hs (star_cons hn _)) fun σ H Q F env k h => by
    refine ⟨F, env, k, okA.bind Step.refl h fun p x H1 F1 fp _ k1 st1 v1 m1 h1 => ?_⟩
    refine ⟨F1, p.2, k1, okA.bindA st1 h1 fun q ys H2 F2 fq _ k2 st2 v2 m2 h2 => ?_⟩
    have old1 : ∀ a ∈ fp, ∃ o, H1 a = some o := fun a ha => Option.ne_none_iff_exists'.mp (RepF.there _ _ _ v1.rep a ha)
    have keepOut : ∀ a, (∃ o, H1 a = some o) → (∀ j, a ∉ F1 j) → ∀ j, a ∉ F2 j := fun a ⟨o, e⟩ n j hj => by
      rcases st2.sub j a hj with z | ⟨k, _, z⟩ | z
      · exact n j z
      · exact n k z
      · rw [e] at z; cases z
    refine h2 (x :: ys) H2 F2 (fp ++ fq) k2 (st1.trans st2) ⟨RepL.cons (v1.held k1 st2 m2 hc) v2.rep, fun a ha => (List.mem_append.mp ha).elim (v1.old a) (v2.old a), fun c a ha => ?_, fun c => ?_, fun c a ha => ?_, fun c a ha => ?_, fun c a ha => ?_, fun c a ha => ?_⟩ (Nor.trans m1 m2)
    · obtain ⟨c1, c2⟩ := Bool.and_eq_true_iff.mp c
      rcases List.mem_append.mp ha with z | z
      · exact OW.none_of st2 (v1.st c1 a z) (old1 a z)
      · exact v2.st c2 a z
    · obtain ⟨c1, c2⟩ := Bool.and_eq_true_iff.mp c
      refine List.nodup_append.mpr ⟨v1.nd c1, v2.nd c2, fun a ha b hb e => ?_⟩
      subst e
      obtain ⟨o, e⟩ := old1 a ha
      rcases v2.nw c2 a hb with ⟨k, _, z⟩ | z
      · exact v1.fr c1 a ha k z
      · rw [e] at z; cases z
    · obtain ⟨c1, c2⟩ := Bool.and_eq_true_iff.mp c
      rcases List.mem_append.mp ha with z | z
      · obtain ⟨vs, e⟩ := v1.mu c1 a z
        exact ⟨vs, st2.st a _ e fun ⟨j, _, hj⟩ => v1.fr c1 a z j hj⟩
      · exact v2.mu c2 a z
    · obtain ⟨c1, c2⟩ := Bool.and_eq_true_iff.mp c
      rcases List.mem_append.mp ha with z | z
      · exact keepOut a (old1 a z) (v1.fr c1 a z)
      · exact v2.fr c2 a z
    · obtain ⟨c1, c2⟩ := Bool.and_eq_true_iff.mp c
      rcases List.mem_append.mp ha with z | z
      · exact v1.nw c1 a z
      · rcases v2.nw c2 a z with w | w
        · exact st1.ow a w
        · exact .inr (st1.dom a w)
    · obtain ⟨c1, c2⟩ := Bool.and_eq_true_iff.mp c
      rcases List.mem_append.mp ha with z | z
      · exact v1.h0 c1 a z
      · exact v2.h0 c2 a z

/-! ### displays -/
/-- the lists of a new object are new -/
theorem nf_of (k : EnvOk R σ H1 F1 env1) {a : Addr} (e : H1 a = none) : ∀ j, a ∉ F1 j := fun j hj => by
  cases ep : env1.getD j .undef with
  | undef => rw [k.non j ep] at hj; simp at hj
  | _ =>
    obtain ⟨v, _, r⟩ := k.slot j _ (getD_of ep nofun) nofun
    exact RepF.there _ _ _ r a hj e
theorem ev_tup {es : List Expr} {x1 : Nat} {pos : Pos} {evs : Env → Res (List PV × Env)} (ha : PA X es (rdA R W o1 s1 n1 evs)) (hl : ∀ env r, evs env = .ok r → r.1.length ≤ sizeLine) :
    PE X (.Tuple es x1 pos) (rdE R W ⟨o1, s1, true, n1⟩ fun env => (evs env).bind fun r => .ok (.tup r.1, r.2)) :=
  PE.by (pe_tup ha) fun σ H Q F env k h => ⟨F, env, k, okR.bindA Step.refl h fun q vs H2 F2 fp e k2 s2 v2 nr h2 => by
    have hz : vs.length ≤ sizeLine := by rw [v2.rep.length]; exact hl _ _ e
    refine ⟨hz, fun p hp => ?_⟩
    have sm := same_upd (H := H2) (o := .tup vs) hp
    refine h2 _ _ F2 fp (k2.same sm (lok_tup k2.lok hz)) (s2.trans (Step.same sm)) ⟨⟨p, vs, rfl, .of upd_same, v2.rep.same sm⟩, v2.old, v2.st, v2.nd, fun c a ha => ?_, v2.fr, v2.nw, v2.h0, fun _ _ e => nomatch e⟩ fun c => ?_
    · obtain ⟨us, e⟩ := v2.mu c a ha
      exact ⟨us, sm _ _ e⟩
    · obtain ⟨e1, e2, e3⟩ := nr c
      exact ⟨e1, e2, fun a o e => sm _ _ (e3 a o e)⟩⟩
theorem ev_lst {es : List Expr} {pos : Pos} {evs : Env → Res (List PV × Env)} (ha : PA X es (rdA R W o1 s1 n1 evs)) (hl : ∀ env r, evs env = .ok r → r.1.length ≤ sizeLine) :
    PE X (.List es pos) (rdE R W ⟨o1, s1, true, n1⟩ fun env => (evs env).bind fun r => .ok (.lst r.1, r.2)) :=
  PE.by (pe_lst ha) fun σ H Q F env k h => ⟨F, env, k, okR.bindA Step.refl h fun q vs H2 F2 fp e k2 s2 v2 nr h2 => by
    have hz : vs.length ≤ sizeLine := by rw [v2.rep.length]; exact hl _ _ e
    refine ⟨hz, fun p hp => ?_⟩
    have sm := same_upd (H := H2) (o := .lst vs) hp
    have nf := nf_of k2 hp
    have h0 := (k2.dom p hp).1
    have hA := (k2.dom p hp).2
    have out : p ∉ fp := fun z => RepL.there _ _ _ v2.rep p z hp
    refine h2 _ _ F2 (p :: fp) (k2.same sm (lok_lst k2.lok hz)) (s2.trans (Step.same sm)) ⟨RepF.new upd_same (v2.rep.same sm), fun a ha => ?_, fun c a ha => ?_, fun c => ?_, fun c a ha => ?_, fun c a ha => ?_, fun c a ha => ?_, fun c a ha => ?_, fun _ l e => ?_⟩ fun c => ?_
    · rcases List.mem_cons.mp ha with rfl | z
      · exact hA
      · exact v2.old a z
    · rcases List.mem_cons.mp ha with rfl | z
      · exact fun ⟨j, _, hj⟩ => nf j hj
      · exact v2.st c a z
    · exact List.nodup_cons.mpr ⟨out, v2.nd c⟩
    · rcases List.mem_cons.mp ha with rfl | z
      · exact ⟨vs, upd_same⟩
      · obtain ⟨us, e⟩ := v2.mu c a z
        exact ⟨us, sm _ _ e⟩
    · rcases List.mem_cons.mp ha with rfl | z
      · exact nf
      · exact v2.fr c a z
    · rcases List.mem_cons.mp ha with rfl | z
      · exact .inr (s2.dom _ hp)
      · exact v2.nw c a z
    · rcases List.mem_cons.mp ha with rfl | z
      · exact h0
      · exact v2.h0 c a z
    · cases e
      exact ⟨p, vs, fp, rfl, upd_same, v2.rep.same sm, s2.dom _ hp, nf, h0⟩
    · obtain ⟨e1, e2, e3⟩ := nr c
      exact ⟨e1, e2, fun a o e => sm _ _ (e3 a o e)⟩⟩

/-! ### built-ins -/
def rBlt (G : Gl0) (b : Blt) (t : Bool) : List V → Hp → VK → Prop := fun vs H Q => ∃ ps fp r, RepL G H ps vs fp ∧ LenOk G.K H ∧ evalB b ps = some r ∧ ∀ z H' fz, NewV G H fp r t z H' fz → Q z H'
abbrev evBlt (b : Blt) (evs : Env → Res (List PV × Env)) : Env → Res (PV × Env) := fun env => (evs env).bind fun r => (ofO (evalB b r.1)).bind fun x => .ok (x, r.2)
theorem blt_k {b : Blt} {t : Bool} {evs : Env → Res (List PV × Env)} {σ : St} {H : Hp} {F : Nat → List Addr} {env : Env} {Q : VK} (k : EnvOk R σ H F env) (h : okR R W ⟨false, s1, t, n1⟩ σ H F env Q (evBlt b evs env)) :
    rdA R W o1 s1 n1 evs σ H fun vs H1 => rBlt R.G b t vs H1 Q := ⟨F, env, k, okR.bindA Step.refl h fun q vs H2 F2 fp e k2 s2 v2 nr h2 => by
    obtain ⟨z, e, h3⟩ := okR.ofO h2
    exact ⟨q.1, fp, z, v2.rep, k2.lok, e, fun zv H' fz nv => okR.pure h3 k2 s2 nr nv v2.old v2.st rfl fun z => z⟩⟩
theorem ev_bltB {b : Blt} {t : Bool} {id : String} {x : Str} {p pos : Pos} {e : Expr} {es : List Expr} {evs : Env → Res (List PV × Env)} (hc : CallR X (.builtin id) (rBlt R.G b t)) (hg : Gl X x) (hm : X.mg x = none) (hv : bootBuiltins x = some (.builtin id)) (hs : (e :: es).all noStar = true)
    (ha : PA X (e :: es) (rdA R W o1 s1 n1 evs)) (hn : x ≠ "__name__") (hdb : (x == ("__debug__" : Str)) = false) : PE X (.Call (.Name x p) (e :: es) [] pos) (rdE R W ⟨false, s1, t, n1⟩ (evBlt b evs)) := by
  have hs' : noStar e = true ∧ es.all noStar = true := by simpa using hs
  exact PE.by (pe_callB hc hg hm hv ha hn hdb (star_cons hs'.1 _) (star_none hs'.2 _ _)) fun σ H Q F env k h => blt_k k h
theorem ev_bltT {b : Blt} {t : Bool} {id : String} {x : Str} {p pos : Pos} {e : Expr} {es : List Expr} {evs : Env → Res (List PV × Env)} (hc : CallR X (.type id) (rBlt R.G b t)) (hg : Gl X x) (hm : X.mg x = none) (hv : bootBuiltins x = some (.type id)) (hs : (e :: es).all noStar = true)
    (ha : PA X (e :: es) (rdA R W o1 s1 n1 evs)) (hn : x ≠ "__name__") (hdb : (x == ("__debug__" : Str)) = false) : PE X (.Call (.Name x p) (e :: es) [] pos) (rdE R W ⟨false, s1, t, n1⟩ (evBlt b evs)) := by
  have hs' : noStar e = true ∧ es.all noStar = true := by simpa using hs
  exact PE.by (pe_callTy hc hg hm hv ha hn hdb (star_cons hs'.1 _) (star_none hs'.2 _ _)) fun σ H Q F env k h => blt_k k h
end
/-! ### rows of one, of two -/
section
variable {G : Gl0} {H : Hp}
theorem RepL.one_inv {p : PV} {vs : List V} {fp : List Addr} (h : RepL G H [p] vs fp) : ∃ v, vs = [v] ∧ RepF G H p v fp := by
  obtain ⟨v, vs', f, f', rfl, rfl, h1, rfl, rfl⟩ := h
  exact ⟨v, rfl, by rw [List.append_nil]; exact h1⟩
theorem RepL.two_inv {p q : PV} {vs : List V} {fp : List Addr} (h : RepL G H [p, q] vs fp) : ∃ v w f g, vs = [v, w] ∧ fp = f ++ g ∧ RepF G H p v f ∧ RepF G H q w g := by
  obtain ⟨v, vs', f, f', rfl, rfl, h1, h2⟩ := h
  obtain ⟨w, rfl, h3⟩ := RepL.one_inv h2
  exact ⟨v, w, f, f', rfl, rfl, h1, h3⟩
theorem RepL.ints {l : List PV} : ∀ {ns : List Int} {vs : List V} {fp : List Addr}, asIntsP l = some ns → RepL G H l vs fp → vs = ns.map V.int := by
  induction l with
  | nil =>
    intro ns vs fp e h
    cases e
    exact h.1
  | cons p l ih =>
    intro ns vs fp e h
    obtain ⟨v, vs', f, f', rfl, rfl, h1, h2⟩ := h
    cases p <;> simp only [asIntsP, reduceCtorEq] at e
    cases e2 : asIntsP l with
    | none => rw [e2] at e; cases e
    | some ms =>
      rw [e2] at e
      cases e
      rw [ih e2 h2, h1.1]
      rfl
theorem RepL.bls {l : List PV} : ∀ {ns : List Bool} {vs : List V} {fp : List Addr}, asBlsP l = some ns → RepL G H l vs fp → vs = ns.map V.bl := by
  induction l with
  | nil =>
    intro ns vs fp e h
    cases e
    exact h.1
  | cons p l ih =>
    intro ns vs fp e h
    obtain ⟨v, vs', f, f', rfl, rfl, h1, h2⟩ := h
    cases p <;> simp only [asBlsP, reduceCtorEq] at e
    cases e2 : asBlsP l with
    | none => rw [e2] at e; cases e
    | some ms =>
      rw [e2] at e
      cases e
      rw [ih e2 h2, h1.1]
      rfl
end
section
variable {X : Cx} {G : Gl0}
theorem blt_len (hK : G.K = X.K) : CallR X (.builtin "len") (rBlt G .len true) := by
  intro pins s σ H xs us Q I rv ⟨ps, fp, r, hr, lok, e, k⟩
  match ps, e, hr with
  | [.tup l], e, hr =>
    cases e
    obtain ⟨v, rfl, a, vs, rfl, ha, hl⟩ := hr.one_inv
    refine call_len_seq pins s σ H _ us Q I rv ⟨a, vs, rfl, .inr (hK ▸ ha), ?_⟩
    rw [hl.length]
    exact k _ _ [] (NewV.flat lok ⟨rfl, rfl⟩)
  | [.lst l], e, hr =>
    cases e
    obtain ⟨v, rfl, a, vs, f, rfl, ha, hl, _⟩ := hr.one_inv
    refine call_len_seq pins s σ H _ us Q I rv ⟨a, vs, rfl, .inl (.of ha), ?_⟩
    rw [hl.length]
    exact k _ _ [] (NewV.flat lok ⟨rfl, rfl⟩)
  | [.str z], e, hr =>
    simp only [evalB] at e
    split at e
    · cases e
      obtain ⟨v, rfl, rfl, _⟩ := hr.one_inv
      exact call_len_str pins s σ H _ us Q I rv ⟨z, rfl, ‹_›, k _ _ [] (NewV.flat lok ⟨rfl, rfl⟩)⟩
    · cases e
theorem blt_tuple (hK : G.K = X.K) : CallR X (.type "tuple") (rBlt G .tuple true) := by
  intro pins s σ H xs us Q I rv ⟨ps, fp, r, hr, lok, e, k⟩
  match ps, e, hr with
  | [.tup l], e, hr =>
    cases e
    obtain ⟨v, rfl, a, vs, rfl, ha, hl⟩ := hr.one_inv
    exact call_tuple_of pins s σ H _ us Q I rv ⟨a, vs, rfl, .inr ⟨hK ▸ ha, k _ _ fp (NewV.partT lok ⟨a, vs, rfl, ha, hl⟩ fun _ z => z)⟩⟩
  | [.lst l], e, hr =>
    cases e
    obtain ⟨v, rfl, a, vs, f, rfl, ha, hl, rfl⟩ := hr.one_inv
    exact call_tuple_of pins s σ H _ us Q I rv ⟨a, vs, rfl, .inl ⟨.of ha, fun z hz => k _ _ f (NewV.tup lok hz hl (lok.1 a vs (.of ha)) fun b hb => List.mem_cons_of_mem _ hb)⟩⟩
theorem blt_list (hK : G.K = X.K) : CallR X (.type "list") (rBlt G .list true) := by
  intro pins s σ H xs us Q I rv ⟨ps, fp, r, hr, lok, e, k⟩
  match ps, e, hr with
  | [.tup l], e, hr =>
    cases e
    obtain ⟨v, rfl, a, vs, rfl, ha, hl⟩ := hr.one_inv
    exact call_list_of pins s σ H _ us Q I rv ⟨a, vs, rfl, .inr (hK ▸ ha), fun z hz => k _ _ _ (NewV.lst lok hz hl (lok.2 a vs ha) fun b hb => hb)⟩
  | [.lst l], e, hr =>
    cases e
    obtain ⟨v, rfl, a, vs, f, rfl, ha, hl, rfl⟩ := hr.one_inv
    exact call_list_of pins s σ H _ us Q I rv ⟨a, vs, rfl, .inl (.of ha), fun z hz => k _ _ _ (NewV.lst lok hz hl (lok.1 a vs (.of ha)) fun b hb => List.mem_cons_of_mem _ hb)⟩
  | [.scr l], e, hr =>
    cases e
    obtain ⟨v, rfl, a, vs, rfl, ha, hl, rfl⟩ := hr.one_inv
    have ha' : SqL G.K H a vs := ha.elim (fun ⟨o, z⟩ => .inl (.inr ⟨o, z⟩)) .inr
    exact call_list_of pins s σ H _ us Q I rv ⟨a, vs, rfl, .inl (hK ▸ ha'), fun z hz => k _ _ _ (NewV.lst lok hz hl (lok.1 a vs ha') fun b hb => hb)⟩
theorem blt_sum (hK : G.K = X.K) (hc : X.calm = true) : CallR X (.builtin "sum") (rBlt G .sum true) := by
  intro pins s σ H xs us Q I rv ⟨ps, fp, r, hr, lok, e, k⟩
  match ps, e, hr with
  | [.lst l], e, hr =>
    simp only [evalB] at e
    cases e2 : asIntsP l with
    | none => rw [e2] at e; cases e
    | some ns =>
      rw [e2] at e
      cases e
      obtain ⟨v, rfl, a, vs, f, rfl, ha, hl, rfl⟩ := hr.one_inv
      exact cr_sum hc pins s σ H _ us Q I rv ⟨a, ns, rfl, .of (hl.ints e2 ▸ ha), k _ _ [] (NewV.flat lok ⟨rfl, rfl⟩)⟩
  | [.tup l], e, hr =>
    simp only [evalB] at e
    cases e2 : asIntsP l with
    | none => rw [e2] at e; cases e
    | some ns =>
      rw [e2] at e
      cases e
      obtain ⟨v, rfl, a, vs, rfl, ha, hl⟩ := hr.one_inv
      obtain ⟨its, rv', ht, _⟩ := I.tuple (hK ▸ ha)
      rw [Vals.ref1 rv]
      have hi : IntsAre its ns := Vals.ints (hl.ints e2 ▸ rv')
      obtain ⟨xs, e⟩ := hi.allInts.items
      have hn : numsOf (intItems xs).toList = ns := by rw [← e]; exact hi.numsOf
      rw [nums_intItems] at hn
      rw [e] at ht
      refine PySem.W.ktm_sumG (I.ok.hd hc) ht fun h' tk t' hk => ?_
      rw [preSum_eq, List.take_of_length_le (by simp), hn]
      exact ⟨.int _, H, I.kept hk, ⟨_, rfl⟩, k _ _ [] (NewV.flat lok ⟨rfl, rfl⟩)⟩
theorem blt_all (hK : G.K = X.K) (hc : X.calm = true) : CallR X (.builtin "all") (rBlt G .all true) := by
  intro pins s σ H xs us Q I rv ⟨ps, fp, r, hr, lok, e, k⟩
  match ps, e, hr with
  | [.lst l], e, hr =>
    simp only [evalB] at e
    cases e2 : asBlsP l with
    | none => rw [e2] at e; cases e
    | some ns =>
      rw [e2] at e
      cases e
      obtain ⟨v, rfl, a, vs, f, rfl, ha, hl, rfl⟩ := hr.one_inv
      exact cr_all hc pins s σ H _ us Q I rv ⟨a, ns, rfl, .of (hl.bls e2 ▸ ha), k _ _ [] (NewV.flat lok ⟨rfl, rfl⟩)⟩
theorem blt_any (hK : G.K = X.K) (hc : X.calm = true) : CallR X (.builtin "any") (rBlt G .any true) := by
  intro pins s σ H xs us Q I rv ⟨ps, fp, r, hr, lok, e, k⟩
  match ps, e, hr with
  | [.lst l], e, hr =>
    simp only [evalB] at e
    cases e2 : asBlsP l with
    | none => rw [e2] at e; cases e
    | some ns =>
      rw [e2] at e
      cases e
      obtain ⟨v, rfl, a, vs, f, rfl, ha, hl, rfl⟩ := hr.one_inv
      exact cr_any hc pins s σ H _ us Q I rv ⟨a, ns, rfl, .of (hl.bls e2 ▸ ha), k _ _ [] (NewV.flat lok ⟨rfl, rfl⟩)⟩
theorem blt_abs : CallR X (.builtin "abs") (rBlt G .abs true) := by
  intro pins s σ H xs us Q I rv ⟨ps, fp, r, hr, lok, e, k⟩
  match ps, e, hr with
  | [.int i], e, hr =>
    cases e
    obtain ⟨v, rfl, rfl, _⟩ := hr.one_inv
    exact call_abs pins s σ H _ us Q I rv ⟨i, rfl, k _ _ [] (NewV.flat lok ⟨rfl, rfl⟩)⟩
theorem blt_int : CallR X (.type "int") (rBlt G .int true) := by
  intro pins s σ H xs us Q I rv ⟨ps, fp, r, hr, lok, e, k⟩
  match ps, e, hr with
  | [.int i], e, hr =>
    cases e
    obtain ⟨v, rfl, rfl, _⟩ := hr.one_inv
    exact call_int1 pins s σ H _ us Q I rv (.inl ⟨i, rfl, k _ _ [] (NewV.flat lok ⟨rfl, rfl⟩)⟩)
  | [.bl i], e, hr =>
    cases e
    obtain ⟨v, rfl, rfl, _⟩ := hr.one_inv
    refine call_int1 pins s σ H _ us Q I rv (.inr ⟨i, rfl, k _ _ [] (NewV.flat lok ⟨?_, rfl⟩)⟩)
    cases i <;> rfl
theorem blt_bool : CallR X (.type "bool") (rBlt G .bool true) := by
  intro pins s σ H xs us Q I rv ⟨ps, fp, r, hr, lok, e, k⟩
  match ps, e, hr with
  | [.int i], e, hr =>
    cases e
    obtain ⟨v, rfl, rfl, _⟩ := hr.one_inv
    exact call_bool1 pins s σ H _ us Q I rv (.inl ⟨i, rfl, k _ _ [] (NewV.flat lok ⟨rfl, rfl⟩)⟩)
  | [.bl i], e, hr =>
    cases e
    obtain ⟨v, rfl, rfl, _⟩ := hr.one_inv
    exact call_bool1 pins s σ H _ us Q I rv (.inr ⟨i, rfl, k _ _ [] (NewV.flat lok ⟨rfl, rfl⟩)⟩)
end
end Ev

/-! EvE7: min, max, sorted, repr; methods; items, slices; isinstance. -/
namespace Ev
open PySem PySem.Spec PyProof.Rows L2
mutual
theorem PV.pd_inj : ∀ (p q : PV), p.data = true → q.data = true → p.pd = q.pd → p = q
  | .non, q, _, h, e => by cases q <;> first | rfl | (simp [PV.data] at h; done) | (exact absurd e nofun)
  | .bl b, q, _, h, e => by cases q <;> first | (have e' := PyData.bool.inj e; rw [e']) | (exact absurd e nofun) | (simp [PV.data] at h)
  | .int b, q, _, h, e => by cases q <;> first | (have e' := PyData.int.inj e; rw [e']) | (exact absurd e nofun) | (simp [PV.data] at h)
  | .str b, q, _, h, e => by cases q <;> first | (have e' := PyData.str.inj e; rw [e']) | (exact absurd e nofun) | (simp [PV.data] at h)
  | .tup l, q, g, h, e => by
    cases q with
    | tup m =>
      have e' : PV.pds l = PV.pds m := PyData.tuple.inj e
      rw [PV.pds_inj l m (by simpa [PV.data] using g) (by simpa [PV.data] using h) e']
    | _ => first | (exact absurd e nofun) | (simp [PV.data] at h)
  | .lst l, q, g, h, e => by
    cases q with
    | lst m =>
      have e' : PV.pds l = PV.pds m := PyData.list.inj e
      rw [PV.pds_inj l m (by simpa [PV.data] using g) (by simpa [PV.data] using h) e']
    | _ => first | (exact absurd e nofun) | (simp [PV.data] at h)
  | .undef, _, g, _, _ => by simp [PV.data] at g
  | .fn _, _, g, _, _ => by simp [PV.data] at g
  | .exc _ _, _, g, _, _ => by simp [PV.data] at g
  | .scr _, _, g, _, _ => by simp [PV.data] at g
theorem PV.pds_inj : ∀ (p q : List PV), PV.datas p = true → PV.datas q = true → PV.pds p = PV.pds q → p = q
  | [], [], _, _, _ => rfl
  | [], _ :: _, _, _, e => by cases e
  | _ :: _, [], _, _, e => by cases e
  | x :: l, y :: m, g, h, e => by
    have g' : x.data = true ∧ PV.datas l = true := by simpa [PV.datas] using g
    have h' : y.data = true ∧ PV.datas m = true := by simpa [PV.datas] using h
    obtain ⟨e1, e2⟩ := List.cons.inj (show PV.pd x :: PV.pds l = PV.pd y :: PV.pds m from e)
    rw [PV.pd_inj x y g'.1 h'.1 e1, PV.pds_inj l m g'.2 h'.2 e2]
end
theorem pds_map : ∀ l : List PV, PV.pds l = l.map PV.pd
  | [] => rfl
  | x :: l => by rw [PV.pds, pds_map l]; rfl
theorem datas_all : ∀ {l : List PV}, PV.datas l = true → ∀ x ∈ l, x.data = true
  | [], _, _, h => by simp at h
  | y :: l, g, x, h => by
    have g' : y.data = true ∧ PV.datas l = true := by simpa [PV.datas] using g
    rcases List.mem_cons.mp h with rfl | h
    · exact g'.1
    · exact datas_all g'.2 x h
theorem all_datas : ∀ {l : List PV}, (∀ x ∈ l, x.data = true) → PV.datas l = true
  | [], _ => rfl
  | y :: l, g => by
    rw [PV.datas, g y (by simp), all_datas fun x h => g x (by simp [h])]
    rfl
theorem ordOk_all {l : List PV} (h : ordOk l = true) : ∀ x ∈ l, ∀ y ∈ l, ltOk x y = true := by
  unfold ordOk at h
  exact fun x hx y hy => List.all_eq_true.mp (List.all_eq_true.mp h x hx) y hy
theorem best_pd (f : PyData → PyData → Bool) : ∀ (l : List PV) (x : PV), (best (fun a b => f a.pd b.pd) x l).pd = (l.map PV.pd).foldl (fun a y => if f y a = true then y else a) x.pd
  | [], x => rfl
  | y :: l, x => by
    show (if f y.pd x.pd = true then best _ y l else best _ x l).pd = _
    rw [List.map_cons, List.foldl_cons]
    by_cases c : f y.pd x.pd = true
    · rw [if_pos c, if_pos c]; exact best_pd f l y
    · rw [if_neg c, if_neg c]; exact best_pd f l x
theorem best_mem (f : PV → PV → Bool) : ∀ (l : List PV) (x : PV), best f x l ∈ x :: l
  | [], x => by simp [best]
  | y :: l, x => by
    show (if f y x = true then best f y l else best f x l) ∈ _
    by_cases c : f y x = true
    · rw [if_pos c]; exact List.mem_cons_of_mem _ (best_mem f l y)
    · rw [if_neg c]
      rcases List.mem_cons.mp (best_mem f l x) with e | e
      · rw [e]; simp
      · exact List.mem_cons_of_mem _ (List.mem_cons_of_mem _ e)
theorem depthAll_le : ∀ {l : List PyData} {n : Nat}, (∀ x ∈ l, x.depth ≤ n) → PyData.depthAll l ≤ n
  | [], n, _ => by simp [PyData.depthAll]
  | x :: l, n, h => by
    rw [PyData.depthAll]
    exact Nat.max_le.mpr ⟨h x (by simp), depthAll_le fun y hy => h y (by simp [hy])⟩
section
variable {X : Cx} {G : Gl0}
theorem Dp.alike_data {pins : List (Addr × Obj)} {s : Shared} {σ : St} {H : Hp} (I : L2.Inv X pins σ H s) {v : V} {u : Value} {d d' : PyData} {as : List Addr} (h : Dp X.K H v d) (r : RelV v u) (hr : Reads s.heap u d' as) (ha : PySem.W.alike d d' = true) : d = d' := by
  obtain ⟨bs, hr'⟩ := Dp.reads I d v u h r
  exact PySem.W.alike_unique d d' u bs as ha hr' hr
/-- the least item, the greatest: a rule of the library gives an item that reads as the least -/
theorem pick_min {pins : List (Addr × Obj)} {s : Shared} {σ : St} {H : Hp} {Q : VK} {x : PV} {l : List PV} {vs : List V} {f fp : List Addr} {its : List Value} {lt : PyData → PyData → Bool} {bd : PyData} (I : L2.Inv X pins σ H s) (hK : G.K = X.K) (lok : LenOk G.K H) (hl : RepL G H (x :: l) vs f)
    (hf : ∀ a ∈ f, a ∈ fp) (rv : Vals vs its) (o : ordOk (x :: l) = true) (hb : bd = (l.map PV.pd).foldl (fun a y => if lt y a = true then y else a) x.pd)
    (k : ∀ z H' fz, NewV G H fp (best (fun a b => lt a.pd b.pd) x l) false z H' fz → Q z H') {i : Nat} {v : Value} {h' : Heap} {tk : Nat} {bs : List Addr} (e : its.toArray[i]? = some v) (r : Reads h' v bd bs) (sm : ∀ b o, s.heap.get? b = some o → h'.get? b = some o) :
    EP X pins σ Q v { s with heap := h', toks := tk } := by
  have I' : L2.Inv X pins σ H { s with heap := h', toks := tk } := I.kept sm
  have e' : its[i]? = some v := by simpa using e
  have hi : i < (x :: l).length := by
    have := (List.getElem?_eq_some_iff.mp e').1
    rw [← rv.length, hl.length] at this
    exact this
  have ep : (x :: l)[i]? = some (x :: l)[i] := List.getElem?_eq_getElem hi
  obtain ⟨y, g, ey, ry, hg⟩ := hl.get ep
  obtain ⟨u, eu, ru⟩ := rv.get ey
  rw [e'] at eu; cases eu
  have hm := best_mem (fun a b : PV => lt a.pd b.pd) l x
  have ok := ordOk_all o
  have d1 : (x :: l)[i].data = true := (ltOk_parts (ok _ (List.getElem_mem hi) _ (List.getElem_mem hi))).1
  have d2 := (ltOk_parts (ok _ hm _ hm)).1
  have eb := best_pd lt l x
  rw [← hb] at eb
  have same : (x :: l)[i].pd = bd := Dp.alike_data I' (hK ▸ ry.dp _ _ _ d1) ru r (by rw [← eb]; exact (ltOk_parts (ok _ (List.getElem_mem hi) _ hm)).2.2.1)
  have pe : (x :: l)[i] = best (fun a b => lt a.pd b.pd) x l := PV.pd_inj _ _ d1 d2 (same.trans eb.symm)
  refine ⟨y, H, I', ru, k y H g (NewV.part lok ?_ fun a ha => hf a (hg a ha))⟩
  rw [← pe]
  exact ry
theorem alikeAll_of {l : List PV} (o : ordOk l = true) : PySem.W.AllAlike (PV.pds l) := by
  rw [pds_map]
  intro d hd d' hd'
  obtain ⟨a, ha, rfl⟩ := List.mem_map.mp hd
  obtain ⟨b, hb, rfl⟩ := List.mem_map.mp hd'
  exact (ltOk_parts (ordOk_all o a ha b hb)).2.2.1
theorem noNone_of {l : List PV} (o : ordOk l = true) : ∀ d ∈ PV.pds l, d ≠ .none := by
  rw [pds_map]
  intro d hd
  obtain ⟨a, ha, rfl⟩ := List.mem_map.mp hd
  exact (ltOk_parts (ordOk_all o a ha a ha)).2.2.2.2
theorem depth_of {l : List PV} (o : ordOk l = true) : PyData.depthAll (PV.pds l) ≤ 64 := by
  rw [pds_map]
  refine depthAll_le fun d hd => ?_
  obtain ⟨a, ha, rfl⟩ := List.mem_map.mp hd
  exact (ltOk_parts (ordOk_all o a ha a ha)).2.2.2.1
theorem datas_of {l : List PV} (o : ordOk l = true) : PV.datas l = true := all_datas fun x hx => (ltOk_parts (ordOk_all o x hx x hx)).1
theorem blt_min (hK : G.K = X.K) (hc : X.calm = true) (hu : X.A.units + 66 < cLine) : CallR X (.builtin "min") (rBlt G .min false) := by
  intro pins s σ H xs us Q I rv ⟨ps, fp, r, hr, lok, e, k⟩
  match ps, e, hr with
  | [.int i, .int j], e, hr =>
    cases e
    obtain ⟨v, w, f, g, rfl, rfl, ⟨rfl, _⟩, ⟨rfl, _⟩⟩ := hr.two_inv
    exact call_min2 hc pins s σ H _ us Q I rv ⟨i, j, rfl, k _ _ [] (NewV.flat lok ⟨rfl, rfl⟩)⟩
  | [.lst (x :: l)], e, hr =>
    simp only [evalB, pmin] at e
    split at e
    · rename_i o
      cases e
      obtain ⟨v, rfl, a, vs, f, rfl, ha, hl, rfl⟩ := hr.one_inv
      obtain ⟨its, rv2, pl, _⟩ := I.list (SqL.of (K := X.K) ha)
      obtain ⟨as, hR⟩ := Dp.readsAll I (PV.pds (x :: l)) vs its (hK ▸ hl.dp _ _ _ (datas_of o)) rv2
      rw [Vals.ref1 rv]
      have hd := depth_of o
      refine PySem.W.min_list_data (I.ok.hd hc) pl.isList (x := x.pd) (xs := PV.pds l) (show ReadsAll s.heap its.toArray.toList (x.pd :: PV.pds l) as by simpa [PV.pds] using hR) ⟨alikeAll_of o, noNone_of o⟩ (by show X.A.units + 1 + PyData.depthAll (PV.pds (x :: l)) < cLine; omega) fun i v h' tk bs e r sm => ?_
      exact pick_min (lt := PySem.W.dataLt) I hK lok hl (fun a ha => List.mem_cons_of_mem _ ha) rv2 o (by rw [← pds_map]; rfl) k e r sm
    · cases e
  | [.lst []], e, hr => cases e
theorem blt_max (hK : G.K = X.K) (hc : X.calm = true) (hu : X.A.units + 66 < cLine) : CallR X (.builtin "max") (rBlt G .max false) := by
  intro pins s σ H xs us Q I rv ⟨ps, fp, r, hr, lok, e, k⟩
  match ps, e, hr with
  | [.int i, .int j], e, hr =>
    cases e
    obtain ⟨v, w, f, g, rfl, rfl, ⟨rfl, _⟩, ⟨rfl, _⟩⟩ := hr.two_inv
    exact call_max2 hc pins s σ H _ us Q I rv ⟨i, j, rfl, k _ _ [] (NewV.flat lok ⟨rfl, rfl⟩)⟩
  | [.lst (x :: l)], e, hr =>
    simp only [evalB, pmax] at e
    split at e
    · rename_i o
      cases e
      obtain ⟨v, rfl, a, vs, f, rfl, ha, hl, rfl⟩ := hr.one_inv
      obtain ⟨its, rv2, pl, _⟩ := I.list (SqL.of (K := X.K) ha)
      obtain ⟨as, hR⟩ := Dp.readsAll I (PV.pds (x :: l)) vs its (hK ▸ hl.dp _ _ _ (datas_of o)) rv2
      rw [Vals.ref1 rv]
      have hd := depth_of o
      refine PySem.W.max_list_data (I.ok.hd hc) pl.isList (x := x.pd) (xs := PV.pds l) (show ReadsAll s.heap its.toArray.toList (x.pd :: PV.pds l) as by simpa [PV.pds] using hR) ⟨alikeAll_of o, noNone_of o⟩ (by show X.A.units + 1 + PyData.depthAll (PV.pds (x :: l)) < cLine; omega) fun i v h' tk bs e r sm => ?_
      exact pick_min (lt := fun a b => PySem.W.dataLt b a) I hK lok hl (fun a ha => List.mem_cons_of_mem _ ha) rv2 o (by rw [← pds_map]; rfl) k e r sm
    · cases e
  | [.lst []], e, hr => cases e

/-! ### sorted -/
/-- the items with what stands for them -/
def Zip3 (G : Gl0) (H : Hp) : List PV → List V → List (PV × V × List Addr) → Prop
  | [], vs, z => vs = [] ∧ z = []
  | p :: l, vs, z => ∃ v vs' f z', vs = v :: vs' ∧ z = (p, v, f) :: z' ∧ RepF G H p v f ∧ Zip3 G H l vs' z'
theorem zip3_of {H : Hp} : ∀ {l : List PV} {vs : List V} {fp : List Addr}, RepL G H l vs fp → ∃ z, Zip3 G H l vs z ∧ ∀ b ∈ z, ∀ a ∈ b.2.2, a ∈ fp
  | [], vs, fp, h => ⟨[], ⟨h.1, rfl⟩, fun _ z => by simp at z⟩
  | p :: l, vs, fp, h => by
    obtain ⟨v, vs', f, f', rfl, rfl, h1, h2⟩ := h
    obtain ⟨z, hz, k⟩ := zip3_of h2
    refine ⟨(p, v, f) :: z, ⟨v, vs', f, z, rfl, rfl, h1, hz⟩, fun b hb a ha => ?_⟩
    rcases List.mem_cons.mp hb with rfl | hb
    · exact List.mem_append_left _ ha
    · exact List.mem_append_right _ (k b hb a ha)
theorem Zip3.rep {H : Hp} : ∀ {l : List PV} {vs : List V} {z : List (PV × V × List Addr)}, Zip3 G H l vs z → ∀ b ∈ z, RepF G H b.1 b.2.1 b.2.2
  | [], _, _, h, b, hb => by rw [h.2] at hb; simp at hb
  | p :: l, _, _, h, b, hb => by
    obtain ⟨v, vs', f, z', rfl, rfl, h1, h2⟩ := h
    rcases List.mem_cons.mp hb with rfl | hb
    · exact h1
    · exact Zip3.rep h2 b hb
theorem Zip3.fst {H : Hp} : ∀ {l : List PV} {vs : List V} {z : List (PV × V × List Addr)}, Zip3 G H l vs z → z.map (·.1) = l
  | [], _, _, h => by rw [h.2]; rfl
  | p :: l, _, _, h => by
    obtain ⟨v, vs', f, z', rfl, rfl, h1, h2⟩ := h
    rw [List.map_cons, Zip3.fst h2]
theorem repL_of {H : Hp} : ∀ {z : List (PV × V × List Addr)}, (∀ b ∈ z, RepF G H b.1 b.2.1 b.2.2) → ∃ f, RepL G H (z.map (·.1)) (z.map (·.2.1)) f ∧ ∀ a ∈ f, ∃ b ∈ z, a ∈ b.2.2
  | [], _ => ⟨[], RepL.nil, fun _ z => by simp at z⟩
  | b :: z, h => by
    obtain ⟨f, h1, h2⟩ := repL_of (z := z) fun c hc => h c (by simp [hc])
    refine ⟨b.2.2 ++ f, RepL.cons (h b (by simp)) h1, fun a ha => ?_⟩
    rcases List.mem_append.mp ha with w | w
    · exact ⟨b, by simp, w⟩
    · obtain ⟨c, hc, w⟩ := h2 a w
      exact ⟨c, by simp [hc], w⟩
theorem Zip3.each {H : Hp} : ∀ {l : List PV} {vs : List V} {z : List (PV × V × List Addr)} {its : List Value}, Zip3 G H l vs z → Vals vs its → PySem.W.EachIs (fun (v : Value) (b : PV × V × List Addr) => RelV b.2.1 v) its z
  | [], _, _, _, h, r => by
    obtain ⟨rfl, rfl⟩ := h
    cases r
    exact .nil
  | p :: l, _, _, _, h, r => by
    obtain ⟨v, vs', f, z', rfl, rfl, h1, h2⟩ := h
    cases r with
    | cons a b => exact .cons a (Zip3.each h2 b)
theorem each_vals : ∀ {z : List (PV × V × List Addr)} {its : List Value}, PySem.W.EachIs (fun (v : Value) (b : PV × V × List Addr) => RelV b.2.1 v) its z → Vals (z.map (·.2.1)) its
  | _, _, .nil => .nil
  | _, _, .cons a b => .cons a (each_vals b)
theorem each_reads {pins : List (Addr × Obj)} {s : Shared} {σ : St} {H : Hp} (I : L2.Inv X pins σ H s) : ∀ {z : List (PV × V × List Addr)} {its : List Value}, PySem.W.EachIs (fun (v : Value) (b : PV × V × List Addr) => RelV b.2.1 v) its z → (∀ b ∈ z, Dp X.K H b.2.1 b.1.pd) →
    PySem.W.EachIs (fun (v : Value) (b : PV × V × List Addr) => ∃ as, Reads s.heap v b.1.pd as) its z
  | _, _, .nil, _ => .nil
  | _, _, .cons a b, h => .cons (Dp.reads I _ _ _ (h _ (by simp)) a) (each_reads I b fun c hc => h c (by simp [hc]))
theorem sortOk_able {l : List PV} (o : sortOk l = true) : ordOk l = true ∧ PySem.W.Sortable (PV.pds l) := by
  unfold sortOk at o
  obtain ⟨o1, o2⟩ := Bool.and_eq_true_iff.mp o
  refine ⟨o1, ?_⟩
  rw [pds_map]
  rcases Bool.or_eq_true_iff.mp o2 with c | c
  · refine .inl fun d hd => ?_
    obtain ⟨p, hp, rfl⟩ := List.mem_map.mp hd
    have q := List.all_eq_true.mp c p hp
    match p, q with
    | .tup (x :: m), _ => exact ⟨x.pd, PV.pds m, rfl⟩
  · refine .inr fun d hd => ?_
    obtain ⟨p, hp, rfl⟩ := List.mem_map.mp hd
    refine ⟨(ltOk_parts (ordOk_all o1 p hp p hp)).2.2.2.2, fun xs e => ?_⟩
    have q := List.all_eq_true.mp c p hp
    cases p <;> first | (simp at q; done) | (exact absurd e nofun)
theorem blt_sorted (hK : G.K = X.K) (hu : X.A.units + 67 < cLine) : CallR X (.builtin "sorted") (rBlt G .sorted true) := by
  intro pins s σ H xs us Q I rv ⟨ps, fp, r, hr, lok, e, k⟩
  match ps, e, hr with
  | [.lst l], e, hr =>
    simp only [evalB] at e
    split at e
    · rename_i o
      cases e
      obtain ⟨o1, o2⟩ := sortOk_able o
      obtain ⟨v, rfl, a, vs, f, rfl, ha, hl, rfl⟩ := hr.one_inv
      obtain ⟨its, rv2, pl, _⟩ := I.list (SqL.of (K := X.K) ha)
      obtain ⟨z, hz, hzf⟩ := zip3_of hl
      rw [Vals.ref1 rv]
      have ez := hz.fst
      have dl := datas_all (datas_of o1)
      have lz : z.length = l.length := by rw [← ez, List.length_map]
      have em : z.map (fun b => b.1.pd) = PV.pds l := by rw [pds_map, ← ez, List.map_map]; rfl
      have hd := depth_of o1
      have hb : ∀ b ∈ z, b.1 ∈ l := fun b hb => by rw [← ez]; exact List.mem_map.mpr ⟨b, hb, rfl⟩
      refine PySem.W.sorted_data (enc := fun b : PV × V × List Addr => b.1.pd) pl.isList (hz.each rv2) (each_reads I (hz.each rv2) fun b h => hK ▸ (hz.rep b h).dp _ _ _ (dl _ (hb b h))) (by rw [em]; exact alikeAll_of o1) (by rw [em]; exact o2) (by rw [lz, ← hl.length]; exact lok.1 a vs (.of ha))
        (fun b h => by have := (ltOk_parts (ordOk_all o1 _ (hb b h) _ (hb b h))).2.2.2.1; show X.A.units + 2 + b.1.pd.depth < cLine; omega) fun out hlen hout => ?_
      obtain ⟨ep, he'⟩ := PyProof.Rows.sortedAll_at s.heap its out.toArray
      have hv := each_vals hout
      have hmem : ∀ b ∈ z.mergeSort (PySem.W.dataLe false fun b => b.1.pd), b ∈ z := fun b h => (List.mergeSort_perm z _).mem_iff.mp h
      obtain ⟨g, hg, hgf⟩ := repL_of (G := G) (H := H) (z := z.mergeSort (PySem.W.dataLe false fun b => b.1.pd)) fun b h => hz.rep b (hmem b h)
      have es : (z.mergeSort (PySem.W.dataLe false fun b => b.1.pd)).map (·.1) = psort l := by
        unfold psort
        rw [← ez]
        refine List.map_mergeSort fun a _ b _ => ?_
        rfl
      rw [es] at hg
      have hlz : ((z.mergeSort (PySem.W.dataLe false fun b => b.1.pd)).map (·.2.1)).length ≤ sizeLine := by
        rw [List.length_map, List.length_mergeSort, lz, ← hl.length]; exact lok.1 a vs (.of ha)
      have fr := I.hok.fresh (Nat.le_succ s.heap.objs.size)
      refine ⟨.ref _, upd H (s.heap.objs.size + 1) (.lst ((z.mergeSort (PySem.W.dataLe false fun b => b.1.pd)).map (·.2.1))), I.laid (t' := s.toks) (fun _ _ => PyProof.Rows.sortedAll_old) (Nat.le_succ _) ⟨hlz, out, ep, hv, by simpa using he'⟩, rfl, k _ _ _ (NewV.lst lok fr hg hlz fun b hb => ?_)⟩
      obtain ⟨c, hc, w⟩ := hgf b hb
      exact List.mem_cons_of_mem _ (hzf c (hmem c hc) b w)
    · cases e
/-! ### repr, str -/
mutual
theorem PV.nd : ∀ (p : PV), p.pd.hasDict = false
  | .non => rfl
  | .bl _ => rfl
  | .int _ => rfl
  | .str _ => rfl
  | .undef => rfl
  | .fn _ => rfl
  | .exc _ _ => rfl
  | .scr _ => rfl
  | .tup l => by
    show PyData.hasDict (.tuple (PV.pds l)) = false
    rw [PyData.hasDict]
    exact PV.nds l
  | .lst l => by
    show PyData.hasDict (.list (PV.pds l)) = false
    rw [PyData.hasDict]
    exact PV.nds l
theorem PV.nds : ∀ (p : List PV), PyData.hasDictAll (PV.pds p) = false
  | [] => by simp [PV.pds, PyData.hasDictAll]
  | x :: l => by rw [PV.pds, PyData.hasDictAll, PV.nd x, PV.nds l]; rfl
end
theorem blt_repr (hK : G.K = X.K) (hg : X.A.guards = some []) (hu : X.A.units + 62 < cLine) : CallR X (.builtin "repr") (rBlt G .repr true) := by
  intro pins s σ H xs us Q I rv ⟨ps, fp, r, hr, lok, e, k⟩
  match ps, e, hr with
  | [p], e, hr =>
    simp only [evalB] at e
    split at e
    · rename_i o
      cases e
      unfold reprOk at o
      obtain ⟨o, o4⟩ := Bool.and_eq_true_iff.mp o
      obtain ⟨o, o3⟩ := Bool.and_eq_true_iff.mp o
      obtain ⟨o1, o2⟩ := Bool.and_eq_true_iff.mp o
      have o3 := of_decide_eq_true o3
      have o4 := of_decide_eq_true o4
      obtain ⟨v, rfl, hv⟩ := hr.one_inv
      obtain ⟨u, rfl, ru⟩ := Vals.one rv
      have dp := hv.dp _ _ _ o1
      obtain ⟨as, rd⟩ := Dp.reads I p.pd v u (hK ▸ dp) ru
      have kk := k (.str p.pd.shown) H [] (NewV.flat lok ⟨rfl, rfl⟩)
      cases p with
      | non =>
        cases hv.1
        cases (show u = Value.none from ru)
        exact PySem.P.repr_of_none ⟨.str _, H, I.tok _, ⟨_, rfl⟩, kk⟩
      | bl b =>
        cases hv.1
        cases (show u = Value.bool b from ru)
        refine PySem.P.repr_of_bool ⟨.str _, H, I.tok _, ⟨_, rfl⟩, ?_⟩
        have ee : (PV.bl b).pd.shown = (if b = true then ("True" : Str) else ("False" : Str)) := by rw [PV.pd, PyData.shown]
        rw [ee] at kk
        exact kk
      | int i =>
        cases hv.1
        obtain ⟨t, rfl⟩ := (show ∃ t, u = Value.int i t from ru)
        have o2' : i.natAbs.log2 < 1920 := by
          have o2'' : PyData.showable (.int i) = true := o2
          rw [PyData.showable] at o2''
          exact of_decide_eq_true o2''
        refine PySem.P.repr_of_int o2' ⟨.str _, H, I.tok _, ⟨_, rfl⟩, ?_⟩
        have ee : (PV.int i).pd.shown = (toString i : Str) := by rw [PV.pd, PyData.shown]
        rw [← ee]
        exact kk
      | str x =>
        cases hv.1
        obtain ⟨t, rfl⟩ := (show ∃ t, u = Value.str x t from ru)
        have ee : (PV.str x).pd.shown = reprText x := by rw [PV.pd, PyData.shown]
        rw [ee] at kk o4
        exact PySem.P.repr_of_str ⟨.str _, H, I.tok _, ⟨_, rfl⟩, kk⟩ o4
      | tup l =>
        obtain ⟨a, vs, rfl, ha, hl⟩ := hv
        cases ru
        exact repr_of_reads' rd o2 (PyData.noDict_hsm (PV.nd _)) hg (by omega) (fun _ _ e => e) (fun h' u tk hk => ⟨.str _, H, I.kept hk, ⟨_, rfl⟩, kk⟩) o4
      | lst l =>
        obtain ⟨a, vs, f, rfl, ha, hl, _⟩ := hv
        cases ru
        exact repr_of_reads' rd o2 (PyData.noDict_hsm (PV.nd _)) hg (by omega) (fun _ _ e => e) (fun h' u tk hk => ⟨.str _, H, I.kept hk, ⟨_, rfl⟩, kk⟩) o4
      | _ => simp [PV.data] at o1
    · cases e
theorem blt_str : CallR X (.type "str") (rBlt G .str true) := by
  intro pins s σ H xs us Q I rv ⟨ps, fp, r, hr, lok, e, k⟩
  match ps, e, hr with
  | [.str x], e, hr => exact absurd e (by simp [evalB])
  | [.int i], e, hr =>
    simp only [evalB] at e
    split at e
    · cases e
      obtain ⟨v, rfl, rfl, _⟩ := hr.one_inv
      exact call_str_int pins s σ H _ us Q I rv ⟨i, rfl, ‹_›, k _ _ [] (NewV.flat lok ⟨rfl, rfl⟩)⟩
    · cases e
/-! ### items, slices -/
theorem ixN_eq (n : Nat) (i : Int) : Ev.ixN n i = L2.ixN n i := rfl
theorem atI_eq {α : Type} (l : List α) (i : Int) : Ev.atI l i = L2.atI l i := rfl
theorem RepL.atI {H : Hp} {l : List PV} {vs : List V} {f : List Addr} {i : Int} {x : PV} (h : RepL G H l vs f) (e : Ev.atI l i = some x) : ∃ y g, L2.atI vs i = some y ∧ RepF G H x y g ∧ ∀ a ∈ g, a ∈ f := by
  unfold Ev.atI at e
  rw [ixN_eq] at e
  unfold L2.atI
  rw [h.length]
  cases e2 : L2.ixN l.length i with
  | none => rw [e2] at e; cases e
  | some j =>
    rw [e2] at e
    obtain ⟨y, g, e3, r, k⟩ := h.get (i := j) (x := x) e
    exact ⟨y, g, e3, r, k⟩
def rIdx (G : Gl0) : R2 := fun x y H Q => ∃ p q r fp fq, RepF G H p x fp ∧ RepF G H q y fq ∧ LenOk G.K H ∧ index p q = some r ∧ ∀ z H' fz, NewV G H fp r false z H' fz → Q z H'
theorem ix_P (hK : G.K = X.K) : IxR X (rIdx G) := by
  intro va sl pins s σ H x y v u Q I rx ry ⟨p, q, r, fp, fq, hp, hq, lok, e, k⟩ hs
  cases q with
  | int i =>
    obtain ⟨rfl, _⟩ := hq
    cases p with
    | tup l =>
      obtain ⟨a, vs, rfl, ha, hl⟩ := hp
      obtain ⟨z, g, e2, rz, hg⟩ := hl.atI (show Ev.atI l i = some r from e)
      exact ix_tup va sl pins s σ H _ _ v u Q I rx ry ⟨a, vs, i, z, rfl, rfl, hK ▸ ha, e2, k z H g (NewV.part lok rz hg)⟩ hs
    | lst l =>
      obtain ⟨a, vs, f, rfl, ha, hl, rfl⟩ := hp
      obtain ⟨z, g, e2, rz, hg⟩ := hl.atI (show Ev.atI l i = some r from e)
      exact ix_list va sl pins s σ H _ _ v u Q I rx ry ⟨a, vs, i, z, rfl, rfl, .of ha, e2, k z H g (NewV.part lok rz fun b hb => List.mem_cons_of_mem _ (hg b hb))⟩ hs
    | str z =>
      obtain ⟨rfl, _⟩ := hp
      simp only [index] at e
      split at e
      · cases e2 : Ev.atI z.cps.toList i with
        | none => rw [e2] at e; cases e
        | some c =>
          rw [e2] at e
          cases e
          exact ix_str va sl pins s σ H _ _ v u Q I rx ry ⟨z, i, c, rfl, rfl, ‹_›, e2, k _ _ [] (NewV.part lok ⟨rfl, rfl⟩ fun _ z => by simp at z)⟩ hs
      · cases e
    | _ => simp [index] at e
  | _ => cases p <;> simp [index] at e
end
section
variable {X : Cx} {R : Fr0} {W : WXX} {kd kd1 kd2 kd3 : Kd}
def isSlice : Expr → Bool
  | .Slice _ _ _ _ => true
  | _ => false
theorem plainIx_of {b : Expr} (h : isSlice b = false) : PlainIx b := by
  intro o i
  cases b <;> first | rfl | cases h
/-- a[i] -/
theorem ev_idx {a i : Expr} {pos : Pos} {eva evi : Env → Res (PV × Env)} (hK : R.G.K = X.K) (ha : PE X a (rdE R W kd1 eva)) (hi : PE X i (rdE R W kd2 evi)) (hc : (kd1.stb || kd2.nor) = true) (hp : isSlice i = false) :
    PE X (.Subscript a i pos) (rdE R W ⟨false, kd1.stb, false, kd1.nor && kd2.nor⟩ fun env => (eva env).bind fun r => (evi r.2).bind fun q => (ofO (index r.1 q.1)).bind fun x => .ok (x, q.2)) :=
  PE.by (pe_ix (ix_P hK) ha hi (plainIx_of hp)) fun σ H Q F env k h => by
    refine ⟨F, env, k, okR.bind Step.refl h fun p x H1 F1 fp _ k1 s1 v1 m1 h1 => ?_⟩
    refine ⟨F1, p.2, k1, okR.bind s1 h1 fun q y H2 F2 fq _ k2 s2 v2 m2 h2 => ?_⟩
    obtain ⟨z, e, h3⟩ := okR.ofO h2
    refine ⟨p.1, q.1, z, fp, fq, v1.held k1 s2 m2 hc, v2.rep, k2.lok, e, fun zv H' fz nv => ?_⟩
    exact okR.pure h3 k2 (s1.trans s2) (Nor.trans m1 m2) nv v1.old (fun c a ha => OW.none_of s2 (v1.st c a ha) (Option.ne_none_iff_exists'.mp (RepF.there _ _ _ v1.rep a ha))) rfl fun z => z
end
end Ev

/-! EvE8: slices, [::-1] of lists and tuples, isinstance. -/
namespace Ev
open PySem PySem.Spec PyProof.Rows L2
section
open HT
variable {prog : Program} {w : World} {A : Around} {E : Value → Shared → Prop} {s : Shared}
theorem sliceApplied_rev {sl : Addr} {vl vu vk : Value} {n : Nat} {Q : Int × Int × Nat → Shared → Prop} (hs : s.heap.IsSliceOf sl vl vu vk) (pl : IsPart vl none) (pu : IsPart vu none) (pk : IsPart vk (some (-1)))
    (h : Q ((n : Int) - 1, -1, n) s) : wpAny (model prog w) A (Builtin.Slice.sliceApplied (.ref sl) (pure (n : Int))) Q E s := by
  obtain ⟨os, hos, hcs, hds⟩ := id hs
  unfold Builtin.Slice.sliceApplied Builtin.Slice.sliceFields
  refine wpAny_bind (wpAny_bind (wpAny_field hos hds (x := vl) rfl (wpAny_bind (wpAny_field hos hds (x := vu) rfl (wpAny_bind (wpAny_field hos hds (x := vk) rfl (wpAny_pure ?_)))))))
  refine wpAny_bind (slicePart_ pk ?_)
  show wpAny _ _ (if ((-1 : Int) == 0) = true then _ else _) _ _ s
  rw [if_neg (by decide)]
  refine wpAny_bind (slicePart_ pl (wpAny_bind (slicePart_ pu (wpAny_bind (wpAny_pure ?_)))))
  have e : Builtin.Slice.slicePlaces ((n : Int) - 1) (-1) (-1) = n := by
    unfold Builtin.Slice.slicePlaces
    simp only [show ¬ ((-1 : Int) > 0) by omega, if_false, Int.neg_neg, Int.ediv_one]
    split <;> omega
  show wpAny _ _ (pure (((n : Int) - 1), (-1 : Int), Builtin.Slice.slicePlaces ((n : Int) - 1) (-1) (-1))) _ _ s
  rw [e]
  exact wpAny_pure h
theorem pick_rev (xs : Array Value) : ((List.range xs.size).filterMap fun (m : Nat) => xs[(((xs.size : Nat) : Int) - 1 + (m : Int) * (-1)).toNat]?).toArray = xs.toList.reverse.toArray := by
  have e : ((List.range xs.size).filterMap fun (m : Nat) => xs[(((xs.size : Nat) : Int) - 1 + (m : Int) * (-1)).toNat]?) = (List.range xs.size).filterMap fun m => xs[xs.size - 1 - m]? := by
    have ef : (fun (m : Nat) => xs[(((xs.size : Nat) : Int) - 1 + (m : Int) * (-1)).toNat]?) = fun m => xs[xs.size - 1 - m]? := by
      funext m
      have : (((xs.size : Nat) : Int) - 1 + (m : Int) * (-1)).toNat = xs.size - 1 - m := by omega
      rw [this]
    rw [ef]
  rw [e]
  have e2 : ((List.range xs.size).filterMap fun m => xs[xs.size - 1 - m]?) = ((List.range xs.size).map fun m => xs.size - 1 - m).filterMap fun m => xs[m]? := by
    rw [List.filterMap_map]; rfl
  rw [e2, PySem.W.krv_range, List.filterMap_reverse, PySem.W.krv_all]
theorem getItem_tuple_rev {t sl : Addr} {items : Array Value} {vl vu vk : Value} {Q : Value → Shared → Prop} (ht : IsTup s.heap t items) (hs : s.heap.IsSliceOf sl vl vu vk) (pl : IsPart vl none) (pu : IsPart vu none) (pk : IsPart vk (some (-1)))
    (h : Q (.ref s.heap.objs.size) { s with heap := s.heap.push { cls := .type "tuple", data := .seq items.toList.reverse.toArray } })
    (hsz : items.size ≤ sizeLine) : wpAny (model prog w) A (getItem (.ref t) (.ref sl)) Q E s := by
  have htake : sizeOk (.seq items.toList.reverse.toArray) := by
    show (items.toList.reverse.toArray).size ≤ sizeLine
    rw [List.size_toArray, List.length_reverse, Array.length_toList]
    omega
  obtain ⟨os, hos, hcs, hds⟩ := id hs
  have hTs : s.TypeIs (.ref sl) "slice" := ⟨os, hos, hcs⟩
  unfold getItem
  try with_reducible refine wpAny_holding ?_
  first | refine wpAny_bind (wpAny_pure ?_) | skip
  refine wpAny_bind (wpAny_sequenceKey ht.typeIs (by decide) ?_)
  refine wpAny_bind (wpAny_callSpecial?_slot (name := Str.ofString "__getitem__") ht.typeIs PyProof.Rows.slot_tuple_getitem
    (wpAny_call_entry PyProof.Rows.slot_tuple_getitem ht.typeIs entry_tuple_getitem ?_ (args_tuple_getitem _ _)))
  show wpAny _ _ (Builtin.Tuple.tupleItemsOf (.ref t) >>= _) _ _ s
  refine wpAny_bind (tupleItemsOf_ ht ?_)
  refine wpAny_bind (wpAny_typeOf hTs ?_)
  rw [if_pos (by decide)]
  refine wpAny_bind (sliceApplied_rev hs pl pu pk ?_)
  have hno : ¬ ((((items.size : Nat) : Int) - 1 == 0 && (-1 : Int) == 1 && items.size == items.size) = true) := by
    intro q
    rw [Bool.and_eq_true, Bool.and_eq_true] at q
    exact absurd q.1.2 (by decide)
  show wpAny _ _ (if (((items.size : Nat) : Int) - 1 == 0 && (-1 : Int) == 1 && items.size == items.size) = true then _ else _) _ _ s
  rw [if_neg hno, pick_rev]
  first
    | exact wpAny_bind (m := Builtin.Tuple.tupleExact _) (wpAny_newObj_type (wpAny_pure ⟨_, rfl, wpAny_pure h⟩) htake)
    | exact wpAny_bind (m := Builtin.Tuple.tupleExact _) (wpAny_newObj_type (wpAny_bind (wpAny_pure (wpAny_pure ⟨_, rfl, wpAny_pure h⟩))) htake)
    | exact wpAny_bind (wpAny_bind (m := Builtin.Tuple.tupleExact _) (wpAny_newObj_type (wpAny_pure (wpAny_pure ⟨_, rfl, wpAny_pure h⟩)) htake))
    | exact wpAny_bind (wpAny_bind (m := Builtin.Tuple.tupleExact _) (wpAny_newObj_type (wpAny_pure ⟨_, rfl, wpAny_pure h⟩) htake))
end
section
variable {X : Cx}
/-- xs[::-1], t[::-1] -/
def tRev (K : PySem.W.Frag) (te : TE) : TE := fun σ H Q => te σ H fun x H1 => ∃ a xs, x = .ref a ∧ ((SqL K H1 a xs ∧ ∀ p, H1 p = none → Q (.ref p) (upd H1 p (.lst xs.reverse))) ∨ (SqT K H1 a xs ∧ ∀ p, H1 p = none → Q (.ref p) (upd H1 p (.tup xs.reverse))))
theorem pe_rev {e : Expr} {te : TE} {k : Nat} {p1 p2 p3 pos : Pos} (he : PE X e te) : PE X (.Subscript e (.Slice none none (some (.UnaryOp .USub (.Constant (.int 1) k p1) p2)) p3) pos) (tRev X.K te) := by
  refine ⟨fun pins s σ H Q I h => ?_⟩
  refine Subscript_ (thn (he.run pins s σ H _ I h) fun v s1 ⟨x, H1, I1, r1, q1⟩ => ?_)
  obtain ⟨a, xs, ex, q⟩ := q1
  subst ex
  cases r1
  have hst : PO X (some (.UnaryOp .USub (.Constant (.int 1) k p1) p2)) (tPart (tUn (rU fun i => .int (-i)) (tC (.int 1)))) := po_some (pe_un un_neg pe_int)
  refine wpAny_Slice (thn (po_none.run pins s1 σ H1 (fun o H2 => o = none ∧ H2 = H1) I1 ⟨rfl, rfl⟩) fun vl s2 ⟨l, H2, I2, pl, el, e2⟩ => ?_)
  subst el e2
  refine thn (po_none.run pins s2 σ H2 (fun o H3 => o = none ∧ H3 = H2) I2 ⟨rfl, rfl⟩) fun vu s3 ⟨u, H3, I3, pu, eu, e3⟩ => ?_
  subst eu e3
  refine thn (hst.run pins s3 σ H3 (fun o H4 => o = some (-1) ∧ H4 = H3) I3 ⟨1, rfl, -1, rfl, rfl, rfl⟩) fun vs s4 ⟨o, H4, I4, ps, eo, e4⟩ => ?_
  subst eo e4
  have I5 : L2.Inv X pins σ H4 { s4 with heap := s4.heap.push { cls := .type "slice", data := .fields #[vl, vu, vs] } } := I4.kept (t' := s4.toks) fun b ob q => Heap.get?_push_of_some _ q
  show wpAny (model X.prog X.w) X.A (subscriptTail e (.Slice none none (some (.UnaryOp .USub (.Constant (.int 1) k p1) p2)) p3) (.ref a) (.ref s4.heap.objs.size)) (EP X pins σ Q) X.xe { s4 with heap := s4.heap.push { cls := .type "slice", data := .fields #[vl, vu, vs] } }
  rcases q with ⟨hx, q⟩ | ⟨hx, q⟩
  · obtain ⟨its, r, ht, hz⟩ := I5.list hx
    have hlen := r.length
    refine tail_any (ops := [.ref a, .ref s4.heap.objs.size]) ht.isList.typeIs (PySem.slot_list_getitem.lookup) ?_ (by with_unfolding_all rfl)
    refine wpAny_getItem_list_slice ht.isList (Heap.IsSliceOf.new _ vl vu vs) pl pu ps (by decide) ?_ (by rw [List.size_toArray]; omega)
    rw [PySem.W.krv_pick]
    refine ⟨.ref _, _, I5.laid (t' := s4.toks) (o := .lst xs.reverse) (fun b ob q => Heap.get?_push_of_some _ q) (Nat.le_refl _) ?_, rfl, q _ (I5.hok.fresh (Nat.le_refl _))⟩
    exact ⟨by rw [List.length_reverse]; exact hz, _, 0, r.reverse, Heap.get?_push_size _ rfl⟩
  · obtain ⟨its, r, ht, hz⟩ := I5.tuple hx
    have hlen := r.length
    refine tail_any (ops := [.ref a, .ref s4.heap.objs.size]) ht.typeIs (PyProof.Rows.slot_tuple_getitem.lookup) ?_ (by with_unfolding_all rfl)
    refine getItem_tuple_rev ht (Heap.IsSliceOf.new _ vl vu vs) pl pu ps ?_ (by rw [List.size_toArray]; omega)
    refine ⟨.ref _, _, I5.laid (t' := s4.toks) (o := .tup xs.reverse) (fun b ob q => Heap.get?_push_of_some _ q) (Nat.le_refl _) ?_, rfl, q _ (I5.hok.fresh (Nat.le_refl _))⟩
    exact ⟨by rw [List.length_reverse]; exact hz, _, r.reverse, ⟨_, Heap.get?_push_size _ rfl, rfl, _, rfl⟩⟩
end
section
variable {X : Cx} {R : Fr0} {W : WXX} {kd kd1 kd2 kd3 : Kd}
theorem RepL.rev {G : Gl0} {H : Hp} : ∀ {l : List PV} {vs : List V} {f : List Addr}, RepL G H l vs f → ∃ g, RepL G H l.reverse vs.reverse g ∧ ∀ a ∈ g, a ∈ f
  | [], vs, f, h => ⟨[], by rw [h.1]; exact RepL.nil, fun _ z => by simp at z⟩
  | x :: l, vs, f, h => by
    obtain ⟨v, vs', f1, f2, rfl, rfl, h1, h2⟩ := h
    obtain ⟨g, hg, k⟩ := RepL.rev h2
    refine ⟨g ++ f1, ?_, fun a ha => ?_⟩
    · rw [List.reverse_cons, List.reverse_cons]
      exact hg.append (RepL.one h1)
    · rcases List.mem_append.mp ha with z | z
      · exact List.mem_append_right _ (k a z)
      · exact List.mem_append_left _ z
theorem ev_rev {e : Expr} {k : Nat} {p1 p2 p3 pos : Pos} {ev : Env → Res (PV × Env)} (hK : R.G.K = X.K) (he : PE X e (rdE R W kd1 ev)) :
    PE X (.Subscript e (.Slice none none (some (.UnaryOp .USub (.Constant (.int 1) k p1) p2)) p3) pos) (rdE R W ⟨false, kd1.stb, true, kd1.nor⟩ fun env => (ev env).bind fun r => match r.1 with
      | .lst l => .ok (.lst l.reverse, r.2)
      | .tup l => .ok (.tup l.reverse, r.2)
      | _ => .fail) :=
  PE.by (pe_rev he) fun σ H Q F env k h => ⟨F, env, k, okR.bind Step.refl h fun q v H2 F2 fp _ k2 s2 v2 nr h2 => by
    obtain ⟨p, env2⟩ := q
    cases p with
    | lst l =>
      obtain ⟨a, vs, f, rfl, ha, hl, ef⟩ := v2.rep
      subst ef
      obtain ⟨g, hg, kg⟩ := hl.rev
      refine ⟨a, vs, rfl, .inl ⟨.of ha, fun z hz => ?_⟩⟩
      exact okR.pure h2 k2 s2 nr (NewV.lst k2.lok hz hg (by rw [List.length_reverse]; exact k2.lok.1 a vs (.of ha)) fun b hb => List.mem_cons_of_mem _ (kg b hb)) v2.old v2.st rfl fun z => z
    | tup l =>
      obtain ⟨a, vs, rfl, ha, hl⟩ := v2.rep
      obtain ⟨g, hg, kg⟩ := hl.rev
      refine ⟨a, vs, rfl, .inr ⟨hK ▸ ha, fun z hz => ?_⟩⟩
      exact okR.pure h2 k2 s2 nr (NewV.tup (t := true) k2.lok hz hg (by rw [List.length_reverse]; exact k2.lok.2 a vs ha) fun b hb => kg b hb) v2.old v2.st rfl fun z => z
    | _ => exact h2.elim⟩

/-! ### slices -/
theorem sIx_eq (n d : Nat) (o : Option Int) : Ev.sIx n d o = HT.sIx n d o := by
  cases o <;> rfl
theorem cut_eq (l : List V) (a b : Option Int) : Ev.cut l a b = cutV l a b := by
  unfold Ev.cut cutV
  rw [sIx_eq, sIx_eq]
theorem RepL.cut {G : Gl0} {H : Hp} {l : List PV} {vs : List V} {f : List Addr} (h : RepL G H l vs f) (a b : Option Int) : ∃ g, RepL G H (Ev.cut l a b) (cutV vs a b) g ∧ ∀ c ∈ g, c ∈ f := by
  rw [← cut_eq]
  unfold Ev.cut
  rw [h.length]
  obtain ⟨g1, h1, k1⟩ := h.drop (Ev.sIx l.length 0 a)
  obtain ⟨g2, h2, k2⟩ := h1.take (Ev.sIx l.length l.length b - Ev.sIx l.length 0 a)
  exact ⟨g2, h2, fun c hc => k1 c (k2 c hc)⟩
/-- an optional bound -/
def okO (R : Fr0) (W : WXX) (nor : Bool) (σ : St) (H : Hp) (F : Nat → List Addr) (env : Env) (Q : Option Int → Hp → Prop) : Res (Option Int × Env) → Prop
  | .ok r => ∀ H' F', EnvOk R σ H' F' r.2 → Step R.ms H F H' F' → Nor nor H F env H' F' r.2 → Q r.1 H'
  | .raise c x env' => ∀ d H' F', EnvOk R σ H' F' env' → Step R.ms H F H' F' → ExcAt R H' c x d → W (.ref (R.cls c)) (some d) σ H'
  | .fail => False
def rdO (R : Fr0) (W : WXX) (nor : Bool) (ev : Env → Res (Option Int × Env)) : TO := fun σ H Q => ∃ F env, EnvOk R σ H F env ∧ okO R W nor σ H F env Q (ev env)
theorem PO.imp {e : Option Expr} {t t' : TO} (h : PO X e t) (k : ∀ σ H Q, t' σ H Q → t σ H Q) : PO X e t' := ⟨fun pins s σ H Q I q => h.run pins s σ H Q I (k σ H Q q)⟩
theorem PO.by {e : Option Expr} {t : TO} {n : Bool} {ev : Env → Res (Option Int × Env)} (h : PO X e t) (k : ∀ σ H Q F env, EnvOk R σ H F env → okO R W n σ H F env Q (ev env) → t σ H Q) : PO X e (rdO R W n ev) :=
  PO.imp h fun σ H Q ⟨F, env, a, b⟩ => k σ H Q F env a b
theorem ev_no : PO X none (rdO R W true fun env => .ok (none, env)) := PO.imp po_none fun σ H Q ⟨F, env, k, h⟩ => h H F k Step.refl Nor.refl
theorem ev_so {e : Expr} {ev : Env → Res (PV × Env)} (he : PE X e (rdE R W kd ev)) : PO X (some e) (rdO R W kd.nor fun env => (ev env).bind fun r => match r.1 with
    | .int i => .ok (some i, r.2)
    | _ => .fail) := PO.by (po_some he) fun σ H Q F env k h => ⟨F, env, k, by
  cases e : ev env with
  | ok q =>
    rw [e] at h
    refine fun v H2 F2 fp k2 s2 v2 nr => ?_
    obtain ⟨p, env2⟩ := q
    cases p with
    | int i => exact ⟨_, v2.rep.1, h H2 F2 k2 s2 nr⟩
    | _ => exact h.elim
  | raise c x e' => rw [e] at h; exact h
  | fail => rw [e] at h; exact h⟩
theorem okR.bindO {σ : St} {H H1 : Hp} {F F1 : Nat → List Addr} {env env1 : Env} {Q : VK} {n1 : Bool} {QO : Option Int → Hp → Prop} {r : Res (Option Int × Env)} {k : Option Int × Env → Res (PV × Env)} (s0 : Step R.ms H F H1 F1) (h : okR R W kd σ H F env Q (r.bind k))
    (step : ∀ q H2 F2, r = .ok q → EnvOk R σ H2 F2 q.2 → Step R.ms H1 F1 H2 F2 → Nor n1 H1 F1 env1 H2 F2 q.2 → okR R W kd σ H F env Q (k q) → QO q.1 H2) :
    okO R W n1 σ H1 F1 env1 QO r := by
  cases r with
  | ok q => exact fun H2 F2 k1 k2 k4 => step q H2 F2 rfl k1 k2 k4 h
  | raise c x e => exact fun d H2 F2 k1 k2 k3 => h d H2 F2 k1 (s0.trans k2) k3
  | fail => exact h
def rSli (G : Gl0) : V → Option Int → Option Int → Hp → VK → Prop := fun x lo hi H Q => ∃ p fp r, RepF G H p x fp ∧ LenOk G.K H ∧ slice p lo hi = some r ∧ ∀ z H' fz, NewV G H fp r true z H' fz → Q z H'
theorem sl_P {G : Gl0} (hK : G.K = X.K) : SlR X (rSli G) := by
  intro pins s σ H x v vl vu lo hi sl Q I rx hs pl pu ⟨p, fp, r, hp, lok, e3, k⟩
  cases p with
  | tup l =>
    cases e3
    obtain ⟨a, vs, rfl, ha, hl⟩ := hp
    refine sl_tupA pins s σ H _ v vl vu lo hi sl Q I rx hs pl pu ⟨a, vs, rfl, hK ▸ ha, fun ⟨c1, c2⟩ => ?_, fun _ z hz => ?_⟩
    · refine k _ _ fp (NewV.partT lok ⟨a, vs, rfl, ha, ?_⟩ fun _ z => z)
      have ec : Ev.cut l lo hi = l := by
        unfold Ev.cut
        rw [sIx_eq, sIx_eq, ← hl.length, c1, c2, hl.length, List.drop_zero, Nat.sub_zero, List.take_length]
      rw [ec]
      exact hl
    · obtain ⟨g, hg, kg⟩ := hl.cut lo hi
      exact k _ _ g (NewV.tup lok hz hg (Nat.le_trans (cutV_length _ _ _) (lok.2 a vs ha)) kg)
  | lst l =>
    cases e3
    obtain ⟨a, vs, f, rfl, ha, hl, rfl⟩ := hp
    refine sl_list pins s σ H _ v vl vu lo hi sl Q I rx hs pl pu ⟨a, vs, rfl, .of ha, fun z hz => ?_⟩
    obtain ⟨g, hg, kg⟩ := hl.cut lo hi
    exact k _ _ _ (NewV.lst lok hz hg (Nat.le_trans (cutV_length _ _ _) (lok.1 a vs (.of ha))) fun b hb => List.mem_cons_of_mem _ (kg b hb))
  | str z =>
    simp only [slice] at e3
    split at e3
    · cases e3
      obtain ⟨rfl, _⟩ := hp
      refine sl_str pins s σ H _ v vl vu lo hi sl Q I rx hs pl pu ⟨z, rfl, ‹_›, ?_⟩
      have ec : cutS z lo hi = ⟨(Ev.cut z.cps.toList lo hi).toArray⟩ := by
        unfold cutS Ev.cut
        rw [sIx_eq, sIx_eq]
        rfl
      rw [ec]
      exact k _ _ [] (NewV.flat lok ⟨rfl, rfl⟩)
    · cases e3
  | _ => simp [slice] at e3
theorem ev_sl {a : Expr} {lo hi : Option Expr} {p2 pos : Pos} {eva : Env → Res (PV × Env)} {evl evh : Env → Res (Option Int × Env)} {n1 n2 : Bool} (hK : R.G.K = X.K) (ha : PE X a (rdE R W kd1 eva)) (hl : PO X lo (rdO R W n1 evl)) (hh : PO X hi (rdO R W n2 evh)) (hc : (kd1.stb || (n1 && n2)) = true) :
    PE X (.Subscript a (.Slice lo hi none p2) pos) (rdE R W ⟨false, kd1.stb, true, kd1.nor && (n1 && n2)⟩ fun env => (eva env).bind fun r => (evl r.2).bind fun p => (evh p.2).bind fun q => (ofO (slice r.1 p.1 q.1)).bind fun x => .ok (x, q.2)) :=
  PE.by (pe_slice (sl_P hK) ha hl hh) fun σ H Q F env k h => by
    refine ⟨F, env, k, okR.bind Step.refl h fun p x H1 F1 fp _ k1 s1 v1 m1 h1 => ?_⟩
    refine ⟨F1, p.2, k1, okR.bindO s1 h1 fun q H2 F2 _ k2 s2 m2 h2 => ?_⟩
    refine ⟨F2, q.2, k2, okR.bindO (s1.trans s2) h2 fun q3 H3 F3 _ k3 s3 m3 h3 => ?_⟩
    obtain ⟨z, e, h4⟩ := okR.ofO h3
    refine ⟨p.1, fp, z, v1.held k1 (s2.trans s3) (Nor.trans m2 m3) hc, k3.lok, e, fun zv H' fz nv => ?_⟩
    exact okR.pure h4 k3 ((s1.trans s2).trans s3) (Nor.trans m1 (Nor.trans m2 m3)) nv v1.old (fun c a ha => OW.none_of (s2.trans s3) (v1.st c a ha) (Option.ne_none_iff_exists'.mp (RepF.there _ _ _ v1.rep a ha))) rfl fun z => z

/-! ### isinstance, of built-in classes -/
def tyN : Ty → Option String
  | .int => some "int"
  | .bool => some "bool"
  | .tuple => some "tuple"
  | .str => some "str"
  | .list => some "list"
  | _ => none
theorem tyx_of {G : Gl0} {H : Hp} {p : PV} {x : V} {fp : List Addr} {t : Ty} {n : String} {b : Bool} (h : RepF G H p x fp) (hn : tyN t = some n) (e : isinst p t = some b) : ∃ tn, TyX G.K H x (.type tn) ∧ kitB tn n = some b := by
  cases p with
  | undef => exact h.elim
  | non =>
    rw [h.1]
    refine ⟨"NoneType", .base .non, ?_⟩
    cases t <;> cases hn <;> cases e <;> decide +kernel
  | bl c =>
    rw [h.1]
    refine ⟨"bool", .base (.bl c), ?_⟩
    cases t <;> cases hn <;> cases e <;> decide +kernel
  | int c =>
    rw [h.1]
    refine ⟨"int", .base (.int c), ?_⟩
    cases t <;> cases hn <;> cases e <;> decide +kernel
  | str c =>
    rw [h.1]
    refine ⟨"str", .base (.str c), ?_⟩
    cases t <;> cases hn <;> cases e <;> decide +kernel
  | tup l =>
    obtain ⟨a, vs, rfl, ha, hl⟩ := h
    refine ⟨"tuple", ?_, ?_⟩
    · rcases ha with (ha | ⟨o, ha⟩) | ⟨o, its, n, h1, h2, _⟩
      · exact .base (.tup ha)
      · exact .fTuple ha
      · exact .kTuple h1 h2
    · cases t <;> cases hn <;> cases e <;> decide +kernel
  | lst l =>
    obtain ⟨a, vs, f, rfl, ha, hl, _⟩ := h
    refine ⟨"list", .base (.lst ha), ?_⟩
    cases t <;> cases hn <;> cases e <;> decide +kernel
  | fn k => simp [isinst] at e
  | scr k => simp [isinst] at e
  | exc c k => cases t <;> first | (cases hn; done) | (simp [isinst] at e)
def rIsiP (G : Gl0) (t : Ty) : List V → Hp → VK → Prop := fun vs H Q => ∃ p x n b fp, vs = [x, .ty n] ∧ RepF G H p x fp ∧ tyN t = some n ∧ isinst p t = some b ∧ Q (.bl b) H
theorem isi_P {G : Gl0} {t : Ty} (hK : G.K = X.K) : CallR X (.builtin "isinstance") (rIsiP G t) := by
  intro pins s σ H vs us Q I rv ⟨p, x, n, b, fp, e, hp, hn, hi, q⟩
  subst e
  obtain ⟨tn, h1, h2⟩ := tyx_of hp hn hi
  exact call_isi pins s σ H _ us Q I rv ⟨x, .ty n, .type tn, .type n, b, rfl, .ty n, hK ▸ h1, kit_ty h2, q⟩
theorem ev_isi {a : Expr} {t : Ty} {n : String} {tx x : Str} {pt p pos : Pos} {eva : Env → Res (PV × Env)} (hK : R.G.K = X.K) (hg : Gl X x) (hm : X.mg x = none) (hv : bootBuiltins x = some (.builtin "isinstance")) (hnn : x ≠ "__name__") (hdb : (x == ("__debug__" : Str)) = false)
    (hgt : Gl X tx) (hmt : X.mg tx = none) (hvt : bootBuiltins tx = some (.type n)) (hnt : tx ≠ "__name__") (hdt : (tx == ("__debug__" : Str)) = false) (ht : tyN t = some n) (hs : noStar a = true) (ha : PE X a (rdE R W kd eva)) :
    PE X (.Call (.Name x p) [a, .Name tx pt] [] pos) (rdE R W ⟨true, true, true, kd.nor⟩ fun env => (eva env).bind fun r => (ofO (isinst r.1 t)).bind fun b => .ok (.bl b, r.2)) := by
  have h1 : PA X [a, .Name tx pt] (tCons (rdE R W kd eva) (tCons (tC (.ty n)) tNil)) := pa_cons ha (pa_cons (pe_bltn hgt hmt hvt rfl hnt hdt) pa_nil rfl) (star_cons hs _)
  refine PE.by (pe_callB (isi_P (t := t) hK) hg hm hv h1 hnn hdb (star_cons hs _) rfl) fun σ H Q F env k h => ?_
  refine ⟨F, env, k, okR.bind Step.refl h fun q v H2 F2 fp _ k2 s2 v2 nr h2 => ?_⟩
  obtain ⟨b, e, h3⟩ := okR.ofO h2
  exact ⟨q.1, v, n, b, fp, rfl, v2.rep, ht, e, okR.flat h3 k2 s2 nr (fun z => z) ⟨rfl, rfl⟩⟩
end
end Ev

/-! EvE9: stores into slots, targets, methods. -/
namespace Ev
open PySem PySem.Spec PyProof.Rows L2
/-- one slot's lists are other ones -/
def setF (F : Nat → List Addr) (n i : Nat) (fp : List Addr) : Nat → List Addr := fun j => if j = i ∧ i < n then fp else F j
theorem setF_same {F : Nat → List Addr} {n i : Nat} {fp : List Addr} (h : i < n) : setF F n i fp i = fp := if_pos ⟨rfl, h⟩
theorem setF_ne {F : Nat → List Addr} {n i j : Nat} {fp : List Addr} (h : j ≠ i) : setF F n i fp j = F j := if_neg fun z => h z.1
theorem setF_out {F : Nat → List Addr} {n i : Nat} {fp : List Addr} (h : ¬ i < n) : setF F n i fp = F := by
  funext j; exact if_neg fun z => h z.2
/-- behind a statement -/
structure StepS (ms : List Nat) (H : Hp) (F : Nat → List Addr) (H' : Hp) (F' : Nat → List Addr) : Prop where
  st : Stay (OW ms F) H H'
  ow : ∀ a, OW ms F' a → OW ms F a ∨ H a = none
  dom : ∀ a, H' a = none → H a = none
variable {R : Fr0} {σ : St} {H H1 H' : Hp} {F F1 F' : Nat → List Addr} {env env' : Env}
theorem Step.s (h : Step R.ms H F H' F') : StepS R.ms H F H' F' := ⟨h.st, h.ow, h.dom⟩
theorem StepS.refl : StepS R.ms H F H F := ⟨fun _ _ e _ => e, fun _ h => .inl h, fun _ e => e⟩
theorem StepS.trans (s1 : StepS R.ms H F H1 F1) (s2 : StepS R.ms H1 F1 H' F') : StepS R.ms H F H' F' where
  st := fun a o e n => s2.st a o (s1.st a o e n) fun z => by
    rcases s1.ow a z with h | h
    · exact n h
    · rw [e] at h; cases h
  ow := fun a h => by
    rcases s2.ow a h with h | h
    · exact s1.ow a h
    · exact .inr (s1.dom a h)
  dom := fun a e => s1.dom a (s2.dom a e)
theorem StepS.rep (s1 : StepS R.ms H F H1 F1) (k : EnvOk R σ H F env) {p : PV} {v : V} {fp : List Addr} (h : RepF R.G H p v fp) (n : ∀ a ∈ fp, ¬ OW R.ms F a) : RepF R.G H1 p v fp := RepF.stay s1.st k.lsts p v fp h n
theorem StepS.repL (s1 : StepS R.ms H F H1 F1) (k : EnvOk R σ H F env) {p : List PV} {v : List V} {fp : List Addr} (h : RepL R.G H p v fp) (n : ∀ a ∈ fp, ¬ OW R.ms F a) : RepL R.G H1 p v fp := RepL.stay s1.st k.lsts p v fp h n
theorem StepS.dead (s : StepS R.ms H F H1 F1) {a : Addr} (n : ¬ OW R.ms F a) (e : ∃ o, H a = some o) : ¬ OW R.ms F1 a := fun z => by
  obtain ⟨o, e⟩ := e
  rcases s.ow a z with h | h
  · exact n h
  · rw [e] at h; cases h
/-- no slot holds a new address -/
theorem EnvOk.nf (k : EnvOk R σ H F env) {a : Addr} (e : H a = none) (j : Nat) : a ∉ F j := fun hj => by
  cases ep : env.getD j .undef with
  | undef => rw [k.non j ep] at hj; simp at hj
  | _ =>
    obtain ⟨v, _, r⟩ := k.slot j _ (getD_of ep nofun) nofun
    exact RepF.there _ _ _ r a hj e
theorem EnvOk.set (k : EnvOk R σ H F env) {i : Nat} {p : PV} {v : V} {fp : List Addr} (r : RepF R.G H p v fp) (old : ∀ a ∈ fp, R.A a) (dis : ∀ j ∈ R.ms, j ≠ i → ∀ a ∈ fp, a ∉ F j)
    (own : i ∈ R.ms → fp.Nodup ∧ (∀ a ∈ fp, ∃ vs, H a = some (.lst vs)) ∧ (∀ a ∈ fp, R.H0 a = none ∨ (i = 0 ∧ R.br = true ∧ R.B a)) ∧ ∀ a ∈ fp, ∀ j, j ≠ i → a ∉ F j) (hrf : ∀ w, R.pin i = some w → w = v) :
    EnvOk R (σ.set i (some v)) H (setF F env.length i fp) (env.set i p) := by
  by_cases hi : i < env.length
  · have e1 : ∀ {j a}, a ∈ setF F env.length i fp j → (j = i ∧ a ∈ fp) ∨ (j ≠ i ∧ a ∈ F j) := fun {j a} h => by
      by_cases c : j = i
      · subst c; rw [setF_same hi] at h; exact .inl ⟨rfl, h⟩
      · rw [setF_ne c] at h; exact .inr ⟨c, h⟩
    refine ⟨by rw [List.length_set, List.length_set]; exact k.len, fun j q e n => ?_, fun j e => ?_, fun j hj => ?_, fun j hj a ha => ?_, fun j hj a ha => ?_, fun j hj l n a ha hb => ?_, fun j a ha => ?_, k.keep, k.dom, k.lok, fun j w hw => ?_⟩
    · rcases getElem?_set_undef e with ⟨rfl, rfl, _⟩ | ⟨hj, e⟩
      · exact ⟨v, by rw [List.getElem?_set_self (by rw [← k.len]; exact hi)], by rw [setF_same hi]; exact r⟩
      · rw [setF_ne hj]
        obtain ⟨w, h1, h2⟩ := k.slot j q e n
        exact ⟨w, by rw [List.getElem?_set_ne (Ne.symm hj)]; exact h1, h2⟩
    · by_cases c : j = i
      · subst c
        rw [List.getD_eq_getElem?_getD, List.getElem?_set_self hi] at e
        have e : p = .undef := e
        subst e
        exact r.elim
      · rw [setF_ne c]; exact k.non j (by rw [getD_set c] at e; exact e)
    · by_cases c : j = i
      · subst c; rw [setF_same hi]; exact (own hj).1
      · rw [setF_ne c]; exact k.nd j hj
    · rcases e1 ha with ⟨rfl, ha2⟩ | ⟨_, ha2⟩
      · exact (own hj).2.1 a ha2
      · exact k.mu j hj a ha2
    · rcases e1 ha with ⟨rfl, ha2⟩ | ⟨_, ha2⟩
      · exact (own hj).2.2.1 a ha2
      · exact k.ow j hj a ha2
    · rcases e1 ha with ⟨rfl, ha2⟩ | ⟨c, ha2⟩
      · rcases e1 hb with ⟨rfl, hb2⟩ | ⟨_, hb2⟩
        · exact n rfl
        · exact (own hj).2.2.2 a ha2 l n hb2
      · rcases e1 hb with ⟨rfl, hb2⟩ | ⟨_, hb2⟩
        · exact dis j hj c a hb2 ha2
        · exact k.dj j hj l n a ha2 hb2
    · rcases e1 ha with ⟨rfl, ha2⟩ | ⟨_, ha2⟩
      · exact old a ha2
      · exact k.old j a ha2
    · obtain ⟨h1, h2⟩ := k.rf j w hw
      refine ⟨h1, ?_⟩
      by_cases c : j = i
      · subst c
        rw [hrf w hw, List.getElem?_set_self (by rw [← k.len]; exact hi)]
      · rw [List.getElem?_set_ne (Ne.symm c)]; exact h2
  · rw [setF_out hi, List.set_eq_of_length_le (by rw [← k.len]; exact Nat.le_of_not_lt hi), List.set_eq_of_length_le (Nat.le_of_not_lt hi)]
    exact k
/-- a value that is nobody's, into a slot that owns nothing -/
theorem EnvOk.put (k : EnvOk R σ H F env) {i : Nat} {p : PV} {v : V} {fp : List Addr} (hi : i ∉ R.ms) (r : RepF R.G H p v fp) (old : ∀ a ∈ fp, R.A a) (st : ∀ a ∈ fp, ¬ OW R.ms F a) :
    EnvOk R (σ.set i (some v)) H (setF F env.length i fp) (env.set i p) := k.set r old (fun j hj _ a ha hb => st a ha ⟨j, hj, hb⟩) (fun z => absurd z hi) fun w hw => absurd (k.rf i w hw).1 hi
theorem OW_setF {ms : List Nat} {n i : Nat} {fp : List Addr} {a : Addr} (hi : i ∉ ms) : OW ms (setF F n i fp) a ↔ OW ms F a := by
  constructor
  · rintro ⟨j, hj, h⟩
    rw [setF_ne (fun z : j = i => hi (z ▸ hj))] at h
    exact ⟨j, hj, h⟩
  · rintro ⟨j, hj, h⟩
    exact ⟨j, hj, by rw [setF_ne (fun z : j = i => hi (z ▸ hj))]; exact h⟩

/-! ### targets -/
def T.sl : T → List Nat
  | .n i => [i]
  | .nil => []
  | .cons a r => a.sl ++ r.sl
def T.len : T → Nat
  | .cons _ r => r.len + 1
  | _ => 0
/-- behind the store into slots sl that own nothing -/
structure SetS (R : Fr0) (sl : List Nat) (σ : St) (F : Nat → List Addr) (env : Env) (σ' : St) (F' : Nat → List Addr) (env' : Env) : Prop where
  ow : ∀ a, OW R.ms F' a ↔ OW R.ms F a
  f : ∀ j, j ∉ sl → F' j = F j
  e : ∀ j, j ∉ sl → env'[j]? = env[j]?
  s : ∀ j, j ∉ sl → σ'[j]? = σ[j]?
theorem SetS.trans {s1 s2 : List Nat} {σ1 σ2 : St} {F2 : Nat → List Addr} {env1 env2 : Env} (a : SetS R s1 σ F env σ1 F1 env1) (b : SetS R s2 σ1 F1 env1 σ2 F2 env2) : SetS R (s1 ++ s2) σ F env σ2 F2 env2 := by
  refine ⟨fun x => (b.ow x).trans (a.ow x), fun j h => ?_, fun j h => ?_, fun j h => ?_⟩ <;> rw [List.mem_append] at h
  · rw [b.f j fun z => h (.inr z), a.f j fun z => h (.inl z)]
  · rw [b.e j fun z => h (.inr z), a.e j fun z => h (.inl z)]
  · rw [b.s j fun z => h (.inr z), a.s j fun z => h (.inl z)]
def rdG (R : Fr0) (t : T) : TG := fun v σ H Q => ∃ F env p fp env', EnvOk R σ H F env ∧ RepF R.G H p v fp ∧ (∀ a ∈ fp, R.A a) ∧ (∀ a ∈ fp, ¬ OW R.ms F a) ∧ assign t p env = some env' ∧ ∀ σ' F', EnvOk R σ' H F' env' → SetS R t.sl σ F env σ' F' env' → Q σ' H
def rdGs (R : Fr0) (t : T) : TGs := fun vs σ H Q => ∃ F env l fp env', EnvOk R σ H F env ∧ RepL R.G H l vs fp ∧ (∀ a ∈ fp, R.A a) ∧ (∀ a ∈ fp, ¬ OW R.ms F a) ∧ assign t (.tup l) env = some env' ∧ ∀ σ' F', EnvOk R σ' H F' env' → SetS R t.sl σ F env σ' F' env' → Q σ' H
section
variable {X : Cx}
theorem PG.imp {e : Expr} {t t' : TG} (h : PG X e t) (k : ∀ v σ H Q, t' v σ H Q → t v σ H Q) : PG X e t' := ⟨fun pins s σ H v u Q I r q => h.run pins s σ H v u Q I r (k v σ H Q q)⟩
theorem PGs.imp {e : List Expr} {t t' : TGs} (h : PGs X e t) (k : ∀ v σ H Q, t' v σ H Q → t v σ H Q) : PGs X e t' := ⟨fun pins s σ H v u Q I r q => h.run pins s σ H v u Q I r (k v σ H Q q)⟩
theorem tg_n {i : Nat} {x : Str} {pos : Pos} (hN : X.N.Nodup) (hi : X.N[i]? = some x) (hx : Loc X.env.scope x) (hf : X.fn x = true ∨ X.env.scope.names.lookup x = some .local) (hm : i ∉ R.ms) : PG X (.Name x pos) (rdG R (.n i)) :=
  PG.imp (pg_name hN hi hx hf) fun v σ H Q ⟨F, env, p, fp, env', k, r, old, st, e, q⟩ => by
    cases e
    exact q _ _ (k.put hm r old st) ⟨fun a => OW_setF hm, fun j h => setF_ne (by simpa [T.sl] using h), fun j h => by rw [List.getElem?_set_ne]; simpa [T.sl, eq_comm] using h, fun j h => by rw [List.getElem?_set_ne]; simpa [T.sl, eq_comm] using h⟩
theorem tgs_nil : PGs X [] (rdGs R .nil) := PGs.imp pgs_nil fun v σ H Q ⟨F, env, l, fp, env', k, r, old, st, e, q⟩ => by
  cases l with
  | nil =>
    simp only [assign, Option.some.injEq] at e
    subst e
    exact ⟨r.1, q _ _ k ⟨fun _ => .rfl, fun _ _ => rfl, fun _ _ => rfl, fun _ _ => rfl⟩⟩
  | cons x l => simp [assign] at e
theorem assignEach_cons {e : Expr} {es : List Expr} (hn : noStar e = true) (env : PySem.Env) : assignEach (e :: es) env = (false, PySem.assign e env) :: assignEach es env := by
  cases e <;> first | rfl | simp [noStar] at hn
theorem tgs_cons {a : T} {r : T} {e : Expr} {es : List Expr} (hn : noStar e = true) (h1 : PG X e (rdG R a)) (h2 : PGs X es (rdGs R r)) : PGs X (e :: es) (rdGs R (.cons a r)) :=
  PGs.imp (pgs_cons h1 h2 (by rw [assignEach_cons hn]; rfl)) fun v σ H Q ⟨F, env, l, fp, env', k, rl, old, st, e, q⟩ => by
    cases l with
    | nil => simp [Ev.assign] at e
    | cons x l =>
      obtain ⟨y, vs, f, f', rfl, rfl, r1, r2⟩ := rl
      simp only [Ev.assign, Option.bind_eq_some_iff] at e
      obtain ⟨env1, e1, e2⟩ := e
      refine ⟨y, vs, rfl, F, env, x, f, env1, k, r1, fun b hb => old b (by simp [hb]), fun b hb => st b (by simp [hb]), e1, fun σ1 F1 k1 s1 => ?_⟩
      exact ⟨F1, env1, l, f', env', k1, r2, fun b hb => old b (by simp [hb]), fun b hb => fun z => st b (by simp [hb]) ((s1.ow b).mp z), e2, fun σ2 F2 k2 s2 => q σ2 F2 k2 (s1.trans s2)⟩
theorem assign_len : ∀ {t : T} {l : List PV} {env env' : Env}, (∀ i, t ≠ .n i) → (∀ a r, t = .cons a r → True) → Ev.assign t (.tup l) env = some env' → True := fun _ _ _ => trivial
/-- a spine's length -/
def T.sp : T → Bool
  | .n _ => false
  | .nil => true
  | .cons _ r => r.sp
theorem assign_sp : ∀ {t : T} {l : List PV} {env env' : Env}, t.sp = true → Ev.assign t (.tup l) env = some env' → l.length = t.len
  | .nil, [], _, _, _, _ => rfl
  | .nil, _ :: _, _, _, _, e => by simp [Ev.assign] at e
  | .cons a r, [], _, _, _, e => by simp [Ev.assign] at e
  | .cons a r, x :: l, _, _, h, e => by
    simp only [Ev.assign, Option.bind_eq_some_iff] at e
    obtain ⟨env1, e1, e2⟩ := e
    simp [T.len, assign_sp (t := r) h e2]
theorem tg_tup {es : List Expr} {k : Nat} {t : T} {pos : Pos} (hK : R.G.K = X.K) (hc : X.calm = true) (h : PGs X es (rdGs R t)) (hsp : t.sp = true) (hn : (assignEach es X.env).length = t.len) (hst : (assignEach es X.env).findIdx? (·.1) = none) : PG X (.Tuple es k pos) (rdG R t) :=
  PG.imp (pg_tup (n := t.len) hc h hn hst) fun v σ H Q ⟨F, env, p, fp, env', k, r, old, st, e, q⟩ => by
    have sh : ∃ l, p = .tup l := by
      cases t with
      | n i => cases hsp
      | nil =>
        cases p with
        | tup l => exact ⟨l, rfl⟩
        | _ => simp [Ev.assign] at e
      | cons a r =>
        cases p with
        | tup l => exact ⟨l, rfl⟩
        | _ => simp [Ev.assign] at e
    obtain ⟨l, rfl⟩ := sh
    obtain ⟨a, vs, rfl, hs, hl⟩ := r
    exact ⟨a, vs, rfl, hK ▸ hs, by rw [hl.length]; exact assign_sp hsp e, F, env, l, fp, env', k, hl, old, st, e, q⟩

/-! ### methods -/
theorem attr_base {o : Expr} {name : Str} {env : PySem.Env} {w : Sem Value} (h : (match o with | .Call (.Name _ _) [] [] _ => false | _ => true) = true) : attributeBase o name env w = w := by
  unfold attributeBase
  split
  · simp at h
  · rfl
end
end Ev

/-! EvE10: what a loop walks. -/
namespace Ev
open PySem PySem.Spec PyProof.Rows L2
/-- an iterator yields the items, as long as what stands outside O stays -/
def ItOk (R : Fr0) (O : Addr → Prop) (H : Hp) (J : L2.It) (items : List PV) (fs : List Addr) : Prop :=
  ∃ Gp Y, Walk J items.length Gp Y ∧ (∀ H', Stay O H H' → Gp H') ∧ ∀ i H1 x H', i < items.length → Stay O H H1 → LenOk R.G.K H1 → Y i H1 x H' → ∃ p fz, items[i]? = some p ∧ NewV R.G H1 fs p false x H' fz
def OO (stb : Bool) (ms : List Nat) (F : Nat → List Addr) : Addr → Prop := if stb = true then OW ms F else fun _ => False
theorem OO_true {ms : List Nat} {F : Nat → List Addr} : OO true ms F = OW ms F := if_pos rfl
/-- the same, also where lists change that are not to be seen here -/
def ItS (R : Fr0) (stb : Bool) (F : Nat → List Addr) (H : Hp) (J : L2.It) (items : List PV) (fs : List Addr) : Prop := ∀ O : Addr → Prop, Lsts O H → (∀ a, O a → OO stb R.ms F a ∨ ¬ R.A a) → ItOk R O H J items fs
def okI (R : Fr0) (W : WXX) (stb nor : Bool) (σ : St) (H : Hp) (F : Nat → List Addr) (env : Env) (Q : L2.It → Hp → Prop) : Res (List PV × Env) → Prop
  | .ok r => ∀ J H' F' fs, EnvOk R σ H' F' r.2 → Step R.ms H F H' F' → ItS R stb F' H' J r.1 fs → (∀ a ∈ fs, R.A a) → (∀ a ∈ fs, (∃ o, H' a = some o) ∧ ¬ OW R.ms F' a) → Nor nor H F env H' F' r.2 → Q J H'
  | .raise c x env' => ∀ d H' F', EnvOk R σ H' F' env' → Step R.ms H F H' F' → ExcAt R H' c x d → W (.ref (R.cls c)) (some d) σ H'
  | .fail => False
def rdI (R : Fr0) (W : WXX) (stb nor : Bool) (ev : Env → Res (List PV × Env)) : TI := fun σ H Q => ∃ F env, EnvOk R σ H F env ∧ okI R W stb nor σ H F env Q (ev env)
variable {R : Fr0} {W : WXX} {σ : St} {H H1 H' : Hp} {F F1 F' : Nat → List Addr} {env env1 env' : Env} {own stb nor o1 s1 n1 : Bool} {kd kd1 kd2 : Kd}
theorem OO.lsts (k : EnvOk R σ H F env) : Lsts (OO stb R.ms F) H := fun a h => by
  unfold OO at h
  split at h
  · exact k.lsts a h
  · exact h.elim
theorem ItS.std {J : L2.It} {l : List PV} {fs : List Addr} (io : ItS R stb F H J l fs) (k : EnvOk R σ H F env) : ItOk R (OO stb R.ms F) H J l fs := io _ (OO.lsts k) fun _ z => .inl z
theorem ItS.no {O : Addr → Prop} {fp : List Addr} (oo : ∀ a, O a → OO true R.ms F a ∨ ¬ R.A a) (n : ∀ b ∈ fp, ¬ OW R.ms F b) (old : ∀ b ∈ fp, R.A b) : ∀ b ∈ fp, ¬ O b := fun b hb z => (oo b z).elim (fun y => n b hb (OO_true ▸ y)) fun y => y (old b hb)
theorem okI.bind {env1 : Env} {Q : L2.It → Hp → Prop} {Q1 : VK} {r : Res (PV × Env)} {k : PV × Env → Res (List PV × Env)} (s0 : Step R.ms H F H1 F1) (h : okI R W stb nor σ H F env Q (r.bind k))
    (step : ∀ q v H2 F2 fp, r = .ok q → EnvOk R σ H2 F2 q.2 → Step R.ms H1 F1 H2 F2 → ValOk R kd1 H1 F1 H2 F2 q.1 v fp → Nor kd1.nor H1 F1 env1 H2 F2 q.2 → okI R W stb nor σ H F env Q (k q) → Q1 v H2) :
    okR R W kd1 σ H1 F1 env1 Q1 r := by
  cases r with
  | ok q => exact fun v H2 F2 fp k1 k2 k3 k4 => step q v H2 F2 fp rfl k1 k2 k3 k4 h
  | raise c x e => exact fun d H2 F2 k1 k2 k3 => h d H2 F2 k1 (s0.trans k2) k3
  | fail => exact h
theorem okI.bindA {env1 : Env} {Q : L2.It → Hp → Prop} {QA : List V → Hp → Prop} {r : Res (List PV × Env)} {k : List PV × Env → Res (List PV × Env)} (s0 : Step R.ms H F H1 F1) (h : okI R W stb nor σ H F env Q (r.bind k))
    (step : ∀ q vs H2 F2 fp, r = .ok q → EnvOk R σ H2 F2 q.2 → Step R.ms H1 F1 H2 F2 → RowOk R o1 s1 H1 F1 H2 F2 q.1 vs fp → Nor n1 H1 F1 env1 H2 F2 q.2 → okI R W stb nor σ H F env Q (k q) → QA vs H2) :
    okA R W o1 s1 n1 σ H1 F1 env1 QA r := by
  cases r with
  | ok q => exact fun v H2 F2 fp k1 k2 k3 k4 => step q v H2 F2 fp rfl k1 k2 k3 k4 h
  | raise c x e => exact fun d H2 F2 k1 k2 k3 => h d H2 F2 k1 (s0.trans k2) k3
  | fail => exact h
theorem okI.ofO {α : Type} {Q : L2.It → Hp → Prop} {o : Option α} {k : α → Res (List PV × Env)} (h : okI R W stb nor σ H F env Q ((Ev.ofO o).bind k)) : ∃ x, o = some x ∧ okI R W stb nor σ H F env Q (k x) := by
  cases o with
  | none => exact h.elim
  | some x => exact ⟨x, rfl, h⟩
section
variable {X : Cx} {tg : Expr}
theorem PI.imp {e : Expr} {t t' : TI} (h : PI X tg e t) (k : ∀ σ H Q, t' σ H Q → t σ H Q) : PI X tg e t' := ⟨fun pins s σ H Q I q => h.run pins s σ H Q I (k σ H Q q)⟩
/-! ### a list or a tuple -/
def iSeq (K : PySem.W.Frag) (te : TE) : TI := fun σ H R => te σ H fun x H1 => ∃ a, x = .ref a ∧ (((∃ xs, SqL K H1 a xs) ∧ R (Itl K a) H1) ∨ ((∃ xs, SqT K H1 a xs) ∧ R (Itt K a) H1))
theorem pi_seq {l : Expr} {tl : TE} (hl : PE X l tl) : PI X tg l (iSeq X.K tl) := by
  refine ⟨fun pins s σ H R I h => ?_⟩
  refine thn (hl.run pins s σ H _ I h) fun v s1 ⟨x, H1, I1, r1, q1⟩ => ?_
  obtain ⟨a, e, q1⟩ := q1
  subst e
  cases r1
  rcases q1 with ⟨⟨xs, hq⟩, q⟩ | ⟨⟨xs, hq⟩, q⟩
  · obtain ⟨its, rv, p, hz⟩ := I1.list hq
    refine wpAny_pyIter_list p.isList ?_
    exact pi_one (tk := s1.toks) I1 _ (turn_list a _) ⟨_, Heap.get?_push_size _ rfl, rfl, rfl⟩ q
  · obtain ⟨its, rv, p, hz⟩ := I1.tuple hq
    refine wpAny_pyIter_tuple (show s1.heap.IsTuple a its.toArray from p) ?_
    exact pi_one (tk := s1.toks) I1 _ (turn_tuple a _) ⟨_, Heap.get?_push_size _ rfl, rfl, rfl⟩ q
theorem Stay.sub {O O' : Addr → Prop} (h : Stay O H H') (k : ∀ a, O a → O' a) : Stay O' H H' := fun a o e n => h a o e fun z => n (k a z)
theorem it_list {O : Addr → Prop} {l : List PV} {a : Addr} {xs : List V} {f : List Addr} (ls : Lsts O H) (ha : ¬ O a) (hs : SqL R.G.K H a xs) (r : RepL R.G H l xs f) (n : ∀ b ∈ f, ¬ O b) : ItOk R O H (Itl R.G.K a) l f := by
  refine ⟨fun H' => SqL R.G.K H' a xs, YAt xs, by rw [← r.length]; exact walk_list, fun H' st => st.sqL ha hs, fun i H1 x H' hi st lok y => ?_⟩
  obtain ⟨rfl, e⟩ := y
  have r1 := RepL.stay st ls l xs f r n
  obtain ⟨z, f', e2, r2, sub⟩ := r1.get (i := i) (x := l[i]) (by simp [hi])
  rw [e] at e2
  cases e2
  exact ⟨l[i], f', by simp [hi], NewV.part lok r2 sub⟩
theorem it_tup {O : Addr → Prop} {l : List PV} {a : Addr} {xs : List V} {f : List Addr} (ls : Lsts O H) (hs : SqT R.G.K H a xs) (r : RepL R.G H l xs f) (n : ∀ b ∈ f, ¬ O b) : ItOk R O H (Itt R.G.K a) l f := by
  refine ⟨fun H' => SqT R.G.K H' a xs, YAt xs, by rw [← r.length]; exact walk_tup, fun H' st => st.sqT ls hs, fun i H1 x H' hi st lok y => ?_⟩
  obtain ⟨rfl, e⟩ := y
  have r1 := RepL.stay st ls l xs f r n
  obtain ⟨z, f', e2, r2, sub⟩ := r1.get (i := i) (x := l[i]) (by simp [hi])
  rw [e] at e2
  cases e2
  exact ⟨l[i], f', by simp [hi], NewV.part lok r2 sub⟩
theorem RepF.seqL {K : PySem.W.Frag} {G : Gl0} (hK : G.K = K) {p : PV} {l : List PV} {v : V} {fp : List Addr} (r : RepF G H p v fp) (e : seqOf p = some l) :
    ∃ a xs f, v = .ref a ∧ RepL G H l xs f ∧ (∀ b ∈ f, b ∈ fp) ∧ ((SqL K H a xs ∧ (a ∈ fp ∨ (∃ o, H a = some (.frz o (.lst xs))) ∨ KLst K a xs)) ∨ SqT K H a xs) := by
  subst hK
  cases p with
  | tup m =>
    cases e
    obtain ⟨a, xs, rfl, hs, hl⟩ := r
    exact ⟨a, xs, fp, rfl, hl, fun _ z => z, .inr hs⟩
  | lst m =>
    cases e
    obtain ⟨a, xs, f, rfl, hs, hl, rfl⟩ := r
    exact ⟨a, xs, f, rfl, hl, fun b z => by simp [z], .inl ⟨.of hs, .inl (by simp)⟩⟩
  | scr m =>
    cases e
    obtain ⟨a, xs, rfl, hs, hl, rfl⟩ := r
    refine ⟨a, xs, [], rfl, hl, fun _ z => z, .inl ⟨?_, .inr hs⟩⟩
    rcases hs with ⟨o, h⟩ | h
    · exact .inl (.inr ⟨o, h⟩)
    · exact .inr h
  | _ => cases e
theorem Stay.klst {O : Addr → Prop} (st : Stay O H H') (ls : Lsts O H) {K : PySem.W.Frag} {a : Addr} {xs : List V} (h : (∃ o, H a = some (.frz o (.lst xs))) ∨ KLst K a xs) : SqL K H' a xs := by
  rcases h with ⟨o, h⟩ | h
  · refine .inl (.inr ⟨o, st a _ h fun z => ?_⟩)
    obtain ⟨vs, e⟩ := ls a z
    rw [h] at e; cases e
  · exact .inr h
/-- a script -/
theorem it_klst {O : Addr → Prop} {l : List PV} {a : Addr} {xs : List V} {f : List Addr} (ls : Lsts O H) (hs : (∃ o, H a = some (.frz o (.lst xs))) ∨ KLst R.G.K a xs) (r : RepL R.G H l xs f) (n : ∀ b ∈ f, ¬ O b) : ItOk R O H (Itl R.G.K a) l f := by
  refine ⟨fun H' => SqL R.G.K H' a xs, YAt xs, by rw [← r.length]; exact walk_list, fun H' st => st.klst ls hs, fun i H1 x H' hi st lok y => ?_⟩
  obtain ⟨rfl, e⟩ := y
  have r1 := RepL.stay st ls l xs f r n
  obtain ⟨z, f', e2, r2, sub⟩ := r1.get (i := i) (x := l[i]) (by simp [hi])
  rw [e] at e2
  cases e2
  exact ⟨l[i], f', by simp [hi], NewV.part lok r2 sub⟩
theorem evi_e {e : Expr} {ev : Env → Res (PV × Env)} (hK : R.G.K = X.K) (he : PE X e (rdE R W kd ev)) (hs : kd.stb = true) : PI X tg e (rdI R W true kd.nor fun env => (ev env).bind fun r => (ofO (seqOf r.1)).bind fun l => .ok (l, r.2)) :=
  PI.imp (pi_seq he) fun σ H Q ⟨F, env, k, h⟩ => by
    refine ⟨F, env, k, okI.bind Step.refl h fun q v H2 F2 fp _ k2 s2 v2 nr h2 => ?_⟩
    obtain ⟨l, e1, h3⟩ := okI.ofO h2
    obtain ⟨a, xs, f, rfl, hl, hf, hq⟩ := v2.rep.seqL hK e1
    have n : ∀ b ∈ f, ¬ OW R.ms F2 b := fun b hb => v2.st hs b (hf b hb)
    rcases hq with ⟨hq, w⟩ | hq
    · refine ⟨a, rfl, .inl ⟨⟨xs, hq⟩, h3 _ H2 F2 f k2 s2 ?_ (fun b hb => v2.old b (hf b hb)) (fun b hb => ⟨Option.ne_none_iff_exists'.mp (RepL.there _ _ _ hl b hb), n b hb⟩) nr⟩⟩
      rw [← hK] at hq w ⊢
      intro O ls oo
      have nO := ItS.no oo (v2.st hs) v2.old
      rcases w with w | w
      · exact it_list ls (nO a w) hq hl fun b hb => nO b (hf b hb)
      · exact it_klst ls w hl fun b hb => nO b (hf b hb)
    · refine ⟨a, rfl, .inr ⟨⟨xs, hq⟩, h3 _ H2 F2 f k2 s2 ?_ (fun b hb => v2.old b (hf b hb)) (fun b hb => ⟨Option.ne_none_iff_exists'.mp (RepL.there _ _ _ hl b hb), n b hb⟩) nr⟩⟩
      rw [← hK] at hq ⊢
      exact fun O ls oo => it_tup ls hq hl fun b hb => ItS.no oo (v2.st hs) v2.old b (hf b hb)
/-- a row that some slot owns, its items without lists; the body changes nothing -/
theorem evi_m {e : Expr} {ev : Env → Res (PV × Env)} (hK : R.G.K = X.K) (he : PE X e (rdE R W kd ev)) : PI X tg e (rdI R W false kd.nor fun env => (ev env).bind fun r => (ofO (seqOf r.1)).bind fun l => if PV.lfs l = true then .ok (l, r.2) else .fail) :=
  PI.imp (pi_seq he) fun σ H Q ⟨F, env, k, h⟩ => by
    refine ⟨F, env, k, okI.bind Step.refl h fun q v H2 F2 fp _ k2 s2 v2 nr h2 => ?_⟩
    obtain ⟨l, e1, h3⟩ := okI.ofO h2
    by_cases c : PV.lfs l = true
    · rw [if_pos c] at h3
      obtain ⟨a, xs, f, rfl, hl, hf, hq⟩ := v2.rep.seqL hK e1
      have e2 : f = [] := RepL.lf _ _ _ hl c
      subst e2
      rcases hq with ⟨hq, w⟩ | hq
      · refine ⟨a, rfl, .inl ⟨⟨xs, hq⟩, h3 _ H2 F2 [] k2 s2 ?_ (fun b hb => by simp at hb) (fun b hb => by simp at hb) nr⟩⟩
        rw [← hK] at hq w ⊢
        intro O ls oo
        rcases w with w | w
        · exact it_list ls (fun z => (oo a z).elim (fun y => y) fun y => y (v2.old a w)) hq hl fun b hb => by simp at hb
        · exact it_klst ls w hl fun b hb => by simp at hb
      · refine ⟨a, rfl, .inr ⟨⟨xs, hq⟩, h3 _ H2 F2 [] k2 s2 ?_ (fun b hb => by simp at hb) (fun b hb => by simp at hb) nr⟩⟩
        rw [← hK] at hq ⊢
        exact fun O ls oo => it_tup ls hq hl fun b hb => by simp at hb
    · rw [if_neg c] at h3
      exact h3.elim
/-! ### ranges -/
theorem rng_len {a : Int} : ∀ {n : Nat}, (rng a n).length = n
  | 0 => rfl
  | n + 1 => by simp [rng, rng_len (n := n)]
theorem rng_get {a : Int} : ∀ {n i : Nat}, i < n → (rng a n)[i]? = some (.int (a + i))
  | n + 1, 0, _ => by simp [rng]
  | n + 1, i + 1, h => by
    simp only [rng, List.getElem?_cons_succ]
    rw [rng_get (a := a + 1) (n := n) (i := i) (by omega)]
    congr 2
    omega
theorem rngC_len {a c : Int} : ∀ {n : Nat}, (rngC a c n).length = n
  | 0 => rfl
  | n + 1 => by simp [rngC, rngC_len (n := n)]
theorem rngC_get {a c : Int} : ∀ {n i : Nat}, i < n → (rngC a c n)[i]? = some (.int (a + (i : Nat) * c))
  | n + 1, 0, _ => by simp [rngC]
  | n + 1, i + 1, h => by
    simp only [rngC, List.getElem?_cons_succ]
    rw [rngC_get (a := a + c) (n := n) (i := i) (by omega)]
    congr 2
    rw [show (((i + 1 : Nat) : Int)) = (i : Int) + 1 by omega, Int.add_mul, Int.one_mul]
    omega
theorem it_rng {O : Addr → Prop} {lo : Int} {n : Nat} : ItOk R O H (Itr lo n) (rng lo n) [] := by
  refine ⟨fun _ => True, YFn fun i => .int (lo + i), by rw [rng_len]; exact walk_range, fun _ _ => trivial, fun i H1 x H' hi st lok y => ?_⟩
  obtain ⟨rfl, rfl⟩ := y
  rw [rng_len] at hi
  exact ⟨_, [], rng_get hi, NewV.flat lok ⟨rfl, rfl⟩⟩
theorem it_rngC {O : Addr → Prop} {lo c : Int} {n : Nat} : ItOk R O H (Itc lo c n) (rngC lo c n) [] := by
  refine ⟨fun _ => True, YFn fun i => .int (lo + (i : Nat) * c), by rw [rngC_len]; exact walk_rangeC, fun _ _ => trivial, fun i H1 x H' hi st lok y => ?_⟩
  obtain ⟨rfl, rfl⟩ := y
  rw [rngC_len] at hi
  exact ⟨_, [], rngC_get hi, NewV.flat lok ⟨rfl, rfl⟩⟩
theorem small62_iff {i : Int} : small62 i = true ↔ -(2 ^ 62) ≤ i ∧ i < 2 ^ 62 := by
  unfold small62
  rw [Bool.and_eq_true, decide_eq_true_eq, decide_eq_true_eq]
  constructor <;> rintro ⟨h1, h2⟩ <;> constructor <;> omega
def evRng (ev : Env → Res (List PV × Env)) : Env → Res (List PV × Env) := fun env => (ev env).bind fun r => (ofO (ranges r.1)).bind fun l => .ok (l, r.2)
theorem evi_rng1 {a : Expr} {p pos : Pos} {ev : Env → Res (List PV × Env)} (hg : Gl X "range") (hm : X.mg "range" = none) (ha : PA X [a] (rdA R W o1 s1 n1 ev)) (hl : ∀ env r, ev env = .ok r → r.1.length = 1) (hn : noStar a = true) :
    PI X tg (.Call (.Name "range" p) [a] [] pos) (rdI R W stb n1 (evRng ev)) :=
  PI.imp (pi_range1 hg hm ha (star_cons hn _)) fun σ H Q ⟨F, env, k, h⟩ => by
    refine ⟨F, env, k, okI.bindA Step.refl h fun q vs H2 F2 fp e0 k2 s2 v2 nr h2 => ?_⟩
    obtain ⟨l, e1, h3⟩ := okI.ofO h2
    have hl1 := hl env q e0
    obtain ⟨ps, env2⟩ := q
    match ps, hl1 with
    | [p1], _ =>
      cases p1 with
      | int j =>
        obtain ⟨v, e, r⟩ := RepL.one_inv v2.rep
        subst e
        obtain ⟨rfl, rfl⟩ := r
        simp only [ranges] at e1
        split at e1
        · rename_i c
          cases e1
          obtain ⟨c1, c2⟩ := small62_iff.mp c
          exact ⟨j, rfl, c1, c2, h3 _ H2 F2 [] k2 s2 (fun _ _ _ => it_rng) (fun b hb => by simp at hb) (fun b hb => by simp at hb) nr⟩
        · cases e1
      | _ => simp [ranges] at e1
theorem evi_rng2 {a b : Expr} {p pos : Pos} {ev : Env → Res (List PV × Env)} (hg : Gl X "range") (hm : X.mg "range" = none) (ha : PA X [a, b] (rdA R W o1 s1 n1 ev)) (hl : ∀ env r, ev env = .ok r → r.1.length = 2) (hn : noStar a = true) (hn2 : noStar b = true) :
    PI X tg (.Call (.Name "range" p) [a, b] [] pos) (rdI R W stb n1 (evRng ev)) :=
  PI.imp (pi_range2 hg hm ha (by rw [star_cons hn, star_cons hn2]; rfl) (by rw [star_cons hn2]; rfl)) fun σ H Q ⟨F, env, k, h⟩ => by
    refine ⟨F, env, k, okI.bindA Step.refl h fun q vs H2 F2 fp e0 k2 s2 v2 nr h2 => ?_⟩
    obtain ⟨l, e1, h3⟩ := okI.ofO h2
    have hl1 := hl env q e0
    obtain ⟨ps, env2⟩ := q
    match ps, hl1 with
    | [p1, p2], _ =>
      cases p1 with
      | int i =>
        cases p2 with
        | int j =>
          obtain ⟨v, w, f1, f2, e, _, r, r'⟩ := RepL.two_inv v2.rep
          subst e
          obtain ⟨rfl, rfl⟩ := r
          obtain ⟨rfl, rfl⟩ := r'
          simp only [ranges] at e1
          split at e1
          · rename_i c
            cases e1
            obtain ⟨c, d⟩ := Bool.and_eq_true_iff.mp c
            obtain ⟨c1, c2⟩ := small62_iff.mp c
            obtain ⟨d1, d2⟩ := small62_iff.mp d
            exact ⟨i, j, rfl, ⟨c1, c2, d1, d2⟩, h3 _ H2 F2 [] k2 s2 (fun _ _ _ => it_rng) (fun b hb => by simp at hb) (fun b hb => by simp at hb) nr⟩
          · cases e1
        | _ => simp [ranges] at e1
      | _ => simp [ranges] at e1
theorem evi_rng3 {a b c : Expr} {p pos : Pos} {ev : Env → Res (List PV × Env)} (hg : Gl X "range") (hm : X.mg "range" = none) (ha : PA X [a, b, c] (rdA R W o1 s1 n1 ev)) (hl : ∀ env r, ev env = .ok r → r.1.length = 3) (hn : noStar a = true) (hn2 : noStar b = true) (hn3 : noStar c = true) :
    PI X tg (.Call (.Name "range" p) [a, b, c] [] pos) (rdI R W stb n1 (evRng ev)) :=
  PI.imp (pi_range3 hg hm ha (star_cons hn _) (by rw [star_cons hn2, star_cons hn3]; rfl)) fun σ H Q ⟨F, env, k, h⟩ => by
    refine ⟨F, env, k, okI.bindA Step.refl h fun q vs H2 F2 fp e0 k2 s2 v2 nr h2 => ?_⟩
    obtain ⟨l, e1, h3⟩ := okI.ofO h2
    have hl1 := hl env q e0
    obtain ⟨ps, env2⟩ := q
    match ps, hl1 with
    | [p1, p2, p3], _ =>
      cases p1 with
      | int i =>
        cases p2 with
        | int j =>
          cases p3 with
          | int c =>
            obtain ⟨v, vs1, f1, g1, rfl, e2, r, r'⟩ := v2.rep
            obtain ⟨w, vs2, f2, g2, rfl, e3, r2, r2'⟩ := r'
            obtain ⟨u, e4, r3⟩ := RepL.one_inv r2'
            subst e4
            obtain ⟨rfl, rfl⟩ := r
            obtain ⟨rfl, rfl⟩ := r2
            obtain ⟨rfl, _⟩ := r3
            simp only [ranges] at e1
            split at e1
            · rename_i cc
              cases e1
              simp only [Bool.and_eq_true, decide_eq_true_eq] at cc
              obtain ⟨⟨c1, d1⟩, rfl⟩ := cc
              obtain ⟨c1, c2⟩ := small62_iff.mp c1
              obtain ⟨d1, d2⟩ := small62_iff.mp d1
              exact ⟨i, j, -1, _, rfl, RgC.neg c1 c2 d1 d2, h3 _ H2 F2 [] k2 s2 (fun _ _ _ => it_rngC) (fun b hb => by simp at hb) (fun b hb => by simp at hb) nr⟩
            · cases e1
          | _ => simp [ranges] at e1
        | _ => simp [ranges] at e1
      | _ => simp [ranges] at e1
end
end Ev

/-! EvE11: zip, enumerate, range with a step; methods of lists. -/
namespace Ev
open PySem PySem.Spec PyProof.Rows L2 RZ
variable {R : Fr0} {W : WXX} {σ : St} {H H1 H' : Hp} {F F1 F' : Nat → List Addr} {env env1 env' : Env} {own stb nor o1 s1 n1 : Bool} {kd kd1 kd2 : Kd}
theorem zips_len : ∀ {l r : List PV}, (zips l r).length = min l.length r.length
  | [], _ => by simp [zips]
  | _ :: _, [] => by simp [zips]
  | x :: l, y :: r => by simp [zips, zips_len (l := l) (r := r), Nat.succ_min_succ]
theorem zips_get : ∀ {l r : List PV} {i : Nat} {x y : PV}, l[i]? = some x → r[i]? = some y → (zips l r)[i]? = some (.tup [x, y])
  | [], _, _, _, _, e, _ => by simp at e
  | _ :: _, [], _, _, _, _, e => by simp at e
  | a :: l, b :: r, 0, x, y, e1, e2 => by
    simp at e1 e2
    subst e1 e2
    simp [zips]
  | a :: l, b :: r, i + 1, x, y, e1, e2 => by
    simp only [zips, List.getElem?_cons_succ] at e1 e2 ⊢
    exact zips_get e1 e2
theorem pairs_len : ∀ {l : List PV} {n : Int}, (pairs n l).length = l.length
  | [], _ => rfl
  | x :: l, n => by simp [pairs, pairs_len (l := l)]
theorem pairs_get : ∀ {l : List PV} {n : Int} {i : Nat} {x : PV}, l[i]? = some x → (pairs n l)[i]? = some (.tup [.int (n + i), x])
  | [], _, _, _, e => by simp at e
  | a :: l, n, 0, x, e => by
    simp at e
    subst e
    simp [pairs]
  | a :: l, n, i + 1, x, e => by
    simp only [pairs, List.getElem?_cons_succ] at e ⊢
    rw [pairs_get e]
    congr 4
    omega
theorem RepL.pair {x y : PV} {v w : V} {f g : List Addr} (h : RepF R.G H x v f) (k : RepF R.G H y w g) : RepL R.G H [x, y] [v, w] (f ++ g) := RepL.cons h (RepL.one k)
theorem it_pair {O : Addr → Prop} {J : L2.It} {l r : List PV} {xs ys : List V} {f g : List Addr} {Gp : Hp → Prop} (ls : Lsts O H) (rl : RepL R.G H l xs f) (rr : RepL R.G H r ys g) (n : ∀ b ∈ f ++ g, ¬ O b)
    (w : Walk J (min l.length r.length) Gp (YPair (fun i => xs[i]?) (fun i => ys[i]?))) (hg : ∀ H', Stay O H H' → Gp H') : ItOk R O H J (zips l r) (f ++ g) := by
  refine ⟨Gp, YPair (fun i => xs[i]?) (fun i => ys[i]?), by rw [zips_len]; exact w, hg, fun i H1 x H' hi st lok y => ?_⟩
  rw [zips_len] at hi
  obtain ⟨t, v, u, rfl, ht, rfl, e1, e2⟩ := y
  have r1 := RepL.stay st ls l xs f rl fun b hb => n b (by simp [hb])
  have r2 := RepL.stay st ls r ys g rr fun b hb => n b (by simp [hb])
  obtain ⟨z, f', e3, q1, s1⟩ := r1.get (i := i) (x := l[i]'(by omega)) (by simp)
  obtain ⟨z2, g', e4, q2, s2⟩ := r2.get (i := i) (x := r[i]'(by omega)) (by simp)
  have e1 : xs[i]? = some v := e1
  have e2 : ys[i]? = some u := e2
  rw [e1] at e3; cases e3
  rw [e2] at e4; cases e4
  refine ⟨.tup [l[i]'(by omega), r[i]'(by omega)], f' ++ g', zips_get (by simp) (by simp), NewV.tup lok ht (RepL.pair q1 q2) (by show 2 ≤ sizeLine; decide) fun b hb => ?_⟩
  rcases List.mem_append.mp hb with z | z
  · exact List.mem_append_left _ (s1 b z)
  · exact List.mem_append_right _ (s2 b z)
section
variable {X : Cx}
theorem walk_zipT {K : PySem.W.Frag} {a b : Addr} {xs ys : List V} {n : Nat} (hn : n = min xs.length ys.length) : Walk (ItzT K a b) n (fun H => SqT K H a xs ∧ SqT K H b ys) (YPair (fun i => xs[i]?) (fun i => ys[i]?)) := by
  subst hn
  refine ⟨fun i _ hi q => ?_, fun _ q => ⟨xs, ys, q.1, q.2, by omega⟩, fun i H v H' _ q y => ?_⟩
  · have h1 : i < xs.length := by omega
    have h2 : i < ys.length := by omega
    exact ⟨xs, ys, xs[i], ys[i], q.1, q.2, by simp [h1], by simp [h2]⟩
  · obtain ⟨T, x, z, h1, h2, h3, h4, h5⟩ := y
    exact ⟨T, x, z, h1, h2, h3, h4 xs q.1, h5 ys q.2⟩
def evZip (ev : Env → Res (List PV × Env)) : Env → Res (List PV × Env) := fun env => (ev env).bind fun r => match r.1 with
  | [x, y] => (ofO (zip2 x y)).bind fun l => .ok (l, r.2)
  | _ => .fail
theorem evi_zip {a b : Expr} {p pos tpos : Pos} {elts : List Expr} {kk : Nat} {ev : Env → Res (List PV × Env)} (hK : R.G.K = X.K) (hg : Gl X "zip") (hm : X.mg "zip" = none) (ha : PA X [a, b] (rdA R W o1 true n1 ev)) (hn : noStar a = true) (hn2 : noStar b = true) :
    PI X (.Tuple elts kk tpos) (.Call (.Name "zip" p) [a, b] [] pos) (rdI R W true n1 (evZip ev)) :=
  PI.imp (pi_zipA hg hm ha (by rw [star_cons hn]) (by rw [star_cons hn2]; rfl)) fun σ H Q ⟨F, env, k, h⟩ => by
    refine ⟨F, env, k, okI.bindA Step.refl h fun q vs H2 F2 fp e0 k2 s2 v2 nr h2 => ?_⟩
    obtain ⟨ps, env2⟩ := q
    match ps with
    | [x, y] =>
      obtain ⟨l, e1, h3⟩ := okI.ofO h2
      obtain ⟨v, w, f1, f2, e, e', r, r'⟩ := RepL.two_inv v2.rep
      subst e e'
      have n := v2.st rfl
      have ol := v2.old
      have th : ∀ {l : List PV} {vs : List V} (f : List Addr) b, RepL R.G H2 l vs f → b ∈ f → ∃ o, H2 b = some o := fun f b r hb => Option.ne_none_iff_exists'.mp (RepL.there _ _ _ r b hb)
      cases x with
      | tup m =>
        cases y with
        | tup m2 =>
          cases e1
          obtain ⟨a1, xs, rfl, ha1, r1⟩ := r
          obtain ⟨a2, ys, rfl, ha2, r2⟩ := r'
          refine ⟨a1, a2, xs, ys, rfl, .inr ⟨hK ▸ ha1, hK ▸ ha2, h3 _ H2 F2 _ k2 s2 (fun O ls oo => it_pair (Gp := fun H => SqT R.G.K H a1 xs ∧ SqT R.G.K H a2 ys) ls r1 r2 (ItS.no oo n ol) (by rw [← hK]; exact walk_zipT (by rw [r1.length, r2.length])) fun H' st => ⟨st.sqT ls ha1, st.sqT ls ha2⟩) ol (fun b hb => ⟨th _ b (r1.append r2) hb, n b hb⟩) nr⟩⟩
        | _ => cases e1
      | lst m =>
        cases y with
        | lst m2 =>
          cases e1
          obtain ⟨a1, xs, g1, rfl, ha1, r1, rfl⟩ := r
          obtain ⟨a2, ys, g2, rfl, ha2, r2, rfl⟩ := r'
          have sub : ∀ b ∈ g1 ++ g2, b ∈ (a1 :: g1) ++ (a2 :: g2) := fun b hb => by
            rcases List.mem_append.mp hb with z | z <;> simp [z]
          refine ⟨a1, a2, xs, ys, rfl, .inl ⟨.of ha1, .of ha2, h3 _ H2 F2 (g1 ++ g2) k2 s2 (fun O ls oo => it_pair (Gp := fun H => SqL R.G.K H a1 xs ∧ SqL R.G.K H a2 ys) ls r1 r2 (fun b hb => ItS.no oo n ol b (sub b hb)) (by rw [← hK]; exact walk_zip (by rw [r1.length, r2.length])) fun H' st => ⟨st.sqL (ItS.no oo n ol a1 (by simp)) (.of ha1), st.sqL (ItS.no oo n ol a2 (by simp)) (.of ha2)⟩) (fun b hb => ol b (sub b hb)) (fun b hb => ⟨th _ b (r1.append r2) hb, n b (sub b hb)⟩) nr⟩⟩
        | _ => cases e1
      | _ => cases e1
    | [] => exact h2.elim
    | [_] => exact h2.elim
    | _ :: _ :: _ :: _ => exact h2.elim
/-! ### enumerate -/
theorem meets_enumerate_newT (l : Addr) (items : Array Value) (n : Nat) (dct : Option Addr) (sl : Array (Option Value)) :
    Meets (Builtin.«enumerate.__new__» ⟨[.type "enumerate", .ref l], []⟩) (fun _ R s => s.heap.get? l = some { cls := .type "tuple", dict := dct, data := .seq items n, slots := sl } ∧
      R (.ok (.ret (.ref (s.heap.push { cls := .type "tuple_iterator", data := .fields #[.ref l, .int 0 0] }).objs.size)))
        { s with heap := (s.heap.push { cls := .type "tuple_iterator", data := .fields #[.ref l, .int 0 0] }).push { cls := .type "enumerate", data := .fields #[.none, .bool false, .ref s.heap.objs.size, rawInt 0, .none, .none] } }) :=
  .of_wp fun prog w A R s h => by
    obtain ⟨hp, g, d, tk, os⟩ := s; obtain ⟨hl, h⟩ := h
    have hsub := sub_enumerate
    have hL : Heap.IsTuple (Shared.heap ⟨hp, g, d, tk, os⟩) l items := ⟨_, hl, rfl, n, rfl⟩
    wp_walk using AutoSeq1.wpAny_loadPart' hl
    refine wpAny_stack_any fun st => wpAny_pure ?_
    split
    · rename_i c _ _ _ _ _
      cases (c == Value.type "enumerate")
      · wp_walk using AutoSeq1.wpAny_loadPart' hl, wpAny_pyIter_tuple hL
        exact ⟨_, rfl, h⟩
      · wp_walk using AutoSeq1.wpAny_loadPart' hl, wpAny_pyIter_tuple hL
        exact ⟨_, rfl, h⟩
    · wp_walk using AutoSeq1.wpAny_loadPart' hl, wpAny_pyIter_tuple hL
      exact ⟨_, rfl, h⟩
theorem call_enumerate_tuple {prog : Program} {w : World} {A : Around} {E : Value → Shared → Prop} {s : Shared} {l : Addr} {items : Array Value} {Q : Value → Shared → Prop} (hL : s.heap.IsTuple l items)
    (h : ∀ h', IsEnum h' (s.heap.objs.size + 1) s.heap.objs.size 0 .none → h'.IsTupleIter s.heap.objs.size l 0 → h'.objs.size = s.heap.objs.size + 2 →
      (∀ b o, s.heap.get? b = some o → h'.get? b = some o) → Q (.ref (s.heap.objs.size + 1)) { s with heap := h' }) :
    wpAny (model prog w) A (call (.type "enumerate") [.ref l]) Q E s := by
  obtain ⟨⟨c, dct, dt, sl⟩, hl, hc, n, hd⟩ := hL
  replace hc : c = .type "tuple" := hc
  replace hd : dt = .seq items n := hd
  subst hc hd
  refine callType_new PySem.F.called_enumerate (by decide) (PySem.F.typeCall_enumerate_1 _) (PySem.F.newCall_enumerate_1 _) (fun obj => PySem.F.args_object_init_2 obj _) PySem.F.entry_enumerate_new
    (meets_enumerate_newT l items n dct sl) ⟨hl, ?_⟩
  have hz : (s.heap.push { cls := .type "tuple_iterator", data := .fields #[.ref l, .int 0 0] }).objs.size = s.heap.objs.size + 1 := Heap.size_push ..
  show _ ∧ _
  rw [hz]
  have he : IsEnum ((s.heap.push { cls := .type "tuple_iterator", data := .fields #[.ref l, .int 0 0] }).push
      { cls := .type "enumerate", data := .fields #[.none, .bool false, .ref s.heap.objs.size, rawInt 0, .none, .none] }) (s.heap.objs.size + 1) s.heap.objs.size 0 .none := by
    have := Heap.get?_push_size (s.heap.push { cls := .type "tuple_iterator", data := .fields #[.ref l, .int 0 0] })
      (o := { cls := .type "enumerate", data := .fields #[.none, .bool false, .ref s.heap.objs.size, rawInt 0, .none, .none] }) rfl
    rw [hz] at this; exact this
  refine ⟨⟨_, he, rfl⟩, h _ he ⟨_, Heap.get?_push_of_some _ (Heap.get?_push_size _ rfl), rfl, rfl⟩ (by rw [Heap.size_push, hz]) fun b o x => Heap.get?_push_of_some _ (Heap.get?_push_of_some _ x)⟩
theorem tend {prog : Program} {w : World} {A : Around} {E : Value → Shared → Prop} {s : Shared} {e it t : Addr} {i : Nat} {items : Array Value} {old : Value} {k : Int} {Q : Option Value → Shared → Prop} (hh : A.in1.handled = none) (he : IsEnum s.heap e it k old) (hit : s.heap.IsTupleIter it t i) (ht : s.heap.IsTuple t items) (hx : items[i]? = none)
    (hQ : ∀ h', Heap.ExtBut it s.heap h' → Q none { s with heap := h' }) : wpAny (model prog w) A (pyNext (.ref e)) Q E s := by
  have hT : s.TypeIs (.ref e) "enumerate" := ⟨_, he, rfl⟩
  unfold pyNext
  refine wpAny_bind (wpAny_attempt (wpAny_callSpecial?_slot (name := Str.ofString "__next__") hT PySem.F.slot_enumerate_next
    (wpAny_call_entry PySem.F.slot_enumerate_next hT PySem.F.entry_enumerate_next ?_ (PySem.F.args_enumerate_next_1 _))))
  show wpAny _ _ (field (.ref e) 2 >>= _) _ _ _
  refine wpAny_bind (wpAny_field he rfl (x := .ref it) rfl ?_)
  refine wpAny_bind (wpAny_nextOf_tuple_end hh hit ht hx fun h' x he' hx' => ?_)
  obtain ⟨o, ho, hc⟩ := hx'
  refine wpAny_bind (wpAny_isInstance (T := "StopIteration") (b := true) ⟨o, ho, hc⟩ isSubtype_stop ?_)
  exact wpAny_pure (hQ _ he')
/-- the tuple at a, each item in a new pair -/
def IteT (K : PySem.W.Frag) (a : Addr) : L2.It :=
  ⟨fun i H => ∃ (xs : List V) (x : V), SqT K H a xs ∧ xs[i]? = some x, fun i H v H' => ∃ T x, v = .ref T ∧ H T = none ∧ H' = upd H T (.tup [.int (i : Nat), x]) ∧ ∀ xs, SqT K H a xs → xs[i]? = some x, fun i H => ∃ xs : List V, SqT K H a xs ∧ xs.length ≤ i⟩
theorem turn_enumT {P : Program} {w : World} {K : PySem.W.Frag} {elts : List Expr} {kk : Nat} {tpos : Pos} (a e it : Addr) (hai : a ≠ it) (hea : e ≠ a) :
    Turn P w K (.Tuple elts kk tpos) (IteT K a) [e, it] e (fun i h => (∃ old, IsEnum h e it ((i : Nat) : Int) old) ∧ h.IsTupleIter it a i ∧ e ≠ it) where
  mem := by simp
  obj := fun i h st b hb => by
    obtain ⟨⟨old, he⟩, ⟨o, ho, hc, hd⟩, _⟩ := st
    have e' : b = e ∨ b = it := by simpa using hb
    rcases e' with z | z
    · rw [z]; exact ⟨_, he, fun v q => nomatch q⟩
    · rw [z]; exact ⟨o, ho, fun v q => by rw [hd] at q; cases q⟩
  keep := fun i h h' st k => let ⟨⟨old, he⟩, hi, hne⟩ := st; ⟨⟨old, k e (by simp) _ he⟩, hi.at fun o q => k it (by simp) o q, hne⟩
  item := by
    intro X hP hw hK hc i pins s σ H E I hf st hg
    subst hP hw hK
    obtain ⟨⟨old, he⟩, hit, hne⟩ := st
    obtain ⟨xs, x, hq, hx⟩ := hg
    obtain ⟨its, rv, p, hz⟩ := I.tuple hq
    obtain ⟨u, hu, ru⟩ := rv.get hx
    have hel : e < s.heap.objs.size := Heap.lt_size he
    have hil : it < s.heap.objs.size := by obtain ⟨_, q, _⟩ := hit; exact Heap.lt_size q
    have hlt : i < its.toArray.size := by
      have := (List.getElem?_eq_some_iff.mp hu).1
      simpa using this
    refine wpAny_pyNext_enum_itemD (Draws.tuple (A := X.A.in1) (show X.A.in1.handled = none from I.ok.hd hc) it a hai its.toArray) he ⟨hit, p⟩ hlt hne (by simp [hne, hea]) fun u' h' tk hP ho hst' hT hsz hk => ?_
    have e0 : u' = u := by
      have h1 : its[i]? = some u' := by simpa using hP
      rw [hu] at h1
      cases h1
      rfl
    subst e0
    obtain ⟨hit', _⟩ := hst'
    refine ⟨_, rfl, wpAny_letOwnedTupleGo_enum (s := { s with heap := h', toks := tk + 1 }) ho fun h'' he' sb => ?_⟩
    have hT2 : h''.get? s.heap.objs.size = some { cls := .type "tuple", data := .seq #[.int i tk, u'] } := (sb.2 _ (Nat.ne_of_gt hel)).trans hT
    have new : ObjOk X.prog X.w (upd H s.heap.objs.size (.tup [.int (i : Nat), x])) h'' s.heap.objs.size (.tup [.int (i : Nat), x]) :=
      ⟨by show 2 ≤ sizeLine; decide, [.int i tk, u'], .cons ⟨_, rfl⟩ (.cons ru .nil), ⟨_, hT2, rfl, _, rfl⟩⟩
    have I1 : Inv X pins σ (upd H s.heap.objs.size (.tup [.int (i : Nat), x])) { s with heap := h'', toks := tk + 1 } :=
      I.turnedNew (ch := [e, it]) (fun b ob hb q => (sb.2 b (fun z => hb (by simp [z]))).trans (hk b ob (fun z => hb (by simp [z])) (fun z => hb (by simp [z])) q)) hf (Nat.le_refl _) new
    refine ⟨.ref s.heap.objs.size, _, I1, rfl, ⟨_, x, rfl, I.hok.fresh (Nat.le_refl _), rfl, fun ys hy => by rw [I.tuple_inj hy hq]; exact hx⟩, ⟨⟨u', ?_⟩, hit'.at fun o q => (sb.2 it (Ne.symm hne)).trans q, hne⟩, fun b hb => ?_⟩
    · have e1 : ((i + 1 : Nat) : Int) = (i : Int) + 1 := by omega
      rw [e1]; exact he'
    · have hb' : b < s.heap.objs.size := by
        have e' : b = e ∨ b = it := by simpa using hb
        rcases e' with z | z
        · rw [z]; exact hel
        · rw [z]; exact hil
      rw [upd_ne (Nat.ne_of_lt hb')]
      exact (hf b hb).1
  done := by
    intro X hP hw hK hc i pins s σ H E I hf st hg
    subst hP hw hK
    obtain ⟨⟨old, he⟩, hit, hne⟩ := st
    obtain ⟨xs, hq, hx⟩ := hg
    obtain ⟨its, rv, p, hz⟩ := I.tuple hq
    obtain ⟨f0, f1, f2, f3, f4, f5⟩ := hf it (by simp)
    have hl := rv.length
    exact tend (I.ok.hd hc) he hit p (by simp; omega) fun h' eb => ⟨rfl, I.turned (t' := s.toks) (fun b o hb q => eb b o hb q) f0 f1 f3 f4 f5⟩
  self := fun A i s Q E st h => let ⟨⟨_, he⟩, _⟩ := st; wpAny_pyIter_enum he h
def iEnumA (K : PySem.W.Frag) (te : TE) : TI := fun σ H R => te σ H fun x H1 => ∃ a, [x] = [V.ref a] ∧ (((∃ xs, SqL K H1 a xs) ∧ R (Ite K a) H1) ∨ ((∃ xs, SqT K H1 a xs) ∧ R (IteT K a) H1))
theorem pi_enumA {e : Expr} {te : TE} {p pos tpos : Pos} {elts : List Expr} {kk : Nat} (hg : Gl X "enumerate") (hm : X.mg "enumerate" = none) (ha : PE X e te) (hn : noStar e = true) :
    PI X (.Tuple elts kk tpos) (.Call (.Name "enumerate" p) [e] [] pos) (iEnumA X.K te) := by
  have hs : starEach [e] X.env = [(false, eval e X.env)] := star_cons hn _
  have hA : PA X [e] (tCons te tNil) := pa_cons ha pa_nil (by rw [hs]; rfl)
  refine ⟨fun pins s σ H R I h => ?_⟩
  refine Call_ (ld_blt I hg hm boot_enumerate (PyProof.Rows.callWith_type1 (thn (hA.run pos pins s σ H (fun vs H1 => ∃ a, vs = [V.ref a] ∧ (((∃ xs, SqL X.K H1 a xs) ∧ R (Ite X.K a) H1) ∨ ((∃ xs, SqT X.K H1 a xs) ∧ R (IteT X.K a) H1))) I h) fun us s1 ⟨vs, H1, I1, r1, q1⟩ => ?_) hs rfl))
  obtain ⟨a, rfl, q1⟩ := q1
  cases r1 with
  | cons r rr =>
    cases rr
    cases r
    have fr : ∀ b, b ∈ [s1.heap.objs.size + 1, s1.heap.objs.size] → FpOk X pins H1 b := fun b hb => by
      have e' : b = s1.heap.objs.size + 1 ∨ b = s1.heap.objs.size := by simpa using hb
      have hle : s1.heap.objs.size ≤ b := by
        rcases e' with z | z
        · rw [z]; exact Nat.le_add_right _ _
        · rw [z]; exact Nat.le_refl _
      exact I1.fpOk hle (I1.hok.fresh hle)
    rcases q1 with ⟨⟨xs, hq⟩, q⟩ | ⟨⟨xs, hq⟩, q⟩
    · obtain ⟨its, rv, p', hz⟩ := I1.list hq
      refine call_enumerate_list p'.isList fun h' he hit hsz hk => wpAny_pyIter_enum he ?_
      have I2 : Inv X pins σ H1 { s1 with heap := h' } := I1.kept (t' := s1.toks) hk
      exact ⟨s1.heap.objs.size + 1, [s1.heap.objs.size + 1, s1.heap.objs.size], _, _, H1, rfl, I2, turn_enum a (s1.heap.objs.size + 1) s1.heap.objs.size, ⟨⟨.none, he⟩, hit, Nat.succ_ne_self _⟩, fr, q⟩
    · obtain ⟨its, rv, p', hz⟩ := I1.tuple hq
      have hlt : a < s1.heap.objs.size := by obtain ⟨_, z, _⟩ := id p'; exact Heap.lt_size z
      refine call_enumerate_tuple (show s1.heap.IsTuple a its.toArray from p') fun h' he hit hsz hk => wpAny_pyIter_enum he ?_
      have I2 : Inv X pins σ H1 { s1 with heap := h' } := I1.kept (t' := s1.toks) hk
      exact ⟨s1.heap.objs.size + 1, [s1.heap.objs.size + 1, s1.heap.objs.size], _, _, H1, rfl, I2, turn_enumT a (s1.heap.objs.size + 1) s1.heap.objs.size (Nat.ne_of_lt hlt) (Nat.ne_of_gt (Nat.lt_succ_of_lt hlt)), ⟨⟨.none, he⟩, hit, Nat.succ_ne_self _⟩, fr, q⟩
theorem walk_enumT {K : PySem.W.Frag} {a : Addr} {xs : List V} : Walk (IteT K a) xs.length (fun H => SqT K H a xs) (YPair (fun i => some (.int (i : Nat))) (fun i => xs[i]?)) := by
  refine ⟨fun i _ hi q => ⟨xs, xs[i], q, by simp [hi]⟩, fun _ q => ⟨xs, q, Nat.le_refl _⟩, fun i H v H' _ q y => ?_⟩
  obtain ⟨T, x, h1, h2, h3, h4⟩ := y
  exact ⟨T, _, x, h1, h2, h3, rfl, h4 xs q⟩
theorem it_enum {O : Addr → Prop} {J : L2.It} {l : List PV} {xs : List V} {f : List Addr} {Gp : Hp → Prop} (ls : Lsts O H) (rl : RepL R.G H l xs f) (n : ∀ b ∈ f, ¬ O b)
    (w : Walk J l.length Gp (YPair (fun i => some (.int (i : Nat))) (fun i => xs[i]?))) (hg : ∀ H', Stay O H H' → Gp H') : ItOk R O H J (pairs 0 l) f := by
  refine ⟨Gp, YPair (fun i => some (.int (i : Nat))) (fun i => xs[i]?), by rw [pairs_len]; exact w, hg, fun i H1 x H' hi st lok y => ?_⟩
  rw [pairs_len] at hi
  obtain ⟨t, v, u, rfl, ht, rfl, e1, e2⟩ := y
  have r1 := RepL.stay st ls l xs f rl n
  obtain ⟨z, f', e3, q1, s1⟩ := r1.get (i := i) (x := l[i]'hi) (by simp)
  cases e1
  have e2 : xs[i]? = some u := e2
  rw [e2] at e3; cases e3
  refine ⟨.tup [.int (0 + i), l[i]'hi], [] ++ f', pairs_get (by simp), NewV.tup lok ht (RepL.pair (x := .int (0 + i)) ⟨by simp, rfl⟩ q1) (by show 2 ≤ sizeLine; decide) fun b hb => ?_⟩
  exact s1 b (by simpa using hb)
theorem evi_enum {a : Expr} {p pos tpos : Pos} {elts : List Expr} {kk : Nat} {ev : Env → Res (PV × Env)} (hK : R.G.K = X.K) (hg : Gl X "enumerate") (hm : X.mg "enumerate" = none) (ha : PE X a (rdE R W kd ev)) (hs : kd.stb = true) (hn : noStar a = true) :
    PI X (.Tuple elts kk tpos) (.Call (.Name "enumerate" p) [a] [] pos) (rdI R W true kd.nor fun env => (ev env).bind fun r => (ofO (enumOf r.1)).bind fun l => .ok (l, r.2)) :=
  PI.imp (pi_enumA hg hm ha hn) fun σ H Q ⟨F, env, k, h⟩ => by
    refine ⟨F, env, k, okI.bind Step.refl h fun q v H2 F2 fp _ k2 s2 v2 nr h2 => ?_⟩
    obtain ⟨l, e1, h3⟩ := okI.ofO h2
    obtain ⟨q1, env2⟩ := q
    have nn := v2.st hs
    cases q1 with
    | tup m =>
      cases e1
      obtain ⟨a1, xs, rfl, ha1, r1⟩ := v2.rep
      refine ⟨a1, rfl, .inr ⟨⟨xs, hK ▸ ha1⟩, h3 _ H2 F2 fp k2 s2 ?_ v2.old (fun b hb => ⟨Option.ne_none_iff_exists'.mp (RepL.there _ _ _ r1 b hb), nn b hb⟩) nr⟩⟩
      rw [← hK]
      exact fun O ls oo => it_enum (Gp := fun H => SqT R.G.K H a1 xs) ls r1 (ItS.no oo nn v2.old) (by rw [← r1.length]; exact walk_enumT) fun H' st => st.sqT ls ha1
    | lst m =>
      cases e1
      obtain ⟨a1, xs, g1, rfl, ha1, r1, rfl⟩ := v2.rep
      have sub : ∀ b ∈ g1, b ∈ a1 :: g1 := fun b hb => by simp [hb]
      refine ⟨a1, rfl, .inl ⟨⟨xs, .of ha1⟩, h3 _ H2 F2 g1 k2 s2 ?_ (fun b hb => v2.old b (sub b hb)) (fun b hb => ⟨Option.ne_none_iff_exists'.mp (RepL.there _ _ _ r1 b hb), nn b (sub b hb)⟩) nr⟩⟩
      rw [← hK]
      exact fun O ls oo => it_enum (Gp := fun H => SqL R.G.K H a1 xs) ls r1 (fun b hb => ItS.no oo nn v2.old b (sub b hb)) (by rw [← r1.length]; exact walk_enum) fun H' st => st.sqL (ItS.no oo nn v2.old a1 (by simp)) (.of ha1)
    | _ => cases e1
end
end Ev

/-! EvE12: comprehensions. -/
namespace Ev
open PySem PySem.Spec PyProof.Rows L2
variable {R : Fr0} {W : WXX} {σ σ2 : St} {H H1 H2 H' : Hp} {F F1 F2 F' : Nat → List Addr} {env env1 env2 env' : Env} {own : List Nat}
/-! ### slots forgotten -/
theorem lwipe_get {vs : List Nat} {j : Nat} : (L2.wipe σ vs)[j]? = if j ∈ vs ∧ j < σ.length then some none else σ[j]? := by
  induction vs with
  | nil => simp [L2.wipe]
  | cons v vs ih =>
    unfold L2.wipe
    by_cases e : v = j
    · subst e
      by_cases hl : v < σ.length
      · rw [List.getElem?_set_self (by rw [wipe_length]; exact hl), if_pos ⟨by simp, hl⟩]
      · rw [List.set_eq_of_length_le (by rw [wipe_length]; omega), ih, if_neg fun z => hl z.2, if_neg fun z => hl z.2]
    · rw [List.getElem?_set_ne e, ih]
      have : j ∈ v :: vs ↔ j ∈ vs := by simp [Ne.symm e]
      simp only [this]
theorem lwipe_eq {vs : List Nat} (hl : σ2.length = σ.length) (h : ∀ j, j ∉ vs → σ2[j]? = σ[j]?) : L2.wipe σ2 vs = L2.wipe σ vs := by
  apply List.ext_getElem?
  intro j
  rw [lwipe_get, lwipe_get, hl]
  by_cases c : j ∈ vs
  · by_cases d : j < σ.length
    · rw [if_pos ⟨c, d⟩, if_pos ⟨c, d⟩]
    · rw [if_neg fun z => d z.2, if_neg fun z => d z.2, List.getElem?_eq_none (by omega), List.getElem?_eq_none (by omega)]
  · rw [if_neg fun z => c z.1, if_neg fun z => c z.1, h j c]
theorem foldset_len {g : Nat → PV} : ∀ {own : List Nat} {env : Env}, (own.foldl (fun e i => e.set i (g i)) env).length = env.length
  | [], _ => rfl
  | i :: own, env => by
    rw [List.foldl_cons, foldset_len, List.length_set]
theorem foldset_get {g : Nat → PV} {j : Nat} : ∀ {own : List Nat} {env : Env}, (own.foldl (fun e i => e.set i (g i)) env)[j]? = if j ∈ own ∧ j < env.length then some (g j) else env[j]?
  | [], env => by simp
  | i :: own, env => by
    rw [List.foldl_cons, foldset_get]
    rw [List.length_set]
    by_cases hl : j < env.length
    · by_cases c : j ∈ own
      · rw [if_pos ⟨c, hl⟩, if_pos ⟨by simp [c], hl⟩]
      · rw [if_neg fun z => c z.1]
        by_cases e : i = j
        · subst e
          rw [List.getElem?_set_self hl, if_pos ⟨by simp, hl⟩]
        · rw [List.getElem?_set_ne e, if_neg]
          rintro ⟨z, _⟩
          rcases List.mem_cons.mp z with z | z
          · exact e z.symm
          · exact c z
    · rw [if_neg fun z => hl z.2, if_neg fun z => hl z.2]
      by_cases e : i = j
      · subst e
        rw [List.set_eq_of_length_le (by omega)]
      · rw [List.getElem?_set_ne e]
theorem wipe_len : (Ev.wipe own env).length = env.length := foldset_len
theorem wipe_get {j : Nat} : (Ev.wipe own env)[j]? = if j ∈ own ∧ j < env.length then some .undef else env[j]? := foldset_get
theorem wipe_get_ne {j : Nat} (h : j ∉ own) : (Ev.wipe own env)[j]? = env[j]? := by rw [wipe_get, if_neg fun z => h z.1]
theorem wipe_eq (hl : env2.length = env.length) (h : ∀ j, j ∉ own → env2[j]? = env[j]?) : Ev.wipe own env2 = Ev.wipe own env := by
  apply List.ext_getElem?
  intro j
  rw [wipe_get, wipe_get, hl]
  by_cases c : j ∈ own
  · by_cases d : j < env.length
    · rw [if_pos ⟨c, d⟩, if_pos ⟨c, d⟩]
    · rw [if_neg fun z => d z.2, if_neg fun z => d z.2, List.getElem?_eq_none (by omega), List.getElem?_eq_none (by omega)]
  · rw [if_neg fun z => c z.1, if_neg fun z => c z.1, h j c]
theorem wipe_wipe : Ev.wipe own (Ev.wipe own env) = Ev.wipe own env := wipe_eq wipe_len fun j h => wipe_get_ne h
theorem restore_get {e0 : Env} {j : Nat} (hl : env.length = e0.length) : (restore own e0 env)[j]? = if j ∈ own then e0[j]? else env[j]? := by
  unfold restore
  rw [foldset_get]
  by_cases c : j ∈ own
  · rw [if_pos c]
    by_cases d : j < env.length
    · rw [if_pos ⟨c, d⟩, List.getD_eq_getElem?_getD, List.getElem?_eq_getElem (by omega)]
      rfl
    · rw [if_neg fun z => d z.2, List.getElem?_eq_none (by omega), List.getElem?_eq_none (by omega)]
  · rw [if_neg c, if_neg fun z => c z.1]
theorem restore_wipe {e0 : Env} : restore own e0 (Ev.wipe own e0) = e0 := by
  apply List.ext_getElem?
  intro j
  rw [restore_get wipe_len]
  split
  · rfl
  · rename_i c
    exact wipe_get_ne c
def wipeF (own : List Nat) (F : Nat → List Addr) : Nat → List Addr := fun j => if j ∈ own then [] else F j
def restF (own : List Nat) (F0 F : Nat → List Addr) : Nat → List Addr := fun j => if j ∈ own then F0 j else F j
theorem wipeF_sub {j : Nat} {a : Addr} (h : a ∈ wipeF own F j) : a ∈ F j ∧ j ∉ own := by
  unfold wipeF at h
  split at h
  · simp at h
  · exact ⟨h, by assumption⟩
theorem wipeF_ne {j : Nat} (h : j ∉ own) : wipeF own F j = F j := if_neg h
theorem OW_wipeF {ms : List Nat} {a : Addr} (h : ∀ i ∈ own, i ∉ ms) : OW ms (wipeF own F) a ↔ OW ms F a := by
  constructor
  · rintro ⟨j, hj, ha⟩
    exact ⟨j, hj, (wipeF_sub ha).1⟩
  · rintro ⟨j, hj, ha⟩
    exact ⟨j, hj, by rw [wipeF_ne fun z => h j z hj]; exact ha⟩
theorem OW_restF {ms : List Nat} {F0 : Nat → List Addr} {a : Addr} (h : ∀ i ∈ own, i ∉ ms) : OW ms (restF own F0 F) a ↔ OW ms F a := by
  constructor
  · rintro ⟨j, hj, ha⟩
    unfold restF at ha
    rw [if_neg fun z => h j z hj] at ha
    exact ⟨j, hj, ha⟩
  · rintro ⟨j, hj, ha⟩
    refine ⟨j, hj, ?_⟩
    unfold restF
    rw [if_neg fun z => h j z hj]
    exact ha
theorem getD_none_of {env : Env} {j : Nat} {o : Option PV} (h : env[j]? = o) : env.getD j .undef = o.getD .undef := by
  rw [List.getD_eq_getElem?_getD, h]
theorem EnvOk.wipe (ho : ∀ i ∈ own, i ∉ R.ms) (k : EnvOk R σ H F env) : EnvOk R (L2.wipe σ own) H (wipeF own F) (Ev.wipe own env) where
  len := by rw [wipe_len, wipe_length]; exact k.len
  slot := fun j p e n => by
    rw [wipe_get] at e
    by_cases c : j ∈ own
    · split at e
      · cases e; exact absurd rfl n
      · rename_i d
        have : ¬ j < env.length := fun z => d ⟨c, z⟩
        rw [List.getElem?_eq_none (by omega)] at e
        cases e
    · rw [if_neg fun z => c z.1] at e
      obtain ⟨v, h1, h2⟩ := k.slot j p e n
      exact ⟨v, by rw [lwipe_get, if_neg fun z => c z.1]; exact h1, by rw [wipeF_ne c]; exact h2⟩
  non := fun j e => by
    by_cases c : j ∈ own
    · exact if_pos c
    · rw [wipeF_ne c]
      refine k.non j ?_
      rw [List.getD_eq_getElem?_getD, wipe_get_ne c] at e
      rw [List.getD_eq_getElem?_getD]; exact e
  nd := fun j hj => by
    unfold wipeF
    split
    · exact List.nodup_nil
    · exact k.nd j hj
  mu := fun j hj a ha => k.mu j hj a (wipeF_sub ha).1
  ow := fun j hj a ha => k.ow j hj a (wipeF_sub ha).1
  dj := fun j hj l n a ha hb => k.dj j hj l n a (wipeF_sub ha).1 (wipeF_sub hb).1
  old := fun j a ha => k.old j a (wipeF_sub ha).1
  keep := k.keep
  dom := k.dom
  lok := k.lok
  rf := fun i v h => ⟨(k.rf i v h).1, by rw [lwipe_get, if_neg fun z => ho i z.1 (k.rf i v h).1]; exact (k.rf i v h).2⟩
/-- behind a comprehension -/
theorem EnvOk.restore (ho : ∀ i ∈ own, i ∉ R.ms) (k1 : EnvOk R σ H1 F1 env1) (k : EnvOk R (L2.wipe σ own) H F env) (s : Step R.ms H1 (wipeF own F1) H F) : EnvOk R σ H (restF own F1 F) (Ev.restore own env1 env) := by
  have el : env.length = env1.length := by rw [k.len, wipe_length, k1.len]
  have st : Stay (OW R.ms F1) H1 H := fun a o e n => s.st a o e fun z => n ((OW_wipeF ho).mp z)
  have r1 : ∀ {j}, j ∈ own → restF own F1 F j = F1 j := fun h => if_pos h
  have r2 : ∀ {j}, j ∉ own → restF own F1 F j = F j := fun h => if_neg h
  have nn : ∀ {j}, j ∈ R.ms → j ∉ own := fun h z => ho _ z h
  refine ⟨?_, fun j p e n => ?_, fun j e => ?_, fun j hj => ?_, fun j hj a ha => ?_, fun j hj a ha => ?_, fun j hj l n a ha hb => ?_, fun j a ha => ?_, k.keep, k.dom, k.lok, fun i v h => k1.rf i v h⟩
  · unfold Ev.restore
    rw [foldset_len, el, k1.len]
  · rw [restore_get el] at e
    by_cases c : j ∈ own
    · rw [if_pos c] at e
      obtain ⟨v, h1, h2⟩ := k1.slot j p e n
      exact ⟨v, h1, by rw [r1 c]; exact RepF.stay st k1.lsts _ _ _ h2 (k1.free (ho j c))⟩
    · rw [if_neg c] at e
      obtain ⟨v, h1, h2⟩ := k.slot j p e n
      rw [lwipe_get, if_neg fun z => c z.1] at h1
      exact ⟨v, h1, by rw [r2 c]; exact h2⟩
  · rw [List.getD_eq_getElem?_getD, restore_get el] at e
    by_cases c : j ∈ own
    · rw [if_pos c] at e
      rw [r1 c]
      exact k1.non j (by rw [List.getD_eq_getElem?_getD]; exact e)
    · rw [if_neg c] at e
      rw [r2 c]
      exact k.non j (by rw [List.getD_eq_getElem?_getD]; exact e)
  · rw [r2 (nn hj)]; exact k.nd j hj
  · rw [r2 (nn hj)] at ha; exact k.mu j hj a ha
  · rw [r2 (nn hj)] at ha; exact k.ow j hj a ha
  · rw [r2 (nn hj)] at ha
    by_cases c : l ∈ own
    · rw [r1 c] at hb
      rcases s.ow a ⟨j, hj, ha⟩ with z | z
      · exact k1.free (ho l c) a hb ((OW_wipeF ho).mp z)
      · exact k1.nf z l hb
    · rw [r2 c] at hb
      exact k.dj j hj l n a ha hb
  · by_cases c : j ∈ own
    · rw [r1 c] at ha; exact k1.old j a ha
    · rw [r2 c] at ha; exact k.old j a ha
/-- a list that is none of the slots' is changed -/
theorem EnvOk.side (k : EnvOk R σ H F env) {D : Addr} {xs ys : List V} (hD : H D = some (.lst xs)) (h0 : R.H0 D = none ∧ R.A D) (n : ∀ j, D ∉ F j) (hz : ys.length ≤ sizeLine) : EnvOk R σ (upd H D (.lst ys)) F env := by
  have st : Stay (fun a => a = D) H (upd H D (.lst ys)) := fun a o e c => by rw [upd_ne c]; exact e
  have ls : Lsts (fun a => a = D) H := fun a e => ⟨xs, by rw [e]; exact hD⟩
  refine ⟨k.len, fun i p e c => ?_, k.non, k.nd, fun i hi a ha => ?_, k.ow, k.dj, k.old, fun a o e c => ?_, fun a e => ?_, lok_lst k.lok hz, k.rf⟩
  · obtain ⟨v, h1, h2⟩ := k.slot i p e c
    exact ⟨v, h1, RepF.stay st ls _ _ _ h2 fun a ha z => n i (z ▸ ha)⟩
  · obtain ⟨vs, e⟩ := k.mu i hi a ha
    exact ⟨vs, st a _ e fun z => n i (z ▸ ha)⟩
  · exact st a _ (k.keep a o e c) fun z => by rw [z, h0.1] at e; cases e
  · by_cases c : a = D
    · rw [c]; exact h0
    · rw [upd_ne c] at e; exact k.dom a e
theorem Step.side (s : Step R.ms H F H1 F1) {D : Addr} {o : HO} (hD : H D = none) : Step R.ms H F (upd H1 D o) F1 := by
  refine ⟨fun a u e n => ?_, s.sub, s.ow, fun a e => ?_⟩
  · rw [upd_ne (ne_of_none e hD)]; exact s.st a u e n
  · by_cases c : a = D
    · rw [c]; exact hD
    · rw [upd_ne c] at e; exact s.dom a e
/-- a turn: the item laid into a slot, the parts run, the slots forgotten -/
theorem Step.turn {sl : List Nat} {H0' H3 : Hp} {F3 : Nat → List Addr} (ho : ∀ i ∈ own, i ∉ R.ms) (hs : ∀ i ∈ sl, i ∈ own) (same : ∀ a o, H a = some o → H0' a = some o) (a : SetS R sl σ F env σ2 F2 env2) (s : Step R.ms H0' F2 H3 F3) : Step R.ms H F H3 (wipeF own F3) where
  st := fun x o e n => s.st x o (same x o e) fun z => n ((a.ow x).mp z)
  sub := fun j x hx => by
    obtain ⟨hx, hj⟩ := wipeF_sub hx
    rcases s.sub j x hx with z | z | z
    · rw [a.f j fun w => hj (hs j w)] at z; exact .inl z
    · exact .inr (.inl ((a.ow x).mp z))
    · exact .inr (.inr (none_of_same same x z))
  ow := fun x hx => by
    rcases s.ow x ((OW_wipeF ho).mp hx) with z | z
    · exact .inl ((a.ow x).mp z)
    · exact .inr (none_of_same same x z)
  dom := fun x e => none_of_same same x (s.dom x e)
end Ev

/-! EvE13: the comprehension. -/
namespace Ev
open PySem PySem.Spec PyProof.Rows L2
variable {R : Fr0} {W : WXX} {σ σ2 : St} {H H1 H2 H' : Hp} {F F1 F2 F' : Nat → List Addr} {env env1 env2 env' : Env} {own : List Nat} {kd kde : Kd} {nor stb nc nI : Bool}
/-- a clause's test -/
def okC (R : Fr0) (nor : Bool) (σ : St) (H : Hp) (F : Nat → List Addr) (env : Env) (Q : Bool → Hp → Prop) : Res (Bool × Env) → Prop
  | .ok r => ∀ H' F', EnvOk R σ H' F' r.2 → Step R.ms H F H' F' → Nor nor H F env H' F' r.2 → Q r.1 H'
  | _ => False
def rdC (R : Fr0) (nor : Bool) (ev : Env → Res (Bool × Env)) : TT := fun σ H Q => ∃ F env, EnvOk R σ H F env ∧ okC R nor σ H F env Q (ev env)
section
variable {X : Cx}
theorem PTs.imp {e : List Expr} {t t' : TT} (h : PTs X e t) (k : ∀ σ H Q, t' σ H Q → t σ H Q) : PTs X e t' := ⟨fun pins s σ H Q I q => h.run pins s σ H Q I (k σ H Q q)⟩
theorem evc_no : PTs X [] (rdC R true fun env => .ok (true, env)) := PTs.imp pts_nil fun σ H Q ⟨F, env, k, h⟩ => h H F k Step.refl Nor.refl
theorem evc_so {c : Expr} {ev : Env → Res (PV × Env)} (h : PT X c (rdT R W nor ev)) : PTs X [c] (rdC R nor fun env => (ev env).bind fun p => (ofO (truth p.1)).bind fun t => .ok (t, p.2)) :=
  PTs.imp (pts_one h) fun σ H Q ⟨F, env, k, h⟩ => by
    refine ⟨F, env, k, ?_⟩
    cases e : ev env with
    | ok r =>
      have h' : okC R nor σ H F env Q ((ev env).bind fun p => (ofO (truth p.1)).bind fun t => .ok (t, p.2)) := h
      rw [e] at h'
      cases e2 : truth r.1 with
      | none =>
        have h2 : okC R nor σ H F env Q ((ofO (truth r.1)).bind fun t => .ok (t, r.2)) := h'
        rw [e2] at h2
        exact h2.elim
      | some b =>
        have h2 : okC R nor σ H F env Q ((ofO (truth r.1)).bind fun t => .ok (t, r.2)) := h'
        rw [e2] at h2
        exact ⟨b, e2, h2⟩
    | raise c x e' =>
      have h' : okC R nor σ H F env Q ((ev env).bind fun p => (ofO (truth p.1)).bind fun t => .ok (t, p.2)) := h
      rw [e] at h'
      exact h'.elim
    | fail =>
      have h' : okC R nor σ H F env Q ((ev env).bind fun p => (ofO (truth p.1)).bind fun t => .ok (t, p.2)) := h
      rw [e] at h'
      exact h'.elim
/-- the new list so far -/
structure AccOk (R : Fr0) (own stb : Bool) (H1 : Hp) (F1 : Nat → List Addr) (D : Addr) (H : Hp) (F : Nat → List Addr) (p : List PV) (v : List V) (fp : List Addr) : Prop where
  rep : RepL R.G H p v fp
  nD : D ∉ fp
  old : ∀ a ∈ fp, R.A a
  st : stb = true → ∀ a ∈ fp, ¬ OW R.ms F a
  nd : own = true → fp.Nodup
  mu : own = true → ∀ a ∈ fp, ∃ vs, H a = some (.lst vs)
  fr : own = true → ∀ a ∈ fp, ∀ j, a ∉ F j
  nw : own = true → ∀ a ∈ fp, OW R.ms F1 a ∨ H1 a = none
  h0 : own = true → ∀ a ∈ fp, R.H0 a = none
theorem AccOk.nil {own stb : Bool} {D : Addr} : AccOk R own stb H1 F1 D H F [] [] [] :=
  ⟨RepL.nil, by simp, fun _ z => by simp at z, fun _ _ z => by simp at z, fun _ => List.nodup_nil, fun _ _ z => by simp at z, fun _ _ z => by simp at z, fun _ _ z => by simp at z, fun _ _ z => by simp at z⟩
/-- the list so far behind a step; D as it stands or changed -/
theorem AccOk.step {own stb nb : Bool} {D : Addr} {l : List PV} {vs : List V} {fp : List Addr} (k : EnvOk R σ H F env) (a : AccOk R own stb H1 F1 D H F l vs fp) (s : Step R.ms H F H' F') (hn : nb = true → ∀ a o, H a = some o → H' a = some o) (c : (stb || nb) = true) : AccOk R own stb H1 F1 D H' F' l vs fp := by
  have th : ∀ b ∈ fp, ∃ o, H b = some o := fun b hb => Option.ne_none_iff_exists'.mp (RepL.there _ _ _ a.rep b hb)
  have keepOut : ∀ b, (∃ o, H b = some o) → (∀ j, b ∉ F j) → ∀ j, b ∉ F' j := fun b ⟨o, e⟩ n j hj => by
    rcases s.sub j b hj with z | ⟨k, _, z⟩ | z
    · exact n j z
    · exact n k z
    · rw [e] at z; cases z
  refine ⟨?_, a.nD, a.old, fun z b hb => OW.none_of s (a.st z b hb) (th b hb), a.nd, fun z b hb => ?_, fun z b hb => keepOut b (th b hb) (a.fr z b hb), a.nw, a.h0⟩
  · rcases Bool.or_eq_true_iff.mp c with z | z
    · exact s.repL k a.rep (a.st z)
    · exact a.rep.same (hn z)
  · obtain ⟨us, e⟩ := a.mu z b hb
    exact ⟨us, s.st b _ e fun ⟨j, _, hj⟩ => a.fr z b hb j hj⟩
theorem AccOk.side {own stb : Bool} {D : Addr} {l : List PV} {vs : List V} {fp : List Addr} (a : AccOk R own stb H1 F1 D H F l vs fp) {xs ys : List V} (hD : H D = some (.lst xs)) : AccOk R own stb H1 F1 D (upd H D (.lst ys)) F l vs fp := by
  have st : Stay (fun a => a = D) H (upd H D (.lst ys)) := fun a o e c => by rw [upd_ne c]; exact e
  have ls : Lsts (fun a => a = D) H := fun a e => ⟨xs, by rw [e]; exact hD⟩
  refine ⟨RepL.stay st ls _ _ _ a.rep fun b hb z => a.nD (z ▸ hb), a.nD, a.old, a.st, a.nd, fun z b hb => ?_, a.fr, a.nw, a.h0⟩
  obtain ⟨us, e⟩ := a.mu z b hb
  exact ⟨us, st b _ e fun z => a.nD (z ▸ hb)⟩
/-- the new list is nobody's -/
def Fr0.hide (R : Fr0) (D : Addr) : Fr0 := { R with A := fun a => R.A a ∧ a ≠ D }
theorem EnvOk.hide {D : Addr} (k : EnvOk R σ H F env) (n : ∀ j, D ∉ F j) (h : H D ≠ none) : EnvOk (R.hide D) σ H F env :=
  ⟨k.len, k.slot, k.non, k.nd, k.mu, k.ow, k.dj, fun i a ha => ⟨k.old i a ha, fun z => n i (z ▸ ha)⟩, k.keep, fun a e => ⟨(k.dom a e).1, (k.dom a e).2, fun z => h (z ▸ e)⟩, k.lok, k.rf⟩
theorem EnvOk.show {D : Addr} (k : EnvOk (R.hide D) σ H F env) : EnvOk R σ H F env :=
  ⟨k.len, k.slot, k.non, k.nd, k.mu, k.ow, k.dj, fun i a ha => (k.old i a ha).1, k.keep, fun a e => ⟨(k.dom a e).1, (k.dom a e).2.1⟩, k.lok, k.rf⟩
/-- what holds at each turn -/
structure CompInv (R : Fr0) (ownE stbE nb : Bool) (own : List Nat) (σ : St) (H1 : Hp) (F1 : Nat → List Addr) (env1 : Env) (D : Addr) (f : PV → Env → Res (Option PV × Env)) (items : List PV) (L : List PV) (enE : Env) (i : Nat) (H : Hp) : Prop where
  ex : ∃ F en done out accV facc, EnvOk R (L2.wipe σ own) H F en ∧ Ev.wipe own en = en ∧ (∀ j ∈ own, F j = []) ∧ Step R.ms H1 (wipeF own F1) H F ∧ (H D = some (.lst accV) ∧ ∀ j, D ∉ F j) ∧ compGo f (items.drop i) en = .ok (out, enE) ∧ L = done ++ out ∧ AccOk R ownE stbE H1 (wipeF own F1) D H F done accV facc ∧ (nb = true → F = wipeF own F1 ∧ en = Ev.wipe own env1 ∧ ∀ a o, H1 a = some o → H a = some o)
def evComp (own : List Nat) (tg : T) (evI : Env → Res (List PV × Env)) (evC : Env → Res (Bool × Env)) (evE : Env → Res (PV × Env)) : Env → Res (PV × Env) := fun env => (evI env).bind fun r =>
  (compGo (fun x en => ((ofO (assign tg x en)).bind fun en1 => (evC en1).bind fun t => if t.1 = true then (evE t.2).bind fun q => .ok (some q.1, Ev.wipe own q.2) else .ok (none, Ev.wipe own t.2)).nr)
    r.1 (Ev.wipe own r.2)).bind fun q => if q.1.length ≤ sizeLine then .ok (.lst q.1, Ev.restore own r.2 q.2) else .fail
theorem Res.bind_ok {α β : Type} {r : Res α} {f : α → Res β} {b : β} (h : r.bind f = .ok b) : ∃ a, r = .ok a ∧ f a = .ok b := by
  cases r with
  | ok a => exact ⟨a, rfl, h⟩
  | raise c x e => cases h
  | fail => cases h
theorem Res.nr_ok {α : Type} {r : Res α} {b : α} (h : r.nr = .ok b) : r = .ok b := by
  cases r with
  | ok a => exact h
  | raise c x e => cases h
  | fail => cases h
theorem ofO_ok {α : Type} {o : Option α} {a : α} (h : ofO o = .ok a) : o = some a := by
  cases o with
  | none => cases h
  | some b => cases h; rfl
theorem compGo_noraise {f : PV → Env → Res (Option PV × Env)} (hf : ∀ x en c a e, f x en ≠ .raise c a e) : ∀ {l : List PV} {en : Env} {c : Nat} {a : PV} {e : Env}, compGo f l en ≠ .raise c a e
  | [], _, _, _, _ => nofun
  | x :: l, en, c, a, e => fun h => by
    unfold compGo at h
    cases e1 : f x en with
    | ok r =>
      rw [e1] at h
      have h : (compGo f l r.2).bind _ = _ := h
      cases e2 : compGo f l r.2 with
      | ok q => rw [e2] at h; cases h
      | raise c' a' e' => exact compGo_noraise hf e2
      | fail => rw [e2] at h; cases h
    | raise c' a' e' => exact hf _ _ _ _ _ e1
    | fail => rw [e1] at h; cases h
theorem Res.nr_ne {α : Type} {r : Res α} {c : Nat} {a : PV} {e : Env} : r.nr ≠ .raise c a e := by
  cases r <;> exact nofun
theorem assign_length : ∀ {t : T} {x : PV} {env env' : Env}, Ev.assign t x env = some env' → env'.length = env.length
  | .n i, x, env, env', e => by cases e; exact List.length_set
  | .nil, x, env, env', e => by
    cases x with
    | tup l =>
      cases l with
      | nil => cases e; rfl
      | cons y l => cases e
    | _ => cases e
  | .cons a r, x, env, env', e => by
    cases x with
    | tup l =>
      cases l with
      | nil => cases e
      | cons y l =>
        simp only [Ev.assign, Option.bind_eq_some_iff] at e
        obtain ⟨e1, h1, h2⟩ := e
        rw [assign_length h2, assign_length h1]
    | _ => cases e
theorem lwipe_lwipe {vs : List Nat} : L2.wipe (L2.wipe σ vs) vs = L2.wipe σ vs := lwipe_eq (wipe_length _ _) fun j h => by rw [lwipe_get, if_neg fun z => h z.1]
theorem comp_turn {tg : T} {evC : Env → Res (Bool × Env)} {evE : Env → Res (PV × Env)} {WF : WXX} {D : Addr} {items L : List PV} {enE : Env} {fs : List Addr} {i : Nat} {x : V} {Yp : Nat → Hp → V → Hp → Prop}
    (hms : ∀ i ∈ own, i ∉ R.ms) (hsl : ∀ i ∈ tg.sl, i ∈ own) (cE : (kde.stb || (nc && kde.nor)) = true) (cI : (stb || (nc && kde.nor)) = true)
    (k1 : EnvOk R σ H1 F1 env1) (hD1 : H1 D = none) (hL : L.length ≤ sizeLine) (old : ∀ a ∈ fs, R.A a) (hfs : ∀ a ∈ fs, (∃ o, H1 a = some o) ∧ ¬ OW R.ms F1 a)
    (hy : ∀ i H2 x H', i < items.length → Stay (OO stb R.ms F1) H1 H2 → LenOk R.G.K H2 → Yp i H2 x H' → ∃ p fz, items[i]? = some p ∧ NewV R.G H2 fs p false x H' fz) (hi : i < items.length)
    (p : CompInv R kde.own kde.stb (nc && kde.nor) own σ H1 F1 env1 D (fun x en => ((ofO (assign tg x en)).bind fun en1 => (evC en1).bind fun t => if t.1 = true then (evE t.2).bind fun q => .ok (some q.1, Ev.wipe own q.2) else .ok (none, Ev.wipe own t.2)).nr) items L enE i H) (y : Yp i H x H') :
    rdG (R.hide D) tg x (L2.wipe σ own) H' fun σ2 H2 => L2.wipe σ2 own = L2.wipe σ own ∧ rdC (R.hide D) nc evC σ2 H2 fun b H3 => if b = true then rdE (R.hide D) WF kde evE σ2 H3 fun y H4 => ∃ acc, H4 D = some (.lst acc) ∧ acc.length < sizeLine ∧
      CompInv R kde.own kde.stb (nc && kde.nor) own σ H1 F1 env1 D (fun x en => ((ofO (assign tg x en)).bind fun en1 => (evC en1).bind fun t => if t.1 = true then (evE t.2).bind fun q => .ok (some q.1, Ev.wipe own q.2) else .ok (none, Ev.wipe own t.2)).nr) items L enE (i + 1) (upd H4 D (.lst (acc ++ [y])))
    else CompInv R kde.own kde.stb (nc && kde.nor) own σ H1 F1 env1 D (fun x en => ((ofO (assign tg x en)).bind fun en1 => (evC en1).bind fun t => if t.1 = true then (evE t.2).bind fun q => .ok (some q.1, Ev.wipe own q.2) else .ok (none, Ev.wipe own t.2)).nr) items L enE (i + 1) H3 := by
  obtain ⟨F, en, done, out, accV, facc, k, wen, wF, s, ⟨hD, nDF⟩, go, eL, acc, nb⟩ := p
  have ow1 : ∀ a, OW R.ms (wipeF own F1) a ↔ OW R.ms F1 a := fun a => OW_wipeF hms
  have stO : Stay (OO stb R.ms F1) H1 H := by
    rcases Bool.or_eq_true_iff.mp cI with z | z
    · rw [z, OO_true]
      exact fun a o e n => s.st a o e fun w => n ((ow1 a).mp w)
    · exact fun a o e _ => (nb z).2.2 a o e
  obtain ⟨pv, fz, eI, nv⟩ := hy i H x H' hi stO k.lok y
  have hdrop : items.drop i = pv :: items.drop (i + 1) := by
    rw [List.drop_eq_getElem_cons hi]
    rw [List.getElem?_eq_getElem hi] at eI
    cases eI; rfl
  rw [hdrop] at go
  unfold compGo at go
  obtain ⟨r1, go1, go2⟩ := Res.bind_ok go
  obtain ⟨r2, go3, go4⟩ := Res.bind_ok go2
  obtain ⟨en1, as1, go5⟩ := Res.bind_ok (Res.nr_ok go1)
  have as1 := ofO_ok as1
  obtain ⟨t, cc1, go6⟩ := Res.bind_ok go5
  have k' : EnvOk R (L2.wipe σ own) H' F en := k.same nv.same nv.lok
  have fzst : ∀ a ∈ fz, ¬ OW R.ms F a := fun a ha => by
    rcases nv.sub a ha with z | z
    · obtain ⟨⟨o, e⟩, n⟩ := hfs a z
      intro w
      rcases s.ow a w with w | w
      · exact n ((ow1 a).mp w)
      · rw [e] at w; cases w
    · exact fun ⟨j, _, hj⟩ => k.nf z j hj
  have fzold : ∀ a ∈ fz, (R.hide D).A a := fun a ha => by
    rcases nv.sub a ha with z | z
    · exact ⟨old a z, fun w => by
        obtain ⟨⟨o, e⟩, _⟩ := hfs a z
        rw [w, hD1] at e; cases e⟩
    · exact ⟨(k.dom a z).2, fun w => by rw [w, hD] at z; cases z⟩
  have hD' : H' D = some (.lst accV) := nv.same D _ hD
  have kh : EnvOk (R.hide D) (L2.wipe σ own) H' F en := k'.hide nDF (by rw [hD']; exact nofun)
  refine ⟨F, en, pv, fz, en1, kh, nv.rep, fzold, fzst, as1, fun σ2 F2 k2h a2h => ⟨?_, F2, en1, k2h, ?_⟩⟩
  all_goals have k2 : EnvOk R σ2 H' F2 en1 := k2h.show
  all_goals have a2 : SetS R tg.sl (L2.wipe σ own) F en σ2 F2 en1 := ⟨a2h.ow, a2h.f, a2h.e, a2h.s⟩
  · have l2 : σ2.length = (L2.wipe σ own).length := by
      have e1 := k2.len
      have e2 := k'.len
      rw [← e1, ← e2]
      exact assign_length as1
    rw [lwipe_eq l2 fun j hj => a2.s j fun z => hj (hsl j z)]
    exact lwipe_lwipe
  rw [cc1]
  intro H3 F3 k3h s3 n3
  have k3 : EnvOk R σ2 H3 F3 t.2 := k3h.show
  have s3 : Step R.ms H' F2 H3 F3 := s3
  have wσ2 : L2.wipe σ2 own = L2.wipe σ own := by
    have l2 : σ2.length = (L2.wipe σ own).length := by
      have e1 := k2.len
      have e2 := k'.len
      rw [← e1, ← e2]
      exact assign_length as1
    rw [lwipe_eq l2 fun j hj => a2.s j fun z => hj (hsl j z)]
    exact lwipe_lwipe
  have wen1 : Ev.wipe own en1 = en := by
    rw [wipe_eq (assign_length as1) fun j hj => a2.e j fun z => hj (hsl j z), wen]
  have wF2 : wipeF own F2 = F := by
    funext j
    by_cases c : j ∈ own
    · rw [wF j c]; exact if_pos c
    · rw [wipeF_ne c]; exact a2.f j fun z => c (hsl j z)
  have nOW2 : ∀ {a}, OW R.ms F2 a → OW R.ms F a := fun h => (a2.ow _).mp h
  have nDW2 : ¬ OW R.ms F2 D := fun z => by
    obtain ⟨j, _, hj⟩ := nOW2 z
    exact nDF j hj
  have hD3 : H3 D = some (.lst accV) := s3.st D _ hD' nDW2
  -- the end of a turn
  have fin : ∀ {H4 : Hp} {F4 : Nat → List Addr} {en4 : Env}, ((nc && kde.nor) = true → F4 = F2 ∧ en4 = en1 ∧ ∀ a o, H' a = some o → H4 a = some o) →
      (nc && kde.nor) = true → wipeF own F4 = wipeF own F1 ∧ Ev.wipe own en4 = Ev.wipe own env1 ∧ ∀ a o, H1 a = some o → H4 a = some o := by
    intro H4 F4 en4 nn z
    obtain ⟨e1, e2, e3⟩ := nn z
    obtain ⟨b1, b2, b3⟩ := nb z
    refine ⟨by rw [e1, wF2, b1], by rw [e2, wen1, b2], fun a o e => e3 a o (nv.same a o (b3 a o e))⟩
  by_cases ct : t.1 = true
  · rw [if_pos ct] at go6 ⊢
    obtain ⟨q, ee, go7⟩ := Res.bind_ok go6
    cases go7
    refine ⟨F3, t.2, k3h, ?_⟩
    rw [ee]
    intro v H4 F4 fp k4h s4 v4h n4
    have k4 : EnvOk R σ2 H4 F4 q.2 := k4h.show
    have s4 : Step R.ms H3 F3 H4 F4 := s4
    have v4 : ValOk R kde H3 F3 H4 F4 q.1 v fp := ⟨v4h.rep, fun a ha => (v4h.old a ha).1, v4h.st, v4h.nd, v4h.mu, v4h.fr, v4h.nw, v4h.h0, v4h.tp⟩
    have s24 : Step R.ms H' F2 H4 F4 := s3.trans s4
    have sT : Step R.ms H F H4 (wipeF own F4) := Step.turn hms hsl nv.same a2 s24
    have s14 : Step R.ms H1 (wipeF own F1) H4 (wipeF own F4) := s.trans sT
    have kw : EnvOk R (L2.wipe σ own) H4 (wipeF own F4) (Ev.wipe own q.2) := wσ2 ▸ k4.wipe hms
    have nDW3 : ¬ OW R.ms F3 D := fun z => by
      rcases s3.ow D z with w | w
      · exact nDW2 w
      · rw [hD'] at w; cases w
    have hD4 : H4 D = some (.lst accV) := s4.st D _ hD3 nDW3
    have nD4 : ∀ j, D ∉ wipeF own F4 j := fun j hj => by
      rcases sT.sub j D hj with z | ⟨l, _, z⟩ | z
      · exact nDF j z
      · exact nDF l z
      · rw [hD] at z; cases z
    cases go4
    obtain ⟨out2, en2⟩ := r2
    have eL' : L = (done ++ [q.1]) ++ out2 := by rw [eL]; simp
    have nn : (nc && kde.nor) = true → F4 = F2 ∧ q.2 = en1 ∧ ∀ a o, H' a = some o → H4 a = some o := fun z => by
      obtain ⟨z1, z2⟩ := Bool.and_eq_true_iff.mp z
      obtain ⟨e1, e2, e3⟩ := n3 z1
      obtain ⟨e4, e5, e6⟩ := n4 z2
      exact ⟨e4.trans e1, e5.trans e2, fun a o e => e6 a o (e3 a o e)⟩
    have accl : accV.length < sizeLine := by
      have e1 := acc.rep.length
      have e2 : L.length = done.length + 1 + out2.length := by rw [eL']; simp; omega
      omega
    have acc4 : AccOk R kde.own kde.stb H1 (wipeF own F1) D H4 (wipeF own F4) done accV facc := acc.step k sT (fun z a o e => (nn z).2.2 a o (nv.same a o e)) cE
    have th : ∀ b ∈ facc, ∃ o, H b = some o := fun b hb => Option.ne_none_iff_exists'.mp (RepL.there _ _ _ acc.rep b hb)
    have nDp : D ∉ fp := fun z => (v4h.old D z).2 rfl
    refine ⟨accV, hD4, accl, ⟨wipeF own F4, Ev.wipe own q.2, done ++ [q.1], out2, accV ++ [v], facc ++ fp, kw.side hD4 (k1.dom D hD1) nD4 (by rw [List.length_append]; exact accl), wipe_wipe, fun j hj => if_pos hj, s14.side hD1, ⟨upd_same, nD4⟩, go3, eL', ?_, fun z => ?_⟩⟩
    · have a5 : AccOk R kde.own kde.stb H1 (wipeF own F1) D H4 (wipeF own F4) (done ++ [q.1]) (accV ++ [v]) (facc ++ fp) := by
        refine ⟨acc4.rep.append (RepL.one v4.rep), fun z => (List.mem_append.mp z).elim acc.nD nDp, fun a ha => (List.mem_append.mp ha).elim (acc.old a) (v4.old a), fun z a ha => ?_, fun z => ?_, fun z a ha => ?_, fun z a ha j => ?_, fun z a ha => ?_, fun z a ha => ?_⟩
        · rcases List.mem_append.mp ha with w | w
          · exact acc4.st z a w
          · exact fun y => v4.st z a w ((OW_wipeF hms).mp y)
        · refine List.nodup_append.mpr ⟨acc.nd z, v4.nd z, fun a ha b hb e => ?_⟩
          subst e
          obtain ⟨o, e⟩ := th a ha
          rcases v4.nw z a hb with w | w
          · rcases s3.ow a w with w | w
            · obtain ⟨j, _, hj⟩ := nOW2 w
              exact acc.fr z a ha j hj
            · rw [nv.same a o e] at w; cases w
          · have := none_of_same nv.same a (s3.dom a w)
            rw [e] at this; cases this
        · rcases List.mem_append.mp ha with w | w
          · exact acc4.mu z a w
          · exact v4.mu z a w
        · rcases List.mem_append.mp ha with w | w
          · exact acc4.fr z a w j
          · exact fun hj => v4.fr z a w j (wipeF_sub hj).1
        · rcases List.mem_append.mp ha with w | w
          · exact acc.nw z a w
          · rcases v4.nw z a w with y | y
            · rcases s3.ow a y with y | y
              · exact s.ow a (nOW2 y)
              · exact .inr (s.dom a (none_of_same nv.same a y))
            · exact .inr (s.dom a (none_of_same nv.same a (s3.dom a y)))
        · rcases List.mem_append.mp ha with w | w
          · exact acc.h0 z a w
          · exact v4.h0 z a w
      exact a5.side hD4
    · obtain ⟨e1, e2, e3⟩ := fin nn z
      exact ⟨e1, e2, fun a o e => by rw [upd_ne (ne_of_none e hD1)]; exact e3 a o e⟩
  · rw [if_neg ct] at go6 ⊢
    cases go6
    cases go4
    obtain ⟨out2, en2⟩ := r2
    have sT : Step R.ms H F H3 (wipeF own F3) := Step.turn hms hsl nv.same a2 s3
    have kw : EnvOk R (L2.wipe σ own) H3 (wipeF own F3) (Ev.wipe own t.2) := wσ2 ▸ k3.wipe hms
    have nD4 : ∀ j, D ∉ wipeF own F3 j := fun j hj => by
      rcases sT.sub j D hj with z | ⟨l, _, z⟩ | z
      · exact nDF j z
      · exact nDF l z
      · rw [hD] at z; cases z
    have nn : (nc && kde.nor) = true → F3 = F2 ∧ t.2 = en1 ∧ ∀ a o, H' a = some o → H3 a = some o := fun z => by
      obtain ⟨z1, z2⟩ := Bool.and_eq_true_iff.mp z
      exact n3 z1
    exact ⟨wipeF own F3, Ev.wipe own t.2, done, out2, accV, facc, kw, wipe_wipe, fun j hj => if_pos hj, s.trans sT, ⟨hD3, nD4⟩, go3, eL, acc.step k sT (fun z a o e => (nn z).2.2 a o (nv.same a o e)) cE, fin nn⟩
end
end Ev

/-! EvE14: the comprehension as an expression. -/
namespace Ev
open PySem PySem.Spec PyProof.Rows L2
variable {R : Fr0} {W WF : WXX} {σ σ2 : St} {H H1 H2 H' : Hp} {F F1 F2 F' : Nat → List Addr} {env env1 env2 env' : Env} {own : List Nat} {kd kde : Kd} {nor stb nc nI : Bool}
section
variable {X : Cx}
theorem PG.any {ι : Type} {e : Expr} {t : ι → TG} (h : ∀ D, PG X e (t D)) : PG X e (fun v σ H Q => ∃ D, t D v σ H Q) := ⟨fun pins s σ H v u Q I r ⟨D, q⟩ => (h D).run pins s σ H v u Q I r q⟩
theorem PTs.any {ι : Type} {e : List Expr} {t : ι → TT} (h : ∀ D, PTs X e (t D)) : PTs X e (fun σ H Q => ∃ D, t D σ H Q) := ⟨fun pins s σ H Q I ⟨D, q⟩ => (h D).run pins s σ H Q I q⟩
theorem PE.any {ι : Type} {e : Expr} {t : ι → TE} (h : ∀ D, PE X e (t D)) : PE X e (fun σ H Q => ∃ D, t D σ H Q) := ⟨fun pins s σ H Q I ⟨D, q⟩ => (h D).run pins s σ H Q I q⟩
/-- what the layer asks of a comprehension, from what the evaluator says -/
theorem comp_law {tg : T} {evI : Env → Res (List PV × Env)} {evC : Env → Res (Bool × Env)} {evE : Env → Res (PV × Env)}
    (hms : ∀ i ∈ own, i ∉ R.ms) (hsl : ∀ i ∈ tg.sl, i ∈ own) (cE : (kde.stb || (nc && kde.nor)) = true) (cI : (stb || (nc && kde.nor)) = true) {Q : VK}
    (k : EnvOk R σ H F env) (h : okR R W ⟨kde.own, kde.stb, true, nI && (nc && kde.nor)⟩ σ H F env Q (evComp own tg evI evC evE env)) :
    tLc (rdI R W stb nI evI) (fun v σ H Q => ∃ D, rdG (R.hide D) tg v σ H Q) (fun σ H Q => ∃ D, rdC (R.hide D) nc evC σ H Q) (fun σ H Q => ∃ D, rdE (R.hide D) WF kde evE σ H Q) own σ H Q := by
  refine ⟨F, env, k, ?_⟩
  cases eI : evI env with
  | fail =>
    unfold evComp at h
    rw [eI] at h
    exact h.elim
  | raise c x e =>
    unfold evComp at h
    rw [eI] at h
    exact h
  | ok r =>
    unfold evComp at h
    rw [eI] at h
    have h := (show okR R W _ σ H F env Q ((compGo _ r.1 (Ev.wipe own r.2)).bind _) from h)
    generalize hf : (fun (x : PV) (en : Env) => ((ofO (Ev.assign tg x en)).bind fun en1 => (evC en1).bind fun t => if t.1 = true then (evE t.2).bind fun q => .ok (some q.1, Ev.wipe own q.2) else .ok (none, Ev.wipe own t.2)).nr) = f at h
    cases eG : compGo f r.1 (Ev.wipe own r.2) with
    | fail => rw [eG] at h; exact h.elim
    | raise c x e => exact absurd eG (compGo_noraise fun x en c a e => by rw [← hf]; exact Res.nr_ne)
    | ok q =>
      rw [eG] at h
      have h := (show okR R W _ σ H F env Q (if q.1.length ≤ sizeLine then .ok (.lst q.1, Ev.restore own r.2 q.2) else .fail) from h)
      by_cases hL : q.1.length ≤ sizeLine
      case neg => rw [if_neg hL] at h; exact h.elim
      rw [if_pos hL] at h
      intro J H1 F1 fs k1 s1 io old hfs n1
      obtain ⟨Gp, Yp, wk, hG, hy⟩ := io.std k1
      intro D hD1
      have ow1 : ∀ a, OW R.ms (wipeF own F1) a ↔ OW R.ms F1 a := fun a => OW_wipeF hms
      obtain ⟨out0, enE⟩ := q
      refine lc_it wk (g := fun v σ H Q => ∃ D, rdG (R.hide D) tg v σ H Q) (tt := fun σ H Q => ∃ D, rdC (R.hide D) nc evC σ H Q) (te := fun σ H Q => ∃ D, rdE (R.hide D) WF kde evE σ H Q) (vs := own) (σ := σ) (H1 := H1) (D := D) (Qd := fun H => Q (.ref D) H) (CompInv R kde.own kde.stb (nc && kde.nor) own σ H1 F1 r.2 D f r.1 out0 enE) ?_ ?_ ?_ ?_
      · -- the first turn
        refine ⟨wipeF own F1, Ev.wipe own r.2, [], out0, [], [], (k1.same (same_upd hD1) (lok_lst k1.lok (Nat.zero_le _))).wipe hms, wipe_wipe, fun j hj => if_pos hj, Step.same (same_upd hD1), ⟨upd_same, fun j hj => k1.nf hD1 j (wipeF_sub hj).1⟩, eG, rfl, AccOk.nil, fun _ => ⟨rfl, rfl, same_upd hD1⟩⟩
      · -- the walk stands
        rintro i H2 hi ⟨F2, en, done, out, accV, facc, k2, wen, wF, s, hD, go, eL, acc, nb⟩
        refine hG H2 ?_
        rcases Bool.or_eq_true_iff.mp cI with z | z
        · rw [z, OO_true]
          exact fun a o e n => s.st a o e fun w => n ((ow1 a).mp w)
        · exact fun a o e _ => (nb z).2.2 a o e
      · intro i x H2 H2' hi p y
        subst hf
        obtain ⟨F, env, p, fp, env', g1, g2, g3, g4, g5, g6⟩ := comp_turn (WF := WF) hms hsl cE cI k1 hD1 hL old hfs hy hi p y
        refine ⟨D, F, env, p, fp, env', g1, g2, g3, g4, g5, fun σ' F' a b => ?_⟩
        obtain ⟨e1, F2, env2, k2, c2⟩ := g6 σ' F' a b
        refine ⟨e1, D, F2, env2, k2, ?_⟩
        cases ec : evC env2 with
        | fail => rw [ec] at c2; exact c2
        | raise c x e => rw [ec] at c2; exact c2
        | ok t =>
          rw [ec] at c2
          intro H3 F3 k3 s3 n3
          have c3 := c2 H3 F3 k3 s3 n3
          have c3 := (show (if t.1 = true then _ else _) from c3)
          by_cases ct : t.1 = true
          · rw [if_pos ct] at c3
            show if t.1 = true then _ else _
            rw [if_pos ct]
            exact ⟨D, c3⟩
          · rw [if_neg ct] at c3
            show if t.1 = true then _ else _
            rw [if_neg ct]
            exact c3
      · rintro H2 ⟨F2, en, done, out, accV, facc, k2, wen, wF, s, ⟨hD, nDF⟩, go, eL, acc, nb⟩
        rw [List.drop_length] at go
        cases go
        rw [List.append_nil] at eL
        subst eL
        have ksh : EnvOk R σ H2 (restF own F1 F2) (Ev.restore own r.2 enE) := EnvOk.restore hms k1 k2 s
        have sub1 : ∀ j a, a ∈ restF own F1 F2 j → a ∈ F1 j ∨ OW R.ms F1 a ∨ H1 a = none := fun j a ha => by
          unfold restF at ha
          split at ha
          · exact .inl ha
          · rcases s.sub j a ha with z | z | z
            · exact .inl (wipeF_sub z).1
            · exact .inr (.inl ((ow1 a).mp z))
            · exact .inr (.inr z)
        have s12 : Step R.ms H1 F1 H2 (restF own F1 F2) := ⟨fun a o e n => s.st a o e fun z => n ((ow1 a).mp z), sub1, fun a ha => by
          rcases s.ow a ((OW_restF hms).mp ha) with z | z
          · exact .inl ((ow1 a).mp z)
          · exact .inr z, s.dom⟩
        have nDr : ∀ j, D ∉ restF own F1 F2 j := fun j hj => by
          unfold restF at hj
          split at hj
          · exact k1.nf hD1 j hj
          · exact nDF j hj
        have frr : kde.own = true → ∀ a ∈ facc, ∀ j, a ∉ restF own F1 F2 j := fun z a ha j hj => by
          unfold restF at hj
          split at hj
          · rename_i c
            rcases acc.nw z a ha with w | w
            · exact k1.free (hms j c) a hj ((ow1 a).mp w)
            · exact k1.nf w j hj
          · exact acc.fr z a ha j hj
        have cons : ∀ {P : Addr → Prop}, P D → (∀ a ∈ facc, P a) → ∀ a ∈ D :: facc, P a := fun p q a ha => by
          rcases List.mem_cons.mp ha with rfl | ha
          · exact p
          · exact q a ha
        refine h (.ref D) H2 _ (D :: facc) ksh (s1.trans s12) ⟨RepF.new hD acc.rep, cons (k1.dom D hD1).2 acc.old, fun z => cons (fun ⟨j, _, hj⟩ => nDr j hj) fun a ha w => acc.st z a ha ((OW_restF hms).mp w),
          fun z => List.nodup_cons.mpr ⟨acc.nD, acc.nd z⟩, fun z => cons ⟨_, hD⟩ (acc.mu z), fun z => cons nDr (frr z), fun z => cons (.inr (s1.dom D hD1)) fun a ha => ?_, fun z => cons (k1.dom D hD1).1 (acc.h0 z), fun _ l e => ?_⟩ fun z => ?_
        · rcases acc.nw z a ha with w | w
          · exact s1.ow a ((ow1 a).mp w)
          · exact .inr (s1.dom a w)
        · cases e
          exact ⟨D, accV, facc, rfl, hD, acc.rep, s1.dom D hD1, nDr, (k1.dom D hD1).1⟩
        · obtain ⟨z1, z2⟩ := Bool.and_eq_true_iff.mp z
          obtain ⟨a1, a2, a3⟩ := n1 z1
          obtain ⟨b1, b2, b3⟩ := nb z2
          refine ⟨?_, ?_, fun a o e => b3 a o (a3 a o e)⟩
          · rw [← a1]
            funext j
            unfold restF
            split
            · rfl
            · rename_i c
              rw [b1]; exact wipeF_ne c
          · rw [b2, restore_wipe, a2]
def notSet : Expr → Bool
  | .Set _ _ _ => false
  | _ => true
theorem fold_pure {iter : Expr} {env : PySem.Env} (h : notSet iter = true) : ∀ x, foldedSetIterable iter env x = pure x := by
  intro x
  unfold foldedSetIterable
  split
  · simp [notSet] at h
  · rfl
/-- [elt for tg in iter if ..] -/
theorem ev_comp {elt tgE iter : Expr} {ifs : List Expr} {scope : Scope} {ownP : List (Str × Nat)} {pos : Pos} {tg : T} {evI : Env → Res (List PV × Env)} {evC : Env → Res (Bool × Env)} {evE : Env → Res (PV × Env)}
    (hc : X.calm = true) (hN : X.N.Nodup) (hi : PI X tgE iter (rdI R W stb nI evI)) (ok : BlkOk X.N X.env.scope scope ownP) (hms : ∀ i ∈ ownP.map (·.2), i ∉ R.ms) (hsl : ∀ i ∈ tg.sl, i ∈ ownP.map (·.2))
    (cE : (kde.stb || (nc && kde.nor)) = true) (cI : (stb || (nc && kde.nor)) = true)
    (hg : ∀ D (s : Shared) (H : Hp) (C : Addr) (cl : List (Str × Addr)) (fp : List Addr), PG (X.blk s H scope (compEnvC scope cl C X.env) fp) tgE (rdG (R.hide D) tg))
    (ht : ∀ D (s : Shared) (H : Hp) (C : Addr) (cl : List (Str × Addr)) (fp : List Addr), PTs (X.blk s H scope (compEnvC scope cl C X.env) fp) ifs (rdC (R.hide D) nc evC))
    (he : ∀ D (s : Shared) (H : Hp) (C : Addr) (cl : List (Str × Addr)) (fp : List Addr), PE (X.blk s H scope (compEnvC scope cl C X.env) fp) elt (rdE (R.hide D) WF kde evE))
    (hf : notSet iter = true) :
    PE X (.ListComp elt [⟨tgE, iter, ifs, 0⟩] scope pos) (rdE R W ⟨kde.own, kde.stb, true, nI && (nc && kde.nor)⟩ (evComp (ownP.map (·.2)) tg evI evC evE)) :=
  PE.by (pe_lc hc hN hi ok (fun s H C cl fp => PG.any fun D => hg D s H C cl fp) (fun s H C cl fp => PTs.any fun D => ht D s H C cl fp) (fun s H C cl fp => PE.any fun D => he D s H C cl fp) (fold_pure hf)) fun σ H Q F env k h => comp_law hms hsl cE cI k h
end
end Ev

/-! EvE15: what a def promises; calls. -/
namespace Ev
open PySem PySem.Spec PyProof.Rows L2
/-- a def's promise, where no guard stands -/
structure FnG (P : Program) (w : World) (K : PySem.W.Frag) (mg : Str → Option Value) (base : Heap) (CX : CXT) (k : Nat) (f : Addr) (fd : FuncData) (ps : List Str) (sp : Sp) : Prop where
  len : ∀ vs H Q E, sp vs H Q E → vs.length = ps.length
  run : ∀ (A : Around) (outer : List PySem.Env) (s : Shared) (H : Hp) (args : Args) (us : List Value) (vs : List V) (Q : VK) (E : XK), Room k A → A.guards = some [] → Env0 P w K mg base A outer s H → BindsTo s fd args (ps.zip us) → Vals vs us → sp vs H Q E →
    codeAny (model P w) A (.call (.ref f) args) (L2.CR CX outer P w H s Q E) s
theorem fn_ofG {CX : CXT} {P : Program} {w : World} {K : PySem.W.Frag} {mg : Str → Option Value} {base : Heap} {k : Nat} {f : Addr} {name qual : Str} {params : Arguments} {body : List Stmt} {scope : Scope} {dV kV doc pm cdv ct oc : Value} {an od : Option Addr}
    {osl : Array (Option Value)} {N ps : List Str} {sp : Sp} (lk : K.lookup f = some ⟨oc, od, .func (PySem.W.fnOf name qual params body scope dV kV doc pm an cdv ct), osl⟩) (hcd : PySem.W.codeIn K cdv qual = true) (S : FnScope N ps scope)
    (len : ∀ vs H Q E, sp vs H Q E → vs.length = ps.length)
    (hbody : ∀ (A : Around) (outer : List PySem.Env) (s : Shared) (H : Hp) (vs : List V) (Q : VK) (E : XK), Room k (A.deeper (envOfC qual scope s.heap.objs.size f cdv)) → A.guards = some [] → sp vs H Q E →
      ∃ t, PSs (cxOf CX P w K mg base N qual scope f cdv A outer s H E) body t ∧ t { nx := fun _ H' => Q .non H', rt := Q } (L2.start N vs) H) :
    FnG P w K mg base CX (k + 1) f (PySem.W.fnOf name qual params body scope dV kV doc pm an cdv ct) ps sp := by
  refine ⟨len, fun A outer s H args us vs Q E hr hgu e0 hb r hsp => ?_⟩
  have hl := len _ _ _ _ hsp
  have KX : K.In s.heap := e0.mod.kin.keeps fun b o e => (e0.bs b o e).1
  have lim : s.heap.NoLimit := e0.mod.nolimit.keeps fun b o e => (e0.bs b o e).1
  have hkind : ∀ y ∈ ps.zip us, scope.names.lookup y.1 = some .local ∨ (scope.names.lookup y.1 = some .cell ∧ ((cellsFrom (s.heap.objs.size + 1) scope.names []).lookup y.1).isSome = true) := fun ⟨n, v⟩ hy => by
    rcases S.par n (List.of_mem_zip hy).1 with q | q
    · exact .inl q
    · exact .inr ⟨q, PySem.W.cellsFrom_some _ _ _ (.inl q)⟩
  refine codeAny_call_function hr.depth (KX _ _ lk) rfl S.co S.gen rfl (PySem.W.codeRec_of KX hcd) (hb _ _ _ _ ?_)
  refine wpAny_newFunctionEnv_cells S.kind hkind fun env he s1 x => ?_
  subst he
  refine ⟨lim.keeps x.toInCall.keep, codeAny_func ?_⟩
  obtain ⟨t, ht, hq⟩ := hbody A outer s H vs Q E (hr.deeper _) hgu hsp
  have I : Inv (cxOf CX P w K mg base N qual scope f cdv A outer s H E) [] (L2.start N vs) H s1 := inv_start S hr.hd e0 hl r x
  refine wpAny_mono (ht.run [] s1 (L2.start N vs) H _ I hq) (fun fl s' hs => ?_) fun e s' hs => hs
  have fin : ∀ {σ' : St} {H' : Hp} {v : V} {u : Value}, Inv (cxOf CX P w K mg base N qual scope f cdv A outer s H E) [] σ' H' s' → RelV v u → Q v H' → CE outer P w H s Q u s' :=
    fun {σ' H' v u} J rv q => ⟨v, H', J.os, J.bare, J.base, J.hok, rv, q⟩
  cases fl with
  | ret u =>
    obtain ⟨v, σ', H', J, rv, q⟩ := hs
    exact fin J rv q
  | next =>
    obtain ⟨σ', H', J, q⟩ := hs
    exact fin (v := V.non) (u := Value.none) J rfl q
  | brk =>
    obtain ⟨_, _, _, q⟩ := hs
    exact False.elim q
  | cont =>
    obtain ⟨_, _, _, q⟩ := hs
    exact False.elim q
section
variable {X : Cx} {W : WX} {CX : CXT} {k : Nat} {f : Addr} {fd : FuncData} {ps : List Str} {sp : Sp} {x : Str} {p pos : Pos} {e : Expr} {es : List Expr} {t : TA}
theorem run_fnG {pins : List (Addr × Obj)} {σ : St} {H : Hp} {s : Shared} {Q : VK} {us : List Value} {vs : List V} (F : FnG X.prog X.w X.K X.mg X.base CX k f fd ps sp) (hr : Room k X.A) (hgu : X.A.guards = some []) (hb : Binds X.K fd ps []) (tk : ∀ σ, PassesAt CX X σ (WE W σ))
    (I : Inv X pins σ H s) (r : Vals vs us) (h : sp vs H Q (WE W σ)) : wpAny (model X.prog X.w) X.A (call (.ref f) us) (EP X pins σ Q) X.xe s := by
  have hl : us.length = ps.length := by rw [← r.length]; exact F.len _ _ _ _ h
  have b := hb s us I.kIn (by rw [List.append_nil]; exact hl)
  rw [List.append_nil] at b
  refine wpAny_call (codeAny_mono (F.run X.A X.stack s H ⟨us, []⟩ us vs Q (WE W σ) hr hgu I.env0 b r h) fun r s' hq => ?_)
  cases r with
  | error e => exact tk σ pins H s e s' I hq
  | ok fl =>
    cases fl with
    | ret u => exact I.after hq
    | next => exact False.elim hq
    | brk => exact False.elim hq
    | cont => exact False.elim hq
theorem pe_callG (F : FnG X.prog X.w X.K X.mg X.base CX k f fd ps sp) (hr : Room k X.A) (hgu : X.A.guards = some []) (hg : Gl X x) (hm : X.mg x = some (.ref f)) (hk : PySem.W.keepIn X.K (.ref f) = true) (hb : Binds X.K fd ps []) (tk : ∀ σ, PassesAt CX X σ (WE W σ))
    (ha : PA X (e :: es) t) (hn : noStar e = true) (hn' : es.all noStar = true) (hdb : (x == ("__debug__" : Str)) = false) :
    PE X (.Call (.Name x p) (e :: es) [] pos) (fun σ H Q => t σ H fun vs H1 => sp vs H1 Q (WE W σ)) := by
  refine ⟨fun pins s σ H Q I h => ?_⟩
  refine wpAny_Call_Name_kw (ld_glob I hg hm ?_ hdb)
  refine PySem.W.callWith_K (h₀ := X.base) I.ok.mod.kin hk (thn (ha.run pos pins s σ H _ I h) fun us s1 ⟨vs, H1, I1, r, q⟩ => ⟨I1.kIn, ?_⟩) (star_cons hn _) (star_none hn' _ _)
  exact run_fnG F hr hgu hb tk I1 r q
theorem pe_callG0 (F : FnG X.prog X.w X.K X.mg X.base CX k f fd ps sp) (hr : Room k X.A) (hgu : X.A.guards = some []) (hg : Gl X x) (hm : X.mg x = some (.ref f)) (hk : PySem.W.keepIn X.K (.ref f) = true) (hb : Binds X.K fd ps []) (tk : ∀ σ, PassesAt CX X σ (WE W σ)) (hdb : (x == ("__debug__" : Str)) = false) :
    PE X (.Call (.Name x p) [] [] pos) (fun σ H Q => sp [] H Q (WE W σ)) := by
  refine ⟨fun pins s σ H Q I h => ?_⟩
  refine wpAny_Call_Name_kw (ld_glob I hg hm ?_ hdb)
  exact PySem.W.callWith_K0 I.kIn hk (run_fnG (us := []) F hr hgu hb tk I .nil h)
end

/-! ### the promise by the evaluator -/
/-- a row of values, each with its lists -/
inductive RepN (G : Gl0) (H : Hp) : List PV → List V → List (List Addr) → Prop
  | nil : RepN G H [] [] []
  | cons {p : PV} {l : List PV} {v : V} {vs : List V} {f : List Addr} {fs : List (List Addr)} (h : RepF G H p v f) (t : RepN G H l vs fs) : RepN G H (p :: l) (v :: vs) (f :: fs)
theorem RepL.n {G : Gl0} {H : Hp} : ∀ {l : List PV} {vs : List V} {fp : List Addr}, RepL G H l vs fp → ∃ fs, RepN G H l vs fs ∧ fs.flatten = fp
  | [], _, _, h => by
    obtain ⟨rfl, rfl⟩ := h
    exact ⟨[], .nil, rfl⟩
  | x :: l, _, _, h => by
    obtain ⟨v, vs, f, f', rfl, rfl, h1, h2⟩ := h
    obtain ⟨fs, h3, rfl⟩ := RepL.n h2
    exact ⟨f :: fs, .cons h1 h3, rfl⟩
theorem RepN.l {G : Gl0} {H : Hp} {l : List PV} {vs : List V} {fs : List (List Addr)} (h : RepN G H l vs fs) : RepL G H l vs fs.flatten := by
  induction h with
  | nil => exact RepL.nil
  | cons h _ ih => exact RepL.cons h ih
/-- the first argument's lists, where it comes by reference -/
def refd (br : Bool) : List (List Addr) → List Addr
  | f :: _ => if br = true then f else []
  | [] => []
/-- behind the callee -/
structure After (G : Gl0) (br : Bool) (H : Hp) (fs : List (List Addr)) (v0 : Option V) (b : PV) (H' : Hp) (f0 : List Addr) : Prop where
  st : Stay (fun a => a ∈ refd br fs) H H'
  dom : ∀ a, H' a = none → H a = none
  lok : LenOk G.K H'
  rep : br = true → ∃ v, v0 = some v ∧ RepF G H' b v f0
  nd : br = true → f0.Nodup
  mu : br = true → ∀ a ∈ f0, ∃ vs, H' a = some (.lst vs)
  nw : br = true → ∀ a ∈ f0, a ∈ refd br fs ∨ H a = none
structure Back (G : Gl0) (br fresh : Bool) (H : Hp) (fs : List (List Addr)) (H' : Hp) (f0 : List Addr) (p : PV) (z : V) (fz : List Addr) : Prop where
  rep : RepF G H' p z fz
  sub : ∀ a ∈ fz, a ∈ fs.flatten ∨ H a = none
  st : br = true → ∀ a ∈ fz, a ∉ f0
  nw : fresh = true → ∀ a ∈ fz, H a = none
  nd : fresh = true → fz.Nodup
  mu : fresh = true → ∀ a ∈ fz, ∃ vs, H' a = some (.lst vs)
/-- what the arguments must be -/
structure ArgsOk (G : Gl0) (br : Bool) (np : Nat) (H : Hp) (args : List PV) (vs : List V) (fs : List (List Addr)) : Prop where
  rep : RepN G H args vs fs
  len : args.length = np
  lok : LenOk G.K H
  nd : (refd br fs).Nodup
  mu : ∀ a ∈ refd br fs, ∃ xs, H a = some (.lst xs)
  dj : br = true → ∀ i f, 0 < i → fs[i]? = some f → ∀ a ∈ f, a ∉ refd br fs
def spE (G : Gl0) (cls : Nat → Addr) (C : List PV → CR) (br fresh : Bool) (np : Nat) : Sp := fun vs H Q E => ∃ args fs, ArgsOk G br np H args vs fs ∧ match C args with
  | .ok p b => ∀ z H' fz f0, After G br H fs vs[0]? b H' f0 → Back G br fresh H fs H' f0 p z fz → Q z H'
  | .raise c x b => ∀ d y H' f0, After G br H fs vs[0]? b H' f0 → H' d = some (.xd [(G.fld c, y)]) → RepF G H' x y [] → E (.ref (cls c)) (some d) H'
  | .fail => False
theorem RepN.length {G : Gl0} {H : Hp} {l : List PV} {vs : List V} {fs : List (List Addr)} (h : RepN G H l vs fs) : vs.length = l.length ∧ fs.length = l.length := by
  induction h with
  | nil => exact ⟨rfl, rfl⟩
  | cons _ _ ih => simp [ih.1, ih.2]
theorem spE_len {G : Gl0} {cls : Nat → Addr} {C : List PV → CR} {br fresh : Bool} {np : Nat} {vs : List V} {H : Hp} {Q : VK} {E : XK} (h : spE G cls C br fresh np vs H Q E) : vs.length = np := by
  obtain ⟨args, fs, a, _⟩ := h
  rw [a.rep.length.1]; exact a.len
/-- nothing is promised: nothing is asked -/
theorem refd_false {fs : List (List Addr)} : refd false fs = [] := by
  cases fs <;> rfl
end Ev

/-! EvE16: calls of defs as expressions. -/
namespace Ev
open PySem PySem.Spec PyProof.Rows L2
variable {R : Fr0} {W : WXX} {σ : St} {H H1 H2 H' : Hp} {F F1 F2 F' : Nat → List Addr} {env env1 env2 env' : Env} {o1 s1 n1 fresh : Bool} {np : Nat} {C : List PV → CR}
theorem same_of_stay {br : Bool} {fs : List (List Addr)} (h : Stay (fun a => a ∈ refd false fs) H H') : ∀ a o, H a = some o → H' a = some o := fun a o e => h a o e (by rw [refd_false]; simp)
section
variable {X : Cx}
/-- a call by value: what the promise asks, from the evaluator -/
theorem call_law {Q : VK} {vs : List V} {fp : List Addr} {q : List PV × Env} (hlen : ∀ args, C args ≠ .fail → args.length = np)
    (k2 : EnvOk R σ H2 F2 q.2) (s2 : Step R.ms H F H2 F2) (v2 : RowOk R o1 s1 H F H2 F2 q.1 vs fp) (nr : Nor n1 H F env H2 F2 q.2) (h2 : okR R W ⟨fresh, fresh || s1, fresh, n1⟩ σ H F env Q (runCall (C q.1) q.2)) :
    spE R.G R.cls C false fresh np vs H2 Q (WE W σ) := by
  obtain ⟨fs, rn, ef⟩ := v2.rep.n
  have hc : C q.1 ≠ .fail := fun e => by rw [e] at h2; exact h2
  refine ⟨q.1, fs, ⟨rn, hlen _ hc, k2.lok, by rw [refd_false]; exact List.nodup_nil, fun a z => (by rw [refd_false] at z; simp at z), nofun⟩, ?_⟩
  cases e : C q.1 with
  | fail => exact hc e
  | ok p b =>
    rw [e] at h2
    intro z H' fz f0 af bk
    have same := same_of_stay (br := false) af.st
    refine h2 z H' F2 fz (k2.same same af.lok) (s2.trans (Step.same same)) ⟨bk.rep, fun a ha => ?_, fun c a ha => ?_, bk.nd, bk.mu, fun c a ha => k2.nf (bk.nw c a ha), fun c a ha => .inr (s2.dom a (bk.nw c a ha)), fun c a ha => (k2.dom a (bk.nw c a ha)).1, fun c l el => ?_⟩ fun c => ?_
    · rcases bk.sub a ha with w | w
      · exact v2.old a (ef ▸ w)
      · exact (k2.dom a w).2
    · rcases Bool.or_eq_true_iff.mp c with w | w
      · exact fun ⟨j, _, hj⟩ => k2.nf (bk.nw w a ha) j hj
      · rcases bk.sub a ha with y | y
        · exact v2.st w a (ef ▸ y)
        · exact fun ⟨j, _, hj⟩ => k2.nf y j hj
    · subst el
      obtain ⟨a, xs, f, rfl, ha, hl, rfl⟩ := bk.rep
      have hn := bk.nw c a (by simp)
      exact ⟨a, xs, f, rfl, ha, hl, s2.dom a hn, k2.nf hn, (k2.dom a hn).1⟩
    · obtain ⟨e1, e2, e3⟩ := nr c
      exact ⟨e1, e2, fun a o e => same a o (e3 a o e)⟩
  | raise c x b =>
    rw [e] at h2
    intro d y H' f0 af hd ry
    have same := same_of_stay (br := false) af.st
    exact h2 d H' F2 (k2.same same af.lok) (s2.trans (Step.same same)) ⟨y, [], hd, ry, fun a z => by simp at z, rfl⟩
theorem ev_call {CX : CXT} {k : Nat} {f : Addr} {fd : FuncData} {ps : List Str} {x : Str} {p pos : Pos} {e : Expr} {es : List Expr} {evs : Env → Res (List PV × Env)} (hlen : ∀ args, C args ≠ .fail → args.length = np)
    (F : FnG X.prog X.w X.K X.mg X.base CX k f fd ps (spE R.G R.cls C false fresh np)) (hr : Room k X.A) (hgu : X.A.guards = some []) (hg : Gl X x) (hm : X.mg x = some (.ref f)) (hk : PySem.W.keepIn X.K (.ref f) = true) (hb : Binds X.K fd ps []) (tk : ∀ σ, PassesAt CX X σ (WE W σ))
    (ha : PA X (e :: es) (rdA R W o1 s1 n1 evs)) (hn : noStar e = true) (hn' : es.all noStar = true) (hdb : (x == ("__debug__" : Str)) = false) :
    PE X (.Call (.Name x p) (e :: es) [] pos) (rdE R W ⟨fresh, fresh || s1, fresh, n1⟩ fun env => (evs env).bind fun r => runCall (C r.1) r.2) :=
  PE.by (pe_callG F hr hgu hg hm hk hb tk ha hn hn' hdb) fun σ H Q F env k h => ⟨F, env, k, okR.bindA Step.refl h fun q vs H2 F2 fp _ k2 s2 v2 nr h2 => call_law hlen k2 s2 v2 nr h2⟩
theorem ev_call0 {CX : CXT} {k : Nat} {f : Addr} {fd : FuncData} {ps : List Str} {x : Str} {p pos : Pos} (hlen : ∀ args, C args ≠ .fail → args.length = np)
    (F : FnG X.prog X.w X.K X.mg X.base CX k f fd ps (spE R.G R.cls C false fresh np)) (hr : Room k X.A) (hgu : X.A.guards = some []) (hg : Gl X x) (hm : X.mg x = some (.ref f)) (hk : PySem.W.keepIn X.K (.ref f) = true) (hb : Binds X.K fd ps []) (tk : ∀ σ, PassesAt CX X σ (WE W σ)) (hdb : (x == ("__debug__" : Str)) = false) :
    PE X (.Call (.Name x p) [] [] pos) (rdE R W ⟨fresh, true, fresh, true⟩ fun env => (Res.ok (([] : List PV), env)).bind fun r => runCall (C r.1) r.2) :=
  PE.by (pe_callG0 F hr hgu hg hm hk hb tk hdb) fun σ H Q F env k h => call_law (o1 := true) (s1 := true) (n1 := true) (q := ([], env)) hlen k Step.refl RowOk.nil Nor.refl (by rw [Bool.or_true]; exact h)
/-- the heap changes outside what the slots hold -/
theorem EnvOk.heap {O : Addr → Prop} (k : EnvOk R σ H F env) (st : Stay O H H') (ls : Lsts O H) (n : ∀ j, ∀ a ∈ F j, ¬ O a) (ho : ∀ a, O a → R.H0 a = none ∨ R.B a) (dom : ∀ a, H' a = none → H a = none) (lok : LenOk R.G.K H') : EnvOk R σ H' F env :=
  ⟨k.len, fun i p e c => let ⟨v, h1, h2⟩ := k.slot i p e c; ⟨v, h1, RepF.stay st ls _ _ _ h2 (n i)⟩, k.non, k.nd, fun i hi a ha => let ⟨vs, e⟩ := k.mu i hi a ha; ⟨vs, st a _ e (n i a ha)⟩, k.ow, k.dj, k.old,
    fun a o e c => st a o (k.keep a o e c) fun z => (ho a z).elim (fun w => by rw [w] at e; cases e) c, fun a e => k.dom a (dom a e), lok, k.rf⟩
/-- the state's name and the further arguments -/
theorem ev_acallr {i : Nat} {x : Str} {px : Pos} {es : List Expr} {evs : Env → Res (List PV × Env)} (hN : X.N[i]? = some x) (hv : Vis X.env.scope x) (hd : (x == ("__debug__" : Str)) = false) (hcd : (x == ("__classdict__" : Str)) = false) (hs : PA X es (rdA R W o1 s1 n1 evs)) :
    PA X (.Name x px :: es) (fun σ H Q => ∃ v, σ[i]? = some (some v) ∧ rdA R W o1 s1 n1 evs σ H fun vs H1 => Q (v :: vs) H1) :=
  PA.imp (pa_cons (pe_var hN hv hd hcd) hs (star_cons rfl _)) fun σ H Q h => h
theorem setset {σ : St} {i : Nat} {v : V} (h : σ[i]? = some (some v)) : σ.set i (some v) = σ := by
  apply List.ext_getElem?
  intro j
  rw [List.getElem?_set]
  split
  · rename_i e
    subst e
    split
    · exact h.symm
    · rename_i c
      rw [List.getElem?_eq_none (by omega)] at h
      cases h
  · rfl
theorem callr_law {Q : VK} {vs : List V} {fp : List Addr} {q : List PV × Env} {i : Nat} {v0 : V} (hlen : ∀ args, C args ≠ .fail → args.length = np) (hi : i ∈ R.ms) (hv0 : σ[i]? = some (some v0))
    {sx : Bool} (k2 : EnvOk R σ H2 F2 q.2) (s2 : Step R.ms H F H2 F2) (vrep : RepL R.G H2 q.1 vs fp) (vold : ∀ a ∈ fp, R.A a) (hstI : ∀ a ∈ fp, a ∉ F2 i) (hsx : sx = true → ∀ a ∈ fp, ¬ OW R.ms F2 a) (h2 : okR R W ⟨fresh, sx, fresh, false⟩ σ H F env Q ((get q.2 i).bind fun s => runCallR (C (s.1 :: q.1)) i q.2)) :
    spE R.G R.cls C true fresh np (v0 :: vs) H2 Q (WE W σ) := by
  obtain ⟨fs, rn, ef⟩ := vrep.n
  rcases get_ok (env := q.2) (i := i) with ⟨p0, hu, hs, g⟩ | g
  case inr => rw [g] at h2; exact h2.elim
  rw [g] at h2
  have h2 : okR R W ⟨fresh, sx, fresh, false⟩ σ H F env Q (runCallR (C (p0 :: q.1)) i q.2) := h2
  have hc : C (p0 :: q.1) ≠ .fail := fun e => by rw [e] at h2; exact h2
  obtain ⟨v, hv, r0⟩ := k2.slot i _ hs hu
  rw [hv0] at hv
  cases hv
  have hst : ∀ a ∈ fp, a ∉ F2 i := hstI
  have il : i < q.2.length := by
    rcases Nat.lt_or_ge i q.2.length with h | h
    · exact h
    · rw [List.getElem?_eq_none h] at hs; cases hs
  -- behind the callee
  have fin : ∀ {H' : Hp} {f0 : List Addr} {b : PV}, After R.G true H2 (F2 i :: fs) (some v0) b H' f0 → EnvOk R σ H' (setF (drop1 F2 i) (q.2.set i .undef).length i f0) ((q.2.set i .undef).set i b) ∧ Step R.ms H2 F2 H' (setF (drop1 F2 i) (q.2.set i .undef).length i f0) := fun {H' f0 b} af => by
    have O : ∀ a, a ∈ refd true (F2 i :: fs) ↔ a ∈ F2 i := fun a => .rfl
    have kd := (k2.drop i).heap (O := fun a => a ∈ refd true (F2 i :: fs)) af.st (fun a ha => k2.mu i hi a ha) (fun j a ha hb => ?_) (fun a ha => ?_) af.dom af.lok
    · obtain ⟨v, ev, rb⟩ := af.rep rfl
      cases ev
      have nw : ∀ a ∈ f0, a ∈ F2 i ∨ H2 a = none := af.nw rfl
      have dis : ∀ a ∈ f0, ∀ j, j ≠ i → a ∉ drop1 F2 i j := fun a ha j hj hb => by
        rw [drop1_ne hj] at hb
        rcases nw a ha with w | w
        · exact k2.dj i hi j hj a w hb
        · exact k2.nf w j hb
      have ks := kd.set rb (fun a ha => ?_) (fun j hj n a ha => dis a ha j n) (fun _ => ⟨af.nd rfl, af.mu rfl, fun a ha => ?_, fun a ha j n => dis a ha j n⟩) (fun w hw => by have := (k2.rf i w hw).2; rw [hv0] at this; cases this; rfl)
      · rw [setset hv0] at ks
        refine ⟨ks, fun a o e n => af.st a o e fun z => n ⟨i, hi, z⟩, fun j a ha => ?_, fun a ⟨j, hj, ha⟩ => ?_, af.dom⟩
        · by_cases c : j = i
          · subst c
            rw [setF_same (by rw [List.length_set]; exact il)] at ha
            rcases nw a ha with w | w
            · exact .inl w
            · exact .inr (.inr w)
          · rw [setF_ne c, drop1_ne c] at ha
            exact .inl ha
        · by_cases c : j = i
          · subst c
            rw [setF_same (by rw [List.length_set]; exact il)] at ha
            rcases nw a ha with w | w
            · exact .inl ⟨j, hj, w⟩
            · exact .inr w
          · rw [setF_ne c, drop1_ne c] at ha
            exact .inl ⟨j, hj, ha⟩
      · rcases nw a ha with w | w
        · exact k2.old i a w
        · exact (k2.dom a w).2
      · rcases nw a ha with w | w
        · exact k2.ow i hi a w
        · exact .inl (k2.dom a w).1
    · by_cases c : j = i
      · subst c; rw [drop1_same] at ha; simp at ha
      · rw [drop1_ne c] at ha
        exact k2.dj i hi j c a hb ha
    · rcases k2.ow i hi a ha with w | ⟨_, _, w⟩
      · exact .inl w
      · exact .inr w
  have ee : ∀ b, (q.2.set i .undef).set i b = q.2.set i b := fun b => by rw [List.set_set]
  refine ⟨p0 :: q.1, F2 i :: fs, ⟨.cons r0 rn, hlen _ hc, k2.lok, k2.nd i hi, k2.mu i hi, fun _ j f hj ej a ha hb => ?_⟩, ?_⟩
  · obtain ⟨j', rfl⟩ : ∃ j', j = j' + 1 := ⟨j - 1, by omega⟩
    rw [List.getElem?_cons_succ] at ej
    exact hst a (ef ▸ List.mem_flatten.mpr ⟨f, List.mem_of_getElem? ej, ha⟩) hb
  cases e : C (p0 :: q.1) with
  | fail => exact hc e
  | ok p b =>
    rw [e] at h2
    intro z H' fz f0 af bk
    obtain ⟨k3, s3⟩ := fin af
    rw [ee b] at k3
    have sub : ∀ a ∈ fz, (a ∈ F2 i ∨ a ∈ fp) ∨ H2 a = none := fun a ha => by
      rcases bk.sub a ha with w | w
      · rw [List.flatten_cons] at w
        rcases List.mem_append.mp w with w | w
        · exact .inl (.inl w)
        · exact .inl (.inr (ef ▸ w))
      · exact .inr w
    have notin : sx = true → ∀ a ∈ fz, ∀ j, (j ∈ R.ms) → a ∉ setF (drop1 F2 i) (q.2.set i .undef).length i f0 j := fun esx a ha j hj hb => by
      by_cases c : j = i
      · subst c
        rw [setF_same (by rw [List.length_set]; exact il)] at hb
        exact bk.st rfl a ha hb
      · rw [setF_ne c, drop1_ne c] at hb
        rcases sub a ha with (w | w) | w
        · exact k2.dj j hj i (Ne.symm c) a hb w
        · exact hsx esx a w ⟨j, hj, hb⟩
        · exact k2.nf w j hb
    have nfr : ∀ a, H2 a = none → a ∈ fz → ∀ j, a ∉ setF (drop1 F2 i) (q.2.set i .undef).length i f0 j := fun a hn ha j hb => by
      by_cases c : j = i
      · subst c
        rw [setF_same (by rw [List.length_set]; exact il)] at hb
        exact bk.st rfl a ha hb
      · rw [setF_ne c, drop1_ne c] at hb
        exact k2.nf hn j hb
    refine h2 z H' _ fz k3 (s2.trans s3) ⟨bk.rep, fun a ha => ?_, fun esx a ha ⟨j, hj, hb⟩ => notin esx a ha j hj hb, bk.nd, bk.mu, fun c a ha => nfr a (bk.nw c a ha) ha, fun c a ha => .inr (s2.dom a (bk.nw c a ha)), fun c a ha => (k2.dom a (bk.nw c a ha)).1, fun c l el => ?_⟩ nofun
    · rcases sub a ha with (w | w) | w
      · exact k2.old i a w
      · exact vold a w
      · exact (k2.dom a w).2
    · subst el
      obtain ⟨a, xs, f, rfl, ha, hl, rfl⟩ := bk.rep
      have hn := bk.nw c a (by simp)
      exact ⟨a, xs, f, rfl, ha, hl, s2.dom a hn, nfr a hn (by simp), (k2.dom a hn).1⟩
  | raise c x b =>
    rw [e] at h2
    intro d y H' f0 af hd ry
    obtain ⟨k3, s3⟩ := fin af
    rw [ee b] at k3
    exact h2 d H' _ k3 (s2.trans s3) ⟨y, [], hd, ry, fun a z => by simp at z, rfl⟩
theorem ev_callr {CX : CXT} {i k : Nat} {f : Addr} {fd : FuncData} {ps : List Str} {x y : Str} {p p2 pos : Pos} {es : List Expr} {evs : Env → Res (List PV × Env)} (hlen : ∀ args, C args ≠ .fail → args.length = np) (hi : i ∈ R.ms)
    (F : FnG X.prog X.w X.K X.mg X.base CX k f fd ps (spE R.G R.cls C true fresh np)) (hr : Room k X.A) (hgu : X.A.guards = some []) (hg : Gl X x) (hm : X.mg x = some (.ref f)) (hk : PySem.W.keepIn X.K (.ref f) = true) (hb : Binds X.K fd ps []) (tk : ∀ σ, PassesAt CX X σ (WE W σ))
    (hN : X.N[i]? = some y) (hv : Vis X.env.scope y) (hd : (y == ("__debug__" : Str)) = false) (hcd : (y == ("__classdict__" : Str)) = false)
    (ha : PA X es (rdA R W o1 true n1 evs)) (hn' : es.all noStar = true) (hdb : (x == ("__debug__" : Str)) = false) :
    PE X (.Call (.Name x p) (.Name y p2 :: es) [] pos) (rdE R W ⟨fresh, true, fresh, false⟩ fun env => (get env i).bind fun _ => (evs env).bind fun r => (get r.2 i).bind fun s => runCallR (C (s.1 :: r.1)) i r.2) :=
  PE.by (pe_callG F hr hgu hg hm hk hb tk (ev_acallr hN hv hd hcd ha) rfl hn' hdb) fun σ H Q F env k h => by
    rcases get_ok (env := env) (i := i) with ⟨p0, hu, hs, g⟩ | g
    case inr => rw [g] at h; exact h.elim
    rw [g] at h
    obtain ⟨v0, hv0, _⟩ := k.slot i _ hs hu
    exact ⟨v0, hv0, F, env, k, okR.bindA Step.refl h fun q vs H2 F2 fp _ k2 s2 v2 nr h2 => callr_law hlen hi hv0 k2 s2 v2.rep v2.old (fun a ha hb => v2.st rfl a ha ⟨i, hi, hb⟩) (fun _ a ha => v2.st rfl a ha) h2⟩
theorem ev_aname {i : Nat} {x : Str} {px : Pos} {es : List Expr} {T : TA} (hN : X.N[i]? = some x) (hv : Vis X.env.scope x) (hd : (x == ("__debug__" : Str)) = false) (hcd : (x == ("__classdict__" : Str)) = false) (hs : PA X es T) :
    PA X (.Name x px :: es) (fun σ H Q => ∃ v, σ[i]? = some (some v) ∧ T σ H fun vs H1 => Q (v :: vs) H1) :=
  PA.imp (pa_cons (pe_var hN hv hd hcd) hs (star_cons rfl _)) fun σ H Q h => h
/-- two names: the state and a list that some slot owns -/
theorem ev_callrm {CX : CXT} {i j k : Nat} {f : Addr} {fd : FuncData} {ps : List Str} {x y z : Str} {p p2 p3 pos : Pos} (hlen : ∀ args, C args ≠ .fail → args.length = np) (hi : i ∈ R.ms) (hij : j ≠ i)
    (F : FnG X.prog X.w X.K X.mg X.base CX k f fd ps (spE R.G R.cls C true fresh np)) (hr : Room k X.A) (hgu : X.A.guards = some []) (hg : Gl X x) (hm : X.mg x = some (.ref f)) (hk : PySem.W.keepIn X.K (.ref f) = true) (hb : Binds X.K fd ps []) (tk : ∀ σ, PassesAt CX X σ (WE W σ))
    (hN : X.N[i]? = some y) (hv : Vis X.env.scope y) (hd : (y == ("__debug__" : Str)) = false) (hcd : (y == ("__classdict__" : Str)) = false)
    (hN' : X.N[j]? = some z) (hv' : Vis X.env.scope z) (hd' : (z == ("__debug__" : Str)) = false) (hcd' : (z == ("__classdict__" : Str)) = false) (hdb : (x == ("__debug__" : Str)) = false) :
    PE X (.Call (.Name x p) [.Name y p2, .Name z p3] [] pos) (rdE R W ⟨fresh, false, fresh, false⟩ fun env => (get env i).bind fun s => (get env j).bind fun l => runCallR (C [s.1, l.1]) i env) :=
  PE.by (pe_callG F hr hgu hg hm hk hb tk (ev_aname hN hv hd hcd (ev_aname hN' hv' hd' hcd' pa_nil)) rfl rfl hdb) fun σ H Q F env k h => by
    rcases get_ok (env := env) (i := i) with ⟨p0, hu, hs, g⟩ | g
    case inr => rw [g] at h; exact h.elim
    rw [g] at h
    obtain ⟨v0, hv0, r0⟩ := k.slot i _ hs hu
    have h : okR R W ⟨fresh, false, fresh, false⟩ σ H F env Q ((get env j).bind fun l => runCallR (C [p0, l.1]) i env) := h
    rcases get_ok (env := env) (i := j) with ⟨p1, hu1, hs1, g1⟩ | g1
    case inr => rw [g1] at h; exact h.elim
    rw [g1] at h
    obtain ⟨v1, hv1, r1⟩ := k.slot j _ hs1 hu1
    refine ⟨v0, hv0, v1, hv1, ?_⟩
    refine callr_law (env := env) (q := ([p1], env)) (fp := F j ++ []) (sx := false) hlen hi hv0 k Step.refl ⟨v1, [], F j, [], rfl, rfl, r1, rfl, rfl⟩ (fun a ha => ?_) (fun a ha hb => ?_) (fun e => nomatch e) ?_
    · rw [List.append_nil] at ha; exact k.old j a ha
    · rw [List.append_nil] at ha; exact k.dj i hi j hij a hb ha
    · show okR R W ⟨fresh, false, fresh, false⟩ σ H F env Q ((get env i).bind fun s => runCallR (C [s.1, p1]) i env)
      rw [g]; exact h
end
end Ev

/-! EvE17: statements. -/
namespace Ev
open PySem PySem.Spec PyProof.Rows L2
/-- what is handed back -/
structure RetOk (R : Fr0) (fresh : Bool) (H' : Hp) (F' : Nat → List Addr) (p : PV) (z : V) (fz : List Addr) : Prop where
  rep : RepF R.G H' p z fz
  old : ∀ a ∈ fz, R.A a
  st : ∀ a ∈ fz, ¬ OW R.ms F' a
  nd : fresh = true → fz.Nodup
  mu : fresh = true → ∀ a ∈ fz, ∃ vs, H' a = some (.lst vs)
  h0 : fresh = true → ∀ a ∈ fz, R.H0 a = none
def okS (R : Fr0) (W : WXX) (fresh : Bool) (D : Ends) (H : Hp) (F : Nat → List Addr) : Out → Prop
  | .nx e => ∀ σ' H' F', EnvOk R σ' H' F' e → StepS R.ms H F H' F' → D.nx σ' H'
  | .bk e => ∀ σ' H' F', EnvOk R σ' H' F' e → StepS R.ms H F H' F' → D.bk σ' H'
  | .ct e => ∀ σ' H' F', EnvOk R σ' H' F' e → StepS R.ms H F H' F' → D.ct σ' H'
  | .rt p e => ∀ σ' H' F' z fz, EnvOk R σ' H' F' e → StepS R.ms H F H' F' → RetOk R fresh H' F' p z fz → D.rt z H'
  | .raise c x e => ∀ σ' H' F' d, EnvOk R σ' H' F' e → StepS R.ms H F H' F' → ExcAt R H' c x d → W (.ref (R.cls c)) (some d) σ' H'
  | .fail => False
def rdS (R : Fr0) (W : WXX) (fresh : Bool) (ev : Env → Out) : TS := fun D σ H => ∃ F env, EnvOk R σ H F env ∧ okS R W fresh D H F (ev env)
variable {R : Fr0} {W : WXX} {σ : St} {H H1 H2 H' : Hp} {F F1 F2 F' : Nat → List Addr} {env env1 env2 env' : Env} {o1 s1 n1 fresh : Bool} {D : Ends} {kd : Kd}
theorem okS.step {o : Out} (s : StepS R.ms H F H1 F1) (h : okS R W fresh D H F o) : okS R W fresh D H1 F1 o := by
  cases o with
  | nx e => exact fun σ' H' F' k st => h σ' H' F' k (s.trans st)
  | bk e => exact fun σ' H' F' k st => h σ' H' F' k (s.trans st)
  | ct e => exact fun σ' H' F' k st => h σ' H' F' k (s.trans st)
  | rt p e => exact fun σ' H' F' z fz k st => h σ' H' F' z fz k (s.trans st)
  | raise c x e => exact fun σ' H' F' d k st => h σ' H' F' d k (s.trans st)
  | fail => exact h
/-- an expression first -/
theorem okS.bind {env1 : Env} {r : Res (PV × Env)} {k : PV × Env → Out} {Q1 : VK} (h : okS R W fresh D H F (r.out k))
    (step : ∀ q v H2 F2 fp, r = .ok q → EnvOk R σ H2 F2 q.2 → Step R.ms H F H2 F2 → ValOk R kd H F H2 F2 q.1 v fp → Nor kd.nor H F env1 H2 F2 q.2 → okS R W fresh D H F (k q) → Q1 v H2) :
    okR R W kd σ H F env1 Q1 r := by
  cases r with
  | ok q => exact fun v H2 F2 fp k1 k2 k3 k4 => step q v H2 F2 fp rfl k1 k2 k3 k4 h
  | raise c x e => exact fun d H2 F2 k1 k2 k3 => h σ H2 F2 d k1 k2.s k3
  | fail => exact h
theorem okS.bindA {env1 : Env} {r : Res (List PV × Env)} {k : List PV × Env → Out} {Q1 : List V → Hp → Prop} (h : okS R W fresh D H F (r.out k))
    (step : ∀ q v H2 F2 fp, r = .ok q → EnvOk R σ H2 F2 q.2 → Step R.ms H F H2 F2 → RowOk R o1 s1 H F H2 F2 q.1 v fp → Nor n1 H F env1 H2 F2 q.2 → okS R W fresh D H F (k q) → Q1 v H2) :
    okA R W o1 s1 n1 σ H F env1 Q1 r := by
  cases r with
  | ok q => exact fun v H2 F2 fp k1 k2 k3 k4 => step q v H2 F2 fp rfl k1 k2 k3 k4 h
  | raise c x e => exact fun d H2 F2 k1 k2 k3 => h σ H2 F2 d k1 k2.s k3
  | fail => exact h
theorem okS.bindI {env1 : Env} {stb nor : Bool} {r : Res (List PV × Env)} {k : List PV × Env → Out} {Q1 : L2.It → Hp → Prop} (h : okS R W fresh D H F (r.out k))
    (step : ∀ q J H' F' fs, r = .ok q → EnvOk R σ H' F' q.2 → Step R.ms H F H' F' → ItS R stb F' H' J q.1 fs → (∀ a ∈ fs, R.A a) → (∀ a ∈ fs, (∃ o, H' a = some o) ∧ ¬ OW R.ms F' a) → okS R W fresh D H F (k q) → Q1 J H') :
    okI R W stb nor σ H F env1 Q1 r := by
  cases r with
  | ok q => exact fun J H2 F2 fs k1 k2 k3 k4 k5 _ => step q J H2 F2 fs rfl k1 k2 k3 k4 k5 h
  | raise c x e => exact fun d H2 F2 k1 k2 k3 => h σ H2 F2 d k1 k2.s k3
  | fail => exact h
theorem okS.bindT {env1 : Env} {nor : Bool} {r : Res (PV × Env)} {k : Bool → PV × Env → Out} {QT : Bool → Hp → Prop} (h : okS R W fresh D H F (r.out fun q => (ofO (truth q.1)).out fun b => k b q))
    (step : ∀ b q H2 F2, r = .ok q → EnvOk R σ H2 F2 q.2 → Step R.ms H F H2 F2 → okS R W fresh D H F (k b q) → QT b H2) :
    okT R W nor σ H F env1 QT r := by
  cases r with
  | ok q =>
    have h' : okS R W fresh D H F ((ofO (truth q.1)).out fun b => k b q) := h
    cases e : truth q.1 with
    | none => rw [e] at h'; exact h'.elim
    | some b =>
      rw [e] at h'
      exact ⟨b, e, fun H2 F2 k1 k2 _ => step b q H2 F2 rfl k1 k2 h'⟩
  | raise c x e => exact fun d H2 F2 k1 k2 k3 => h σ H2 F2 d k1 k2.s k3
  | fail => exact h
theorem okS.ofO {α : Type} {o : Option α} {k : α → Out} (h : okS R W fresh D H F ((Ev.ofO o).out k)) : ∃ x, o = some x ∧ okS R W fresh D H F (k x) := by
  cases o with
  | none => exact h.elim
  | some x => exact ⟨x, rfl, h⟩
section
variable {X : Cx}
theorem PS.imp {s : Stmt} {t t' : TS} (h : PS X s t) (k : ∀ D σ H, t' D σ H → t D σ H) : PS X s t' := ⟨fun pins s σ H D I q => h.run pins s σ H D I (k D σ H q)⟩
theorem PSs.imp {s : List Stmt} {t t' : TS} (h : PSs X s t) (k : ∀ D σ H, t' D σ H → t D σ H) : PSs X s t' := ⟨fun pins s σ H D I q => h.run pins s σ H D I (k D σ H q)⟩
/-! ### blocks -/
theorem es_nil : PSs X [] (rdS R W fresh .nx) := PSs.imp pss_nil fun D σ H ⟨F, env, k, h⟩ => h σ H F k StepS.refl
theorem es_cons {s : Stmt} {ss : List Stmt} {e1 e2 : Env → Out} (h1 : PS X s (rdS R W fresh e1)) (h2 : PSs X ss (rdS R W fresh e2)) : PSs X (s :: ss) (rdS R W fresh fun env => (e1 env).seq e2) :=
  PSs.imp (pss_cons h1 h2) fun D σ H ⟨F, env, k, h⟩ => by
    refine ⟨F, env, k, ?_⟩
    cases e : e1 env with
    | nx en =>
      have h : okS R W fresh D H F ((e1 env).seq e2) := h
      rw [e] at h
      exact fun σ' H' F' k' st => ⟨F', en, k', okS.step st h⟩
    | bk en =>
      have h : okS R W fresh D H F ((e1 env).seq e2) := h
      rw [e] at h
      exact h
    | ct en =>
      have h : okS R W fresh D H F ((e1 env).seq e2) := h
      rw [e] at h
      exact h
    | rt p en =>
      have h : okS R W fresh D H F ((e1 env).seq e2) := h
      rw [e] at h
      exact h
    | raise c x en =>
      have h : okS R W fresh D H F ((e1 env).seq e2) := h
      rw [e] at h
      exact h
    | fail =>
      have h : okS R W fresh D H F ((e1 env).seq e2) := h
      rw [e] at h
      exact h
theorem es_never {s : Stmt} : PS X s (rdS R W fresh fun _ => .fail) := PS.imp ps_never fun D σ H ⟨F, env, k, h⟩ => h
theorem es_pass {pos : Pos} : PS X (.Pass pos) (rdS R W fresh .nx) := PS.imp ps_pass fun D σ H ⟨F, env, k, h⟩ => h σ H F k StepS.refl
theorem es_brk {pos : Pos} : PS X (.Break pos) (rdS R W fresh .bk) := PS.imp ps_break fun D σ H ⟨F, env, k, h⟩ => h σ H F k StepS.refl
theorem es_cont {pos : Pos} : PS X (.Continue pos) (rdS R W fresh .ct) := PS.imp ps_continue fun D σ H ⟨F, env, k, h⟩ => h σ H F k StepS.refl
def isComp : Expr → Bool
  | .ListComp _ _ _ _ => true
  | .SetComp _ _ _ _ => true
  | .DictComp _ _ _ _ _ => true
  | _ => false
theorem sw_false {e : Expr} {t : Option Expr} {l : Nat} {env : PySem.Env} (h : isComp e = false) : swapsWith e t l env = pure false := by
  cases e <;> first | rfl | cases h
theorem es_ex {e : Expr} {pos : Pos} {ev : Env → Res (PV × Env)} (he : PE X e (rdE R W kd ev)) (hc : isComp e = false) : PS X (.Expr e pos) (rdS R W fresh fun env => (ev env).out fun r => .nx r.2) :=
  PS.imp (ps_expr he (sw_false hc)) fun D σ H ⟨F, env, k, h⟩ => ⟨F, env, k, okS.bind h fun q v H2 F2 fp _ k2 s2 v2 nr h2 => h2 σ H2 F2 k2 s2.s⟩
theorem es_ret {e : Expr} {pos : Pos} {ev : Env → Res (PV × Env)} (he : PE X e (rdE R W kd ev)) (hs : kd.stb = true) (hf : fresh = true → kd.own = true) : PS X (.Return (some e) pos) (rdS R W fresh fun env => (ev env).out fun r => .rt r.1 r.2) :=
  PS.imp (ps_ret he) fun D σ H ⟨F, env, k, h⟩ => ⟨F, env, k, okS.bind h fun q v H2 F2 fp _ k2 s2 v2 nr h2 =>
    h2 σ H2 F2 v fp k2 s2.s ⟨v2.rep, v2.old, v2.st hs, fun c => v2.nd (hf c), fun c => v2.mu (hf c), fun c => v2.h0 (hf c)⟩⟩
theorem es_retN {pos : Pos} : PS X (.Return none pos) (rdS R W fresh fun env => .rt .non env) :=
  PS.imp ps_retN fun D σ H ⟨F, env, k, h⟩ => h σ H F .non [] k StepS.refl ⟨⟨rfl, rfl⟩, fun _ z => by simp at z, fun _ z => by simp at z, fun _ => List.nodup_nil, fun _ _ z => by simp at z, fun _ _ z => by simp at z⟩
theorem es_ite {c : Expr} {a b : List Stmt} {pos : Pos} {nor : Bool} {evc : Env → Res (PV × Env)} {eva evb : Env → Out} (hc : PT X c (rdT R W nor evc)) (ha : PSs X a (rdS R W fresh eva)) (hb : PSs X b (rdS R W fresh evb)) :
    PS X (.If c a b pos) (rdS R W fresh fun env => (evc env).out fun r => (ofO (truth r.1)).out fun t => if t = true then eva r.2 else evb r.2) :=
  PS.imp (ps_if hc ha hb) fun D σ H ⟨F, env, k, h⟩ => ⟨F, env, k, okS.bindT h fun b q H2 F2 _ k2 s2 h2 => by
    cases b with
    | true => exact ⟨F2, q.2, k2, okS.step s2.s h2⟩
    | false => exact ⟨F2, q.2, k2, okS.step s2.s h2⟩⟩
/-! ### assignments -/
theorem SetS.stp {sl : List Nat} {σ' : St} (h : SetS R sl σ F env σ' F' env') : StepS R.ms H F H F' := ⟨fun a o e _ => e, fun a z => .inl ((h.ow a).mp z), fun _ e => e⟩
theorem asg_law {t : T} {g : PV × Env} {ev : Env → Res (PV × Env)} (hs : kd.stb = true) (k : EnvOk R σ H F env) (h : okS R W fresh D H F ((ev env).out fun r => (ofO (Ev.assign t r.1 r.2)).out fun en => .nx en)) :
    rdE R W kd ev σ H fun x H1 => rdG R t x σ H1 D.nx := ⟨F, env, k, okS.bind h fun q v H2 F2 fp _ k2 s2 v2 nr h2 => by
  obtain ⟨en, e, h3⟩ := okS.ofO h2
  exact ⟨F2, q.2, q.1, fp, en, k2, v2.rep, v2.old, v2.st hs, e, fun σ' F' k' ss => h3 σ' H2 F' k' (s2.s.trans ss.stp)⟩⟩
theorem es_asg {tg e : Expr} {pos : Pos} {t : T} {ev : Env → Res (PV × Env)} (he : PE X e (rdE R W kd ev)) (hs : kd.stb = true) (hg : PG X tg (rdG R t)) (hc : isComp e = false) (hw : swappedStores [tg] e X.env = pure none) (hn : noStar tg = true) :
    PS X (.Assign [tg] e pos) (rdS R W fresh fun env => (ev env).out fun r => (ofO (Ev.assign t r.1 r.2)).out fun en => .nx en) :=
  PS.imp (ps_asg he hg (sw_false hc) hw (by rw [assignEach_cons hn]; rfl)) fun D σ H ⟨F, env, k, h⟩ => asg_law (g := (.non, env)) hs k h
theorem es_asgN {i : Nat} {x : Str} {e : Expr} {pos pos' : Pos} {ev : Env → Res (PV × Env)} (hN : X.N.Nodup) (hi : X.N[i]? = some x) (hx : Loc X.env.scope x) (hf : X.fn x = true ∨ X.env.scope.names.lookup x = some .local) (hm : i ∉ R.ms)
    (he : PE X e (rdE R W kd ev)) (hs : kd.stb = true) (hc : swapsWith e (some (.Name x pos')) pos.line X.env = pure false) :
    PS X (.Assign [.Name x pos'] e pos) (rdS R W fresh fun env => (ev env).out fun r => (ofO (Ev.assign (.n i) r.1 r.2)).out fun en => .nx en) :=
  PS.imp (ps_set hN hi hx he hc hf) fun D σ H ⟨F, env, k, h⟩ => ⟨F, env, k, okS.bind h fun q v H2 F2 fp _ k2 s2 v2 nr h2 =>
    h2 _ H2 _ (k2.put hm v2.rep v2.old (v2.st hs)) (s2.s.trans ⟨fun a o e _ => e, fun a z => .inl ((OW_setF hm).mp z), fun _ e => e⟩)⟩
/-- a value of one's own into a slot that owns -/
theorem putM {i : Nat} {p : PV} {v : V} {fp : List Addr} (hp : R.pin i = none) (k2 : EnvOk R σ H2 F2 env) (s2 : Step R.ms H F H2 F2) (v2 : ValOk R kd H F H2 F2 p v fp) (ho : kd.own = true) :
    EnvOk R (σ.set i (some v)) H2 (setF F2 env.length i fp) (env.set i p) ∧ StepS R.ms H F H2 (setF F2 env.length i fp) := by
  refine ⟨k2.set v2.rep v2.old (fun j hj n a ha => v2.fr ho a ha j) (fun _ => ⟨v2.nd ho, v2.mu ho, fun a ha => .inl (v2.h0 ho a ha), fun a ha j _ => v2.fr ho a ha j⟩) (fun w hw => by rw [hp] at hw; cases hw), s2.st, fun a ⟨j, hj, ha⟩ => ?_, s2.dom⟩
  by_cases c : j = i
  · subst c
    by_cases d : j < env.length
    · rw [setF_same d] at ha
      exact v2.nw ho a ha
    · rw [setF_out d] at ha
      exact s2.ow a ⟨j, hj, ha⟩
  · rw [setF_ne c] at ha
    exact s2.ow a ⟨j, hj, ha⟩
theorem es_masg {i : Nat} {x : Str} {e : Expr} {pos pos' : Pos} {ev : Env → Res (PV × Env)} (hN : X.N.Nodup) (hi : X.N[i]? = some x) (hx : Loc X.env.scope x) (hf : X.fn x = true ∨ X.env.scope.names.lookup x = some .local) (hp : R.pin i = none)
    (he : PE X e (rdE R W kd ev)) (ho : kd.own = true) (hc : swapsWith e (some (.Name x pos')) pos.line X.env = pure false) :
    PS X (.Assign [.Name x pos'] e pos) (rdS R W fresh fun env => (ev env).out fun r => .nx (r.2.set i r.1)) :=
  PS.imp (ps_set hN hi hx he hc hf) fun D σ H ⟨F, env, k, h⟩ => ⟨F, env, k, okS.bind h fun q v H2 F2 fp _ k2 s2 v2 nr h2 => by
    obtain ⟨k3, s3⟩ := putM hp k2 s2 v2 ho
    exact h2 _ H2 _ k3 s3⟩
end
end Ev

/-! EvE18: statements that write lists; augmented ones; a, b = x, y. -/
namespace Ev
open PySem PySem.Spec PyProof.Rows L2
variable {R : Fr0} {W : WXX} {σ : St} {H H1 H2 H' : Hp} {F F1 F2 F' : Nat → List Addr} {env env1 env2 env' : Env} {o1 s1 n1 fresh : Bool} {D : Ends} {kd kd1 kd2 : Kd}
theorem getL_ok {env : Env} {i : Nat} : (∃ l, env[i]? = some (.lst l) ∧ getL env i = .ok (l, env)) ∨ getL env i = .fail := by
  unfold getL
  cases e : env.getD i .undef with
  | lst l => exact .inl ⟨l, getD_of e nofun, rfl⟩
  | _ => exact .inr rfl
/-- the list of a slot is written -/
theorem EnvOk.write (k : EnvOk R σ H F env) {i : Nat} {a : Addr} {l' : List PV} {xs xs' : List V} {f f' : List Addr} (hi : i ∈ R.ms) (hv : σ[i]? = some (some (.ref a))) (hl : i < env.length) (ha : H a = some (.lst xs)) (hF : F i = a :: f)
    (r : RepL R.G H l' xs' f') (na : a ∉ f') (nd : f'.Nodup) (mu : ∀ b ∈ f', ∃ vs, H b = some (.lst vs)) (old : ∀ b ∈ f', R.A b) (ow : ∀ b ∈ f', R.H0 b = none ∨ (i = 0 ∧ R.br = true ∧ R.B b)) (dj : ∀ b ∈ f', ∀ j, j ≠ i → b ∉ F j) (hz : xs'.length ≤ sizeLine) :
    EnvOk R σ (upd H a (.lst xs')) (setF F env.length i (a :: f')) (env.set i (.lst l')) := by
  have st : Stay (fun b => b = a) H (upd H a (.lst xs')) := fun b o e n => by rw [upd_ne n]; exact e
  have ls : Lsts (fun b => b = a) H := fun b e => ⟨xs, e ▸ ha⟩
  have aF : a ∈ F i := by rw [hF]; simp
  have kd := (k.drop i).heap st ls (fun j b hb e => by
    subst e
    by_cases c : j = i
    · subst c; rw [drop1_same] at hb; simp at hb
    · rw [drop1_ne c] at hb; exact k.dj i hi j c b aF hb) (fun b e => by
      subst e
      rcases k.ow i hi b aF with w | ⟨_, _, w⟩
      · exact .inl w
      · exact .inr w) (fun b e => by
      by_cases c : b = a
      · subst c; rw [upd_same] at e; cases e
      · rw [upd_ne c] at e; exact e) (lok_lst k.lok hz)
  have dn : ∀ {b j}, j ≠ i → b ∈ a :: f' → b ∉ drop1 F i j := fun {b j} c hb z => by
    rw [drop1_ne c] at z
    rcases List.mem_cons.mp hb with rfl | hb
    · exact k.dj i hi j c b aF z
    · exact dj b hb j c z
  have ks := kd.set (i := i) (p := .lst l') (v := .ref a) (fp := a :: f') (RepF.new upd_same (RepL.stay st ls _ _ _ r fun b hb e => na (e ▸ hb))) (fun b hb => by
      rcases List.mem_cons.mp hb with rfl | hb
      · exact k.old i b aF
      · exact old b hb) (fun j hj c b hb => dn c hb) (fun _ => ⟨List.nodup_cons.mpr ⟨na, nd⟩, fun b hb => by
        rcases List.mem_cons.mp hb with rfl | hb
        · exact ⟨_, upd_same⟩
        · obtain ⟨vs, e⟩ := mu b hb
          exact ⟨vs, st b _ e fun z => na (z ▸ hb)⟩, fun b hb => by
        rcases List.mem_cons.mp hb with rfl | hb
        · exact k.ow i hi b aF
        · exact ow b hb, fun b hb j c => dn c hb⟩) (fun w hw => by have := (k.rf i w hw).2; rw [hv] at this; cases this; rfl)
  rw [setset hv, List.set_set, List.length_set] at ks
  have e : setF (drop1 F i) env.length i (a :: f') = setF F env.length i (a :: f') := by
    funext j
    by_cases c : j = i
    · subst c; rw [setF_same hl, setF_same hl]
    · rw [setF_ne c, setF_ne c, drop1_ne c]
  rw [e] at ks
  exact ks
theorem StepS.write {i : Nat} {a : Addr} {xs' : List V} {f f' : List Addr} {n : Nat} (hi : i ∈ R.ms) (hl : i < n) (hF : F2 i = a :: f) (s : StepS R.ms H F H2 F2) (nw : ∀ b ∈ f', OW R.ms F2 b ∨ OW R.ms F b ∨ H b = none) : StepS R.ms H F (upd H2 a (.lst xs')) (setF F2 n i (a :: f')) := by
  have aO : OW R.ms F2 a := ⟨i, hi, by rw [hF]; simp⟩
  refine ⟨fun b o e c => ?_, fun b ⟨j, hj, hb⟩ => ?_, fun b e => ?_⟩
  · by_cases h : b = a
    · subst h
      rcases s.ow b aO with w | w
      · exact absurd w c
      · rw [e] at w; cases w
    · rw [upd_ne h]; exact s.st b o e c
  · by_cases c : j = i
    · subst c
      rw [setF_same hl] at hb
      rcases List.mem_cons.mp hb with rfl | hb
      · exact s.ow _ aO
      · rcases nw b hb with w | w
        · exact s.ow b w
        · exact w
    · rw [setF_ne c] at hb
      exact s.ow b ⟨j, hj, hb⟩
  · by_cases h : b = a
    · subst h; rw [upd_same] at e; cases e
    · rw [upd_ne h] at e; exact s.dom b e
theorem RepL.setAt {G : Gl0} : ∀ {l : List PV} {xs : List V} {f g : List Addr} {j : Nat} {p : PV} {v : V}, RepL G H l xs f → RepF G H p v g → j < l.length → ∃ f', RepL G H (l.set j p) (xs.set j v) f' ∧ (∀ b ∈ f', b ∈ f ∨ b ∈ g) ∧ (f.Nodup → g.Nodup → (∀ b ∈ g, b ∉ f) → f'.Nodup)
  | [], _, _, _, _, _, _, _, _, h => by simp at h
  | x :: l, xs, f, g, 0, p, v, h, k, _ => by
    obtain ⟨y, ys, f1, f2, rfl, rfl, h1, h2⟩ := h
    refine ⟨g ++ f2, RepL.cons k h2, fun b hb => ?_, fun n1 n2 n3 => ?_⟩
    · rcases List.mem_append.mp hb with z | z
      · exact .inr z
      · exact .inl (by simp [z])
    · obtain ⟨_, m2, _⟩ := List.nodup_append.mp n1
      exact List.nodup_append.mpr ⟨n2, m2, fun a ha b hb e => n3 a ha (by simp [e, hb])⟩
  | x :: l, xs, f, g, j + 1, p, v, h, k, hj => by
    obtain ⟨y, ys, f1, f2, rfl, rfl, h1, h2⟩ := h
    obtain ⟨f', r, sub, nd⟩ := RepL.setAt (j := j) h2 k (by simpa using hj)
    refine ⟨f1 ++ f', RepL.cons h1 r, fun b hb => ?_, fun n1 n2 n3 => ?_⟩
    · rcases List.mem_append.mp hb with z | z
      · exact .inl (by simp [z])
      · rcases sub b z with w | w
        · exact .inl (by simp [w])
        · exact .inr w
    · obtain ⟨m1, m2, m3⟩ := List.nodup_append.mp n1
      refine List.nodup_append.mpr ⟨m1, nd m2 n2 fun b hb z => n3 b hb (by simp [z]), fun a ha b hb e => ?_⟩
      rcases sub b hb with w | w
      · exact m3 a ha b w e
      · exact n3 b w (by simp [← e, ha])
theorem ixN_lt {n j : Nat} {i : Int} (h : Ev.ixN n i = some j) : j < n := by
  unfold Ev.ixN at h
  split at h
  · split at h
    · cases h; omega
    · cases h
  · split at h
    · cases h; omega
    · cases h
section
variable {X : Cx}
theorem okS.bindL {o : Nat} {k : List PV × Env → Out} (h : okS R W fresh D H F ((getL env o).out k)) : ∃ l, env[o]? = some (.lst l) ∧ getL env o = .ok (l, env) ∧ okS R W fresh D H F (k (l, env)) := by
  rcases getL_ok (env := env) (i := o) with ⟨l, e, g⟩ | g
  · rw [g] at h; exact ⟨l, e, g, h⟩
  · rw [g] at h; exact h.elim
theorem list_at (k : EnvOk R σ H F env) {i : Nat} {l : List PV} (e : env[i]? = some (.lst l)) : ∃ a xs f, σ[i]? = some (some (.ref a)) ∧ H a = some (.lst xs) ∧ RepL R.G H l xs f ∧ F i = a :: f := by
  obtain ⟨v, hv, r⟩ := k.slot i _ e nofun
  obtain ⟨a, xs, f, rfl, ha, hl, hf⟩ := r
  exact ⟨a, xs, f, hv, ha, hl, hf⟩
theorem lt_of_get {env : Env} {i : Nat} {p : PV} (e : env[i]? = some p) : i < env.length := by
  rcases Nat.lt_or_ge i env.length with h | h
  · exact h
  · rw [List.getElem?_eq_none h] at e; cases e
/-- x.append(e) -/
theorem es_app {i : Nat} {x : Str} {e : Expr} {px apos cpos pos : Pos} {ev : Env → Res (PV × Env)} (hm : i ∈ R.ms) (hN : X.N[i]? = some x) (hv : Vis X.env.scope x) (hd : (x == ("__debug__" : Str)) = false) (hcd : (x == ("__classdict__" : Str)) = false)
    (he : PE X e (rdE R W kd ev)) (ho : kd.own = true) (hn : noStar e = true) (hline : (apos.endLine == cpos.line) = true) :
    PS X (.Expr (.Call (.Attribute (.Name x px) "append" apos) [e] [] cpos) pos) (rdS R W fresh fun env => (getL env i).out fun _ => (ev env).out fun r => (getL r.2 i).out fun l => (ofO (pushP r.1 l.1)).out fun z => .nx (r.2.set i z)) :=
  PS.imp (ps_expr (pe_bm PySem.F.plainAttrs_list PySem.F.slot_list_append PySem.F.type_list_append mt_append (pe_var hN hv hd hcd) (pa_cons he pa_nil (star_cons hn _)) (attr_base rfl) (by rw [star_cons hn]; rfl) hline (star_cons hn _) rfl) (sw_false rfl))
    fun D σ H ⟨F, env, k, h⟩ => by
      obtain ⟨l0, e0, _, h⟩ := okS.bindL h
      obtain ⟨a, xs0, f0, hv0, ha0, _, _⟩ := list_at k e0
      refine ⟨.ref a, hv0, .inl ⟨rfl, xs0, .of ha0⟩, F, env, k, okS.bind h fun q v H2 F2 fp _ k2 s2 v2 nr h2 => ?_⟩
      obtain ⟨l, e1, _, h3⟩ := okS.bindL h2
      obtain ⟨z, ez, h4⟩ := okS.ofO h3
      obtain ⟨a', xs, f, hv1, ha, hl, hF⟩ := list_at k2 e1
      rw [hv0] at hv1
      cases hv1
      unfold pushP at ez
      split at ez
      case isFalse => cases ez
      rename_i hz
      cases ez
      have hzx : xs.length < sizeLine := by rw [hl.length]; exact hz
      refine ⟨a, xs, v, rfl, rfl, ha, hzx, ?_⟩
      have ndF := k2.nd i hm
      rw [hF] at ndF
      obtain ⟨na, nf⟩ := List.nodup_cons.mp ndF
      have inF : ∀ b ∈ f, b ∈ F2 i := fun b hb => by rw [hF]; simp [hb]
      have both : ∀ {P : Addr → Prop}, (∀ b ∈ f, P b) → (∀ b ∈ fp, P b) → ∀ b ∈ f ++ fp, P b := fun p q b hb => (List.mem_append.mp hb).elim (p b) (q b)
      refine h4 σ _ _ (k2.write hm hv0 (lt_of_get e1) ha hF (hl.append (RepL.one v2.rep)) (fun z => (List.mem_append.mp z).elim na fun w => v2.fr ho a w i (by rw [hF]; simp)) (List.nodup_append.mpr ⟨nf, v2.nd ho, fun b hb c hc e => v2.fr ho c hc i (inF c (e ▸ hb))⟩)
        (both (fun b hb => k2.mu i hm b (inF b hb)) (v2.mu ho)) (both (fun b hb => k2.old i b (inF b hb)) v2.old) (both (fun b hb => k2.ow i hm b (inF b hb)) fun b hb => .inl (v2.h0 ho b hb)) (both (fun b hb j c => k2.dj i hm j c b (inF b hb)) fun b hb j _ => v2.fr ho b hb j)
        (by rw [List.length_append]; exact hzx)) (StepS.write hm (lt_of_get e1) hF s2.s (both (fun b hb => .inl ⟨i, hm, inF b hb⟩) fun b hb => .inr (v2.nw ho b hb)))
/-- x[p] = e -/
def plainIx : Expr → Bool
  | .Slice _ _ _ _ => false
  | _ => true
theorem assign_sub {o i : Expr} {pos : Pos} {env : PySem.Env} (h : plainIx i = true) (v : Value) : PySem.assign (.Subscript o i pos) env v = (do
      let ov ← holding [v] (eval o env)
      let iv ← holding [v, ov] (eval i env)
      standAt pos
      holding [v, ov, iv] (setItem ov iv v)
      release [v, ov, iv] []) := by
  cases i <;> first | rfl | cases h
theorem sw_sole {t e : Expr} {l : Nat} {env : PySem.Env} (h : isComp e = false) : swapsWithSole [t] e l env = pure false := sw_false h
theorem es_set {i : Nat} {x : Str} {e p : Expr} {px spos pos : Pos} {ev evp : Env → Res (PV × Env)} (hm : i ∈ R.ms) (hN : X.N[i]? = some x) (hv : Vis X.env.scope x) (hd : (x == ("__debug__" : Str)) = false) (hcd : (x == ("__classdict__" : Str)) = false)
    (he : PE X e (rdE R W kd1 ev)) (ho : kd1.own = true) (hp : PE X p (rdE R W kd2 evp)) (hnor : kd2.nor = true) (hpl : plainIx p = true) (hc : isComp e = false) (hw : swappedStores [.Subscript (.Name x px) p spos] e X.env = pure none) :
    PS X (.Assign [.Subscript (.Name x px) p spos] e pos) (rdS R W fresh fun env => (ev env).out fun r => (getL r.2 i).out fun _ => (evp r.2).out fun q => (getL q.2 i).out fun l => (ofO (setP r.1 q.1 l.1)).out fun z => .nx (q.2.set i z)) :=
  PS.imp (ps_asg he (pg_sub (pe_var hN hv hd hcd) hp set_list (assign_sub hpl)) (sw_sole hc) hw rfl) fun D σ H ⟨F, env, k, h⟩ => by
    refine ⟨F, env, k, okS.bind h fun r v H2 F2 fp _ k2 s2 v2 nr h2 => ?_⟩
    obtain ⟨l0, e0, _, h3⟩ := okS.bindL h2
    obtain ⟨a, xs, f, hv0, ha, hl, hF⟩ := list_at k2 e0
    refine ⟨.ref a, hv0, F2, r.2, k2, ?_⟩
    cases eq : evp r.2 with
    | fail => rw [eq] at h3; exact h3.elim
    | raise c x e =>
      rw [eq] at h3
      exact fun d H3 F3 k3 s3 x3 => h3 σ H3 F3 d k3 (s2.s.trans s3.s) x3
    | ok q =>
      rw [eq] at h3
      intro pv H3 F3 fq k3 s3 v3 n3
      obtain ⟨eF, eE, same⟩ := n3 hnor
      obtain ⟨q1, q2⟩ := q
      subst eF
      have eE : q2 = r.2 := eE
      subst eE
      have h3 : okS R W fresh D H F ((getL r.2 i).out fun l => (ofO (setP r.1 q1 l.1)).out fun z => .nx (r.2.set i z)) := h3
      obtain ⟨l, e1, _, h4⟩ := okS.bindL h3
      rw [e0] at e1
      cases e1
      obtain ⟨z, ez, h5⟩ := okS.ofO h4
      cases q1 with
      | int n =>
        simp only [setP, Option.map_eq_some_iff] at ez
        obtain ⟨j, ej, rfl⟩ := ez
        obtain ⟨rfl, rfl⟩ := v3.rep
        have hjl := ixN_lt ej
        have hl3 := hl.same same
        have rv := v2.rep.same same
        obtain ⟨f', rf', sub, nd'⟩ := hl3.setAt rv hjl
        refine ⟨a, xs, n, j, rfl, rfl, same a _ ha, by rw [hl.length]; exact ej, ?_⟩
        have ndF := k3.nd i hm
        rw [hF] at ndF
        obtain ⟨na, nf⟩ := List.nodup_cons.mp ndF
        have inF : ∀ b ∈ f, b ∈ F3 i := fun b hb => by rw [hF]; simp [hb]
        have both : ∀ {P : Addr → Prop}, (∀ b ∈ f, P b) → (∀ b ∈ fp, P b) → ∀ b ∈ f', P b := fun p q b hb => (sub b hb).elim (p b) (q b)
        refine h5 σ _ _ (k3.write hm hv0 (lt_of_get e0) (same a _ ha) hF rf' (fun z => (sub a z).elim na fun w => v2.fr ho a w i (by rw [hF]; simp)) (nd' nf (v2.nd ho) fun b hb z => v2.fr ho b hb i (inF b z))
          (both (fun b hb => k3.mu i hm b (inF b hb)) fun b hb => let ⟨vs, e⟩ := v2.mu ho b hb; ⟨vs, same b _ e⟩) (both (fun b hb => k3.old i b (inF b hb)) v2.old) (both (fun b hb => k3.ow i hm b (inF b hb)) fun b hb => .inl (v2.h0 ho b hb)) (both (fun b hb j c => k3.dj i hm j c b (inF b hb)) fun b hb j _ => v2.fr ho b hb j)
          (by rw [List.length_set, hl.length, ← hl.length]; exact k3.lok.1 a xs (.of (same a _ ha)))) (StepS.write hm (lt_of_get e0) hF (s2.s.trans s3.s) (both (fun b hb => .inl ⟨i, hm, inF b hb⟩) fun b hb => .inr (v2.nw ho b hb)))
      | _ => simp [setP] at ez
end
end Ev

/-! EvE19: augmented assignments, pairs, comprehensions stored at once, loops. -/
namespace Ev
open PySem PySem.Spec PyProof.Rows L2
variable {R : Fr0} {W : WXX} {σ : St} {H H1 H2 H' : Hp} {F F1 F2 F' : Nat → List Addr} {env env1 env2 env' : Env} {o1 s1 n1 fresh : Bool} {D : Ends} {kd kd1 kd2 : Kd}
section
variable {X : Cx}
/-! ### name op= e -/
/-- two tuples -/
theorem noI_tuple_add : typeLookup (.type "tuple") (dunderI "add") = pure none := by rw [typeLookup_type, builtinLookup_eq_fast]; kernel_rfl
section
variable {prog : Program} {w : World} {A : Around} {E : Value → Shared → Prop} {s : Shared}
theorem iconcat_meets {T id : String} {B : Builtin} {a b : Value} {S : PySem.Spec} {Q : Value → Shared → Prop} (ha : s.TypeIs a T) (hb : s.TypeIs b T) (hno : typeLookup (.type T) (dunderI "add") = pure none)
    (hfill : fillsNumberSlot (.type T) "add" = pure false) (hseq : seqSlot? (.type T) "__add__" = pure (some (.builtin id))) (slot : Slot T "__add__" id)
    (entry : entryFor table id = some B) (args : argsOk id ⟨[a, b], []⟩) (g : Meets (B ⟨[a, b], []⟩) S) (h : S A (wants Q E) s) : wpAny (model prog w) A (inplaceOp .Add a b) Q E s :=
  wpAny_inplaceOp_concat ha hb hno hfill hseq (call_meets slot ha entry args g h)
theorem icat_tup {t b : Addr} {vs ws : List Value} {Q : Value → Shared → Prop} (ht : IsTup s.heap t vs.toArray) (hb : IsTup s.heap b ws.toArray) (hv : vs ≠ [])
    (h1 : ws = [] → Q (.ref t) s) (h2 : ws ≠ [] → Q (.ref s.heap.objs.size) { s with heap := s.heap.push { cls := .type "tuple", data := .seq (vs ++ ws).toArray } })
    (hsz : vs.length + ws.length ≤ sizeLine) : wpAny (model prog w) A (inplaceOp .Add (.ref t) (.ref b)) Q E s := by
  obtain ⟨⟨cls, dd, data, sl⟩, ho, hc, n, hd⟩ := id ht
  obtain ⟨⟨cls2, dd2, data2, sl2⟩, ho2, hc2, n2, hd2⟩ := id hb
  simp only at hc hd hc2 hd2
  subst hc hd hc2 hd2
  have e : vs.toArray ++ ws.toArray = (vs ++ ws).toArray := by simp
  by_cases hw : ws = []
  · exact iconcat_meets ⟨_, ho, rfl⟩ ⟨_, ho2, rfl⟩ noI_tuple_add noFill_tuple_add seq_tuple_add PySem.F.slot_tuple_add PySem.F.entry_tuple_add (PySem.F.args_tuple_add_2 _ _)
      (tuple_addW1 t b vs.toArray ws.toArray n n2 dd dd2 sl sl2 (by simpa using hv) (by simp [hw])) ⟨ho, ho2, h1 hw⟩
  · refine iconcat_meets ⟨_, ho, rfl⟩ ⟨_, ho2, rfl⟩ noI_tuple_add noFill_tuple_add seq_tuple_add PySem.F.slot_tuple_add PySem.F.entry_tuple_add (PySem.F.args_tuple_add_2 _ _)
      (tuple_addW2 t b vs.toArray ws.toArray n n2 dd dd2 sl sl2 (by simpa using hv) (by simpa using hw) (by rw [List.size_toArray, List.size_toArray]; exact hsz)) ⟨ho, ho2, ?_⟩
    rw [e]
    exact h2 hw
theorem icat_tup0 {t b : Addr} {ws : List Value} {Q : Value → Shared → Prop} (ht : IsTup s.heap t ([] : List Value).toArray) (hb : IsTup s.heap b ws.toArray) (h : Q (.ref b) s) : wpAny (model prog w) A (inplaceOp .Add (.ref t) (.ref b)) Q E s := by
  obtain ⟨⟨cls, dd, data, sl⟩, ho, hc, n, hd⟩ := id ht
  obtain ⟨⟨cls2, dd2, data2, sl2⟩, ho2, hc2, n2, hd2⟩ := id hb
  simp only at hc hd hc2 hd2
  subst hc hd hc2 hd2
  exact iconcat_meets ⟨_, ho, rfl⟩ ⟨_, ho2, rfl⟩ noI_tuple_add noFill_tuple_add seq_tuple_add PySem.F.slot_tuple_add PySem.F.entry_tuple_add (PySem.F.args_tuple_add_2 _ _)
    (tuple_addW0 t b ([] : List Value).toArray ws.toArray n n2 dd dd2 sl sl2 (by simp)) ⟨ho, ho2, h⟩
end
def rAug (G : Gl0) (op : Operator) : TIp := fun x y H Q => ∃ p q r fp fq, RepF G H p x fp ∧ RepF G H q y fq ∧ LenOk G.K H ∧ augop op p q = some r ∧ ∀ z H' fz, NewV G H (fp ++ fq) r true z H' fz → Q z H'
theorem augP {G : Gl0} (hK : G.K = X.K) (op : Operator) : PIp X op (rAug G op) := by
  rintro pins s σ H x y v u Q I rx ry ⟨p, q, r, fp, fq, hp, hq, lok, e, k⟩
  have two : ∀ {f : Int → Int → Int → Prop}, (∀ i j n, f i j n → False) → True := fun _ => trivial
  cases op with
  | Add =>
    cases p with
    | int i =>
      cases q with
      | int j =>
        cases e
        obtain ⟨rfl, rfl⟩ := hp
        obtain ⟨rfl, rfl⟩ := hq
        exact iop_add pins s σ H (.int i) (.int j) v u Q I rx ry ⟨i, j, rfl, rfl, k _ _ [] (NewV.flat lok ⟨rfl, rfl⟩)⟩
      | _ => cases e
    | tup l =>
      cases q with
      | tup m =>
        obtain ⟨a, vs, rfl, ha, hl⟩ := hp
        obtain ⟨b, us, rfl, hb, hm⟩ := hq
        simp only [augop] at e
        split at e
        · rename_i c
          cases e
          rw [hK] at ha hb
          rw [← hl.length, ← hm.length] at c
          cases rx
          cases ry
          obtain ⟨its, r1, p1, _⟩ := I.tuple ha
          obtain ⟨its2, r2, p2, _⟩ := I.tuple hb
          by_cases hx : vs = []
          · subst hx
            cases r1
            refine icat_tup0 p1 p2 ⟨.ref b, H, I, rfl, ?_⟩
            cases l with
            | cons x l => simp [RepL] at hl
            | nil => exact k _ _ fq (NewV.partT lok ⟨b, us, rfl, hK ▸ hb, hm⟩ fun c hc => List.mem_append_right _ hc)
          · refine icat_tup p1 p2 (fun z => hx (r1.nil_iff.mp z)) (fun z => ⟨.ref a, H, I, rfl, ?_⟩) (fun z => ?_) (by rw [← r1.length, ← r2.length]; exact c)
            · have e0 := r2.nil_iff.mp z
              subst e0
              cases m with
              | cons x l => simp [RepL] at hm
              | nil =>
                rw [List.append_nil] at k
                exact k _ _ fp (NewV.partT lok ⟨a, vs, rfl, hK ▸ ha, hl⟩ fun c hc => List.mem_append_left _ hc)
            · refine ⟨.ref s.heap.objs.size, _, I.laid (t' := s.toks) (o := .tup (vs ++ us)) (fun b ob q => Heap.get?_push_of_some _ q) (Nat.le_refl _) ?_, rfl, k _ _ _ (NewV.tup lok (I.hok.fresh (Nat.le_refl _)) (hl.append hm) (by rw [List.length_append]; exact c) fun _ w => w)⟩
              exact ⟨by rw [List.length_append]; exact c, _, r1.append r2, IsTup.new _ _⟩
        · cases e
      | _ => cases e
    | _ => cases e
  | Sub =>
    cases p with
    | int i =>
      cases q with
      | int j =>
        cases e
        obtain ⟨rfl, rfl⟩ := hp
        obtain ⟨rfl, rfl⟩ := hq
        exact iop_sub pins s σ H (.int i) (.int j) v u Q I rx ry ⟨i, j, rfl, rfl, k _ _ [] (NewV.flat lok ⟨rfl, rfl⟩)⟩
      | _ => cases e
    | _ => cases e
  | Mult =>
    cases p with
    | int i =>
      cases q with
      | int j =>
        simp only [augop] at e
        split at e
        · rename_i c
          cases e
          obtain ⟨rfl, rfl⟩ := hp
          obtain ⟨rfl, rfl⟩ := hq
          exact iop_mul pins s σ H (.int i) (.int j) v u Q I rx ry ⟨i, j, rfl, rfl, c, k _ _ [] (NewV.flat lok ⟨rfl, rfl⟩)⟩
        · cases e
      | _ => cases e
    | _ => cases e
  | FloorDiv =>
    cases p with
    | int i =>
      cases q with
      | int j =>
        simp only [augop] at e
        split at e
        · rename_i c
          cases e
          obtain ⟨rfl, rfl⟩ := hp
          obtain ⟨rfl, rfl⟩ := hq
          exact iop_fdiv pins s σ H (.int i) (.int j) v u Q I rx ry ⟨i, j, rfl, rfl, c, k _ _ [] (NewV.flat lok ⟨rfl, rfl⟩)⟩
        · cases e
      | _ => cases e
    | _ => cases e
  | _ => cases e
theorem okS.bindG {o : Nat} {k : PV × Env → Out} (h : okS R W fresh D H F ((get env o).out k)) : ∃ p, p ≠ .undef ∧ env[o]? = some p ∧ okS R W fresh D H F (k (p, env)) := by
  rcases get_ok (env := env) (i := o) with ⟨l, n, e, g⟩ | g
  · rw [g] at h; exact ⟨l, n, e, h⟩
  · rw [g] at h; exact h.elim
theorem es_aug {i : Nat} {x : Str} {e : Expr} {op : Operator} {pos pos' : Pos} {ev : Env → Res (PV × Env)} (hK : R.G.K = X.K) (hs : kd.stb = true) (hm : i ∉ R.ms) (hN : X.N.Nodup) (hi : X.N[i]? = some x) (hx : Loc X.env.scope x) (hf : X.fn x = true ∨ X.env.scope.names.lookup x = some .local) (he : PE X e (rdE R W kd ev)) :
    PS X (.AugAssign (.Name x pos') op e pos) (rdS R W fresh fun env => (get env i).out fun x => (ev env).out fun r => (ofO (augop op x.1 r.1)).out fun z => .nx (r.2.set i z)) :=
  PS.imp (ps_aug hN hi hx he (augP hK op) hf) fun D σ H ⟨F, env, k, h⟩ => by
    obtain ⟨p, n, e0, h⟩ := okS.bindG h
    obtain ⟨v0, hv0, r0⟩ := k.slot i p e0 n
    refine ⟨v0, hv0, F, env, k, okS.bind (kd := kd) h fun q v H2 F2 fp _ k2 s2 v2 nr h2 => ?_⟩
    obtain ⟨z, e1, h3⟩ := okS.ofO h2
    have r1 : RepF R.G H2 p v0 (F i) := s2.s.rep k r0 (k.free hm)
    have dd : ∀ a ∈ F i, ¬ OW R.ms F2 a := fun a ha w => by
      rcases s2.ow a w with w | w
      · exact k.free hm a ha w
      · exact RepF.there _ _ _ r0 a ha w
    refine ⟨p, q.1, z, F i, fp, r1, v2.rep, k2.lok, e1, fun zv H' fz nv => ?_⟩
    have h4 : okR R W ⟨false, true, true, true⟩ σ H2 F2 q.2 (fun x H3 => D.nx (σ.set i (some x)) H3) (.ok (z, q.2)) := fun v3 H3 F3 fp3 k3 s3 v3ok n3 =>
      h3 _ H3 _ (k3.put hm v3ok.rep v3ok.old (v3ok.st rfl)) ((s2.trans s3).s.trans ⟨fun a o e _ => e, fun a z => .inl ((OW_setF hm).mp z), fun _ e => e⟩)
    exact okR.pure h4 k2 Step.refl (fun _ => ⟨rfl, rfl, fun _ _ e => e⟩) nv (fun a ha => (List.mem_append.mp ha).elim (k.old i a) (v2.old a)) (fun _ a ha => (List.mem_append.mp ha).elim (dd a) (v2.st hs a)) rfl fun _ => rfl
/-! ### a comprehension stored at once -/
theorem asg_of {i : Nat} {st : Stmt} {te : TE} {ev : Env → Res (PV × Env)} (hps : PS X st (tAsg te (gName i))) (hte : ∀ σ H F env Q, EnvOk R σ H F env → okR R W kd σ H F env Q (ev env) → te σ H Q) (hm : i ∉ R.ms) (hs : kd.stb = true) :
    PS X st (rdS R W fresh fun env => (ev env).out fun r => (ofO (Ev.assign (.n i) r.1 r.2)).out fun en => .nx en) :=
  PS.imp hps fun D σ H ⟨F, env, k, h⟩ => hte σ H F env _ k (okS.bind h fun q v H2 F2 fp _ k2 s2 v2 nr h2 =>
    h2 _ H2 _ (k2.put hm v2.rep v2.old (v2.st hs)) (s2.s.trans ⟨fun a o e _ => e, fun a z => .inl ((OW_setF hm).mp z), fun _ e => e⟩))
theorem masg_of {i : Nat} {st : Stmt} {te : TE} {ev : Env → Res (PV × Env)} (hps : PS X st (tAsg te (gName i))) (hte : ∀ σ H F env Q, EnvOk R σ H F env → okR R W kd σ H F env Q (ev env) → te σ H Q) (hp : R.pin i = none) (ho : kd.own = true) :
    PS X st (rdS R W fresh fun env => (ev env).out fun r => .nx (r.2.set i r.1)) :=
  PS.imp hps fun D σ H ⟨F, env, k, h⟩ => hte σ H F env _ k (okS.bind h fun q v H2 F2 fp _ k2 s2 v2 nr h2 => by
    obtain ⟨k3, s3⟩ := putM hp k2 s2 v2 ho
    exact h2 _ H2 _ k3 s3)
/-! ### a, b = x, y -/
theorem out_bind {α β : Type} {r : Res α} {f : α → Res β} {g : β → Out} : (r.bind f).out g = r.out fun a => (f a).out g := by
  cases r <;> rfl
theorem put1 (k : EnvOk R σ H F env) {i : Nat} {p : PV} {v : V} {fp : List Addr} (hi : i ∉ R.ms) (r : RepF R.G H p v fp) (old : ∀ a ∈ fp, R.A a) (st : ∀ a ∈ fp, ¬ OW R.ms F a) :
    ∃ F', EnvOk R (σ.set i (some v)) H F' (env.set i p) ∧ ∀ a, OW R.ms F' a ↔ OW R.ms F a := ⟨_, k.put hi r old st, fun _ => OW_setF hi⟩
theorem es_par {i j : Nat} {x y : Str} {a b : Expr} {px py pt pos : Pos} {kt k2 pt2} {evs : Env → Res (List PV × Env)} (hc : X.calm = true) (hN : X.N.Nodup) (hi : X.N[i]? = some x) (hj : X.N[j]? = some y) (hij : i ≠ j) (hmi : i ∉ R.ms) (hmj : j ∉ R.ms)
    (hx : X.env.scope.names.lookup x = some .local) (hy : X.env.scope.names.lookup y = some .local) (ha : PA X [a, b] (rdA R W o1 true n1 evs))
    (hw : swappedStores [.Tuple [.Name x px, .Name y py] kt pt] (.Tuple [a, b] k2 pt2) X.env = pure (some [x, y])) :
    PS X (.Assign [.Tuple [.Name x px, .Name y py] kt pt] (.Tuple [a, b] k2 pt2) pos) (rdS R W fresh fun env => ((evs env).bind fun r => .ok (.tup r.1, r.2)).out fun r => (ofO (Ev.assign (.cons (.n i) (.cons (.n j) .nil)) r.1 r.2)).out fun en => .nx en) :=
  PS.imp (ps_par hc hN hi hj hij hx hy ha hw) fun D σ H ⟨F, env, k, h⟩ => by
    have h : okS R W fresh D H F (((evs env).bind fun r => .ok (PV.tup r.1, r.2)).out fun r => (Ev.ofO (Ev.assign (.cons (.n i) (.cons (.n j) .nil)) r.1 r.2)).out fun en => .nx en) := h
    rw [out_bind] at h
    refine ⟨F, env, k, okS.bindA h fun q vs H2 F2 fp _ k2 s2 v2 nr h2 => ?_⟩
    have h2 : okS R W fresh D H F ((Ev.ofO (Ev.assign (.cons (.n i) (.cons (.n j) .nil)) (.tup q.1) q.2)).out fun en => .nx en) := h2
    obtain ⟨en, e1, h3⟩ := okS.ofO h2
    obtain ⟨ps, q2⟩ := q
    match ps, e1 with
    | [p1, p2], e1 =>
      have e1 : some ((q2.set i p1).set j p2) = some en := e1
      cases e1
      obtain ⟨v, w, f1, f2, rfl, rfl, r1, r2⟩ := RepL.two_inv v2.rep
      obtain ⟨F3, k3, o3⟩ := put1 k2 hmi r1 (fun a ha => v2.old a (by simp [ha])) fun a ha => v2.st rfl a (by simp [ha])
      obtain ⟨F4, k4, o4⟩ := put1 k3 hmj r2 (fun a ha => v2.old a (by simp [ha])) fun a ha z => v2.st rfl a (by simp [ha]) ((o3 a).mp z)
      exact ⟨v, w, rfl, h3 _ H2 F4 k4 (s2.s.trans ⟨fun a o e _ => e, fun a z => .inl ((o3 a).mp ((o4 a).mp z)), fun _ e => e⟩)⟩
    | [], e1 => cases e1
    | [_], e1 => cases e1
    | _ :: _ :: _ :: _, e1 => cases e1
theorem RepL.three_inv {G : Gl0} {p q r : PV} {vs : List V} {fp : List Addr} (h : RepL G H [p, q, r] vs fp) : ∃ u v w f g k, vs = [u, v, w] ∧ fp = f ++ (g ++ k) ∧ RepF G H p u f ∧ RepF G H q v g ∧ RepF G H r w k := by
  obtain ⟨v, vs', f, f', rfl, rfl, h1, h2⟩ := h
  obtain ⟨w, z, g, k, rfl, rfl, h3, h4⟩ := RepL.two_inv h2
  exact ⟨v, w, z, f, g, k, rfl, rfl, h1, h3, h4⟩
theorem es_par3 {i j l : Nat} {x y z : Str} {a b c : Expr} {px py pz pt pos : Pos} {kt k2 pt2} {evs : Env → Res (List PV × Env)} (hc : X.calm = true) (hN : X.N.Nodup) (hi : X.N[i]? = some x) (hj : X.N[j]? = some y) (hl : X.N[l]? = some z) (hij : i ≠ j) (hil : i ≠ l) (hjl : j ≠ l) (hmi : i ∉ R.ms) (hmj : j ∉ R.ms) (hml : l ∉ R.ms)
    (hx : X.env.scope.names.lookup x = some .local) (hy : X.env.scope.names.lookup y = some .local) (hz : X.env.scope.names.lookup z = some .local) (ha : PA X [a, b, c] (rdA R W o1 true n1 evs))
    (hw : swappedStores [.Tuple [.Name x px, .Name y py, .Name z pz] kt pt] (.Tuple [a, b, c] k2 pt2) X.env = pure (some [x, y, z])) :
    PS X (.Assign [.Tuple [.Name x px, .Name y py, .Name z pz] kt pt] (.Tuple [a, b, c] k2 pt2) pos) (rdS R W fresh fun env => ((evs env).bind fun r => .ok (.tup r.1, r.2)).out fun r => (ofO (Ev.assign (.cons (.n i) (.cons (.n j) (.cons (.n l) .nil))) r.1 r.2)).out fun en => .nx en) :=
  PS.imp (ps_par3 hc hN hi hj hl hij hil hjl hx hy hz ha hw) fun D σ H ⟨F, env, k, h⟩ => by
    have h : okS R W fresh D H F (((evs env).bind fun r => .ok (PV.tup r.1, r.2)).out fun r => (Ev.ofO (Ev.assign (.cons (.n i) (.cons (.n j) (.cons (.n l) .nil))) r.1 r.2)).out fun en => .nx en) := h
    rw [out_bind] at h
    refine ⟨F, env, k, okS.bindA h fun q vs H2 F2 fp _ k2 s2 v2 nr h2 => ?_⟩
    have h2 : okS R W fresh D H F ((Ev.ofO (Ev.assign (.cons (.n i) (.cons (.n j) (.cons (.n l) .nil))) (.tup q.1) q.2)).out fun en => .nx en) := h2
    obtain ⟨en, e1, h3⟩ := okS.ofO h2
    obtain ⟨ps, q2⟩ := q
    match ps, e1 with
    | [p1, p2, p3], e1 =>
      have e1 : some (((q2.set i p1).set j p2).set l p3) = some en := e1
      cases e1
      obtain ⟨u, v, w, f1, f2, f3, rfl, rfl, r1, r2, r3⟩ := RepL.three_inv v2.rep
      obtain ⟨F3, k3, o3⟩ := put1 k2 hmi r1 (fun a ha => v2.old a (by simp [ha])) fun a ha => v2.st rfl a (by simp [ha])
      obtain ⟨F4, k4, o4⟩ := put1 k3 hmj r2 (fun a ha => v2.old a (by simp [ha])) fun a ha z => v2.st rfl a (by simp [ha]) ((o3 a).mp z)
      obtain ⟨F5, k5, o5⟩ := put1 k4 hml r3 (fun a ha => v2.old a (by simp [ha])) fun a ha z => v2.st rfl a (by simp [ha]) ((o3 a).mp ((o4 a).mp z))
      exact ⟨u, v, w, rfl, h3 _ H2 F5 k5 (s2.s.trans ⟨fun a o e _ => e, fun a z => .inl ((o3 a).mp ((o4 a).mp ((o5 a).mp z))), fun _ e => e⟩)⟩
    | [], e1 => cases e1
    | [_], e1 => cases e1
    | [_, _], e1 => cases e1
    | _ :: _ :: _ :: _ :: _, e1 => cases e1
/-! ### for, while -/
theorem es_for {tg iter : Expr} {body : List Stmt} {pos : Pos} {t : T} {nI : Bool} {evi : Env → Res (List PV × Env)} {evb : Env → Out} (hp : PassesOwn (model X.prog X.w) X.A X.env X.xe) (hc : X.calm = true) (hi : PI X tg iter (rdI R W true nI evi)) (hg : PG X tg (rdG R t)) (hb : PSs X body (rdS R W fresh evb))
    (hf : notSet iter = true) :
    PS X (.For tg iter body [] pos) (rdS R W fresh fun env => (evi env).out fun r => forGo (fun x en => (ofO (Ev.assign t x en)).out fun en1 => evb en1) r.1 r.2) :=
  PS.imp (ps_for hp hc hi hg hb (fold_pure hf)) fun D σ H ⟨F, env, k, h⟩ => by
    refine ⟨F, env, k, okS.bindI h fun q J H1 F1 fs _ k1 s1 io old hfs h1 => ?_⟩
    obtain ⟨Gp, Yp, wk, hG, hy⟩ := io.std k1
    rw [OO_true] at hG hy
    generalize hfe : (fun (x : PV) (en : Env) => (ofO (Ev.assign t x en)).out fun en1 => evb en1) = f at h1
    refine for_it wk (fun i σ' H' => ∃ F' en, EnvOk R σ' H' F' en ∧ StepS R.ms H1 F1 H' F' ∧ okS R W fresh D H' F' (forGo f (q.1.drop i) en)) ⟨F1, q.2, k1, StepS.refl, okS.step s1.s h1⟩ ?_ ?_ ?_
    · rintro i σ' H2 hi ⟨F2, en, k2, s2, h2⟩
      exact hG H2 s2.st
    · rintro i x σ' H2 H2' hi ⟨F2, en, k2, s2, h2⟩ y
      obtain ⟨pv, fz, eI, nv⟩ := hy i H2 x H2' hi s2.st k2.lok y
      have hdrop : q.1.drop i = pv :: q.1.drop (i + 1) := by
        rw [List.drop_eq_getElem_cons hi]
        rw [List.getElem?_eq_getElem hi] at eI
        cases eI; rfl
      rw [hdrop] at h2
      have k2' : EnvOk R σ' H2' F2 en := k2.same nv.same nv.lok
      have fzst : ∀ a ∈ fz, ¬ OW R.ms F2 a := fun a ha => by
        rcases nv.sub a ha with z | z
        · obtain ⟨⟨o, e⟩, n⟩ := hfs a z
          exact s2.dead n ⟨o, e⟩
        · exact fun ⟨j, _, hj⟩ => k2.nf z j hj
      have fzold : ∀ a ∈ fz, R.A a := fun a ha => by
        rcases nv.sub a ha with z | z
        · exact old a z
        · exact (k2.dom a z).2
      have s2' : StepS R.ms H2 F2 H2' F2 := (Step.same nv.same).s
      cases ea : Ev.assign t pv en with
      | none =>
        unfold forGo at h2
        rw [← hfe] at h2
        simp only [ea] at h2
        exact h2.elim
      | some en1 =>
        have ef : f pv en = evb en1 := by
          rw [← hfe]
          show (ofO (Ev.assign t pv en)).out _ = _
          rw [ea]; rfl
        unfold forGo at h2
        rw [ef] at h2
        refine ⟨F2, en, pv, fz, en1, k2', nv.rep, fzold, fzst, ea, fun σ3 F3 k3 a3 => ⟨F3, en1, k3, ?_⟩⟩
        have s3 : StepS R.ms H2 F2 H2' F3 := s2'.trans a3.stp
        cases eb : evb en1 with
        | nx e =>
          rw [eb] at h2
          exact fun σ4 H4 F4 k4 s4 => ⟨F4, e, k4, s2.trans (s3.trans s4), okS.step (s3.trans s4) h2⟩
        | ct e =>
          rw [eb] at h2
          exact fun σ4 H4 F4 k4 s4 => ⟨F4, e, k4, s2.trans (s3.trans s4), okS.step (s3.trans s4) h2⟩
        | bk e =>
          rw [eb] at h2
          exact fun σ4 H4 F4 k4 s4 => h2 σ4 H4 F4 k4 (s3.trans s4)
        | rt p e =>
          rw [eb] at h2
          exact fun σ4 H4 F4 z fz k4 s4 => h2 σ4 H4 F4 z fz k4 (s3.trans s4)
        | raise c x e =>
          rw [eb] at h2
          exact fun σ4 H4 F4 d k4 s4 => h2 σ4 H4 F4 d k4 (s3.trans s4)
        | fail =>
          rw [eb] at h2
          exact h2
    · rintro σ' H2 ⟨F2, en, k2, s2, h2⟩
      rw [List.drop_length] at h2
      exact h2 σ' H2 F2 k2 StepS.refl
theorem es_whl {c : Expr} {body : List Stmt} {pos : Pos} {n : Nat} {nor : Bool} {evc : Env → Res (PV × Env)} {evb : Env → Out} (hp : PassesOwn (model X.prog X.w) X.A X.env X.xe) (hc : PT X c (rdT R W nor evc)) (hb : PSs X body (rdS R W fresh evb)) :
    PS X (.While c body [] pos) (rdS R W fresh fun env => whileGo evc evb n env) :=
  PS.imp (ps_while hp hc hb) fun D σ H ⟨F, env, k, h⟩ => by
    refine ⟨fun m σ H => ∃ F en, EnvOk R σ H F en ∧ okS R W fresh D H F (whileGo evc evb m en), ⟨n, F, env, k, h⟩, ?_⟩
    rintro m σ1 H1 ⟨F1, en, k1, h1⟩
    cases m with
    | zero => exact h1.elim
    | succ m =>
      unfold whileGo at h1
      refine ⟨F1, en, k1, okS.bindT (k := fun t r => if t = true then match evb r.2 with
        | .nx e => whileGo evc evb m e
        | .ct e => whileGo evc evb m e
        | .bk e => .nx e
        | o => o else .nx r.2) h1 fun b q H2 F2 _ k2 s2 h2 => ?_⟩
      cases b with
      | false => exact h2 σ1 H2 F2 k2 s2.s
      | true =>
        show ∃ N, _
        refine ⟨fun σ' H' => ∃ F en, EnvOk R σ' H' F en ∧ okS R W fresh D H' F (whileGo evc evb m en), fun σ' H' z => ⟨m, Nat.lt_succ_self _, z⟩, F2, q.2, k2, ?_⟩
        have h2 := okS.step s2.s h2
        cases eb : evb q.2 with
        | nx e =>
          simp only [eb, if_true] at h2
          exact fun σ4 H4 F4 k4 s4 => ⟨F4, e, k4, okS.step s4 h2⟩
        | ct e =>
          simp only [eb, if_true] at h2
          exact fun σ4 H4 F4 k4 s4 => ⟨F4, e, k4, okS.step s4 h2⟩
        | bk e =>
          simp only [eb, if_true] at h2
          exact h2
        | rt p e =>
          simp only [eb, if_true] at h2
          exact h2
        | raise c x e =>
          simp only [eb, if_true] at h2
          exact h2
        | fail =>
          simp only [eb, if_true] at h2
          exact h2
end
end Ev

/-! EvE20: a def keeps its promise. -/
namespace Ev
open PySem PySem.Spec PyProof.Rows L2
variable {G : Gl0} {H H' : Hp}
theorem RepN.get : ∀ {l : List PV} {vs : List V} {fs : List (List Addr)} {i : Nat} {p : PV}, RepN G H l vs fs → l[i]? = some p → ∃ v f, vs[i]? = some v ∧ fs[i]? = some f ∧ RepF G H p v f
  | _, _, _, _, _, .nil, e => by simp at e
  | _, _, _, 0, _, .cons h t, e => by
    simp at e; subst e
    exact ⟨_, _, rfl, rfl, h⟩
  | _, _, _, i + 1, _, .cons h t, e => by
    obtain ⟨v, f, h1, h2, h3⟩ := RepN.get (i := i) t (by simpa using e)
    exact ⟨v, f, by simpa using h1, by simpa using h2, h3⟩
/-- the frame at a def's entry -/
def frOf (G : Gl0) (cls : Nat → Addr) (d : Def) (H : Hp) (vs : List V) (fs : List (List Addr)) : Fr0 where
  G := G
  ms := d.ms
  br := d.br
  H0 := H
  B := fun a => a ∈ refd d.br fs
  A := fun a => a ∈ fs.flatten ∨ H a = none
  cls := cls
  pin := fun i => if d.br = true ∧ i = 0 then vs[0]? else none
/-- a def's slots -/
def defOk (d : Def) : Bool := (d.ms.all fun i => decide (i < d.np → i = 0 ∧ d.br = true)) && (!d.br || (decide (0 ∈ d.ms) && decide (0 < d.np)))
theorem getD_nil {fs : List (List Addr)} {i : Nat} (h : fs.length ≤ i) : fs.getD i [] = [] := by
  rw [List.getD_eq_getElem?_getD, List.getElem?_eq_none h]; rfl
theorem refd_zero {fs : List (List Addr)} : fs.getD 0 [] = refd true fs := by
  cases fs <;> rfl
theorem env_start {cls : Nat → Addr} {d : Def} {args : List PV} {vs : List V} {fs : List (List Addr)} {N : List Str} (ok : defOk d = true) (hn : N.length = d.n) (hp : d.np ≤ d.n) (a : ArgsOk G d.br d.np H args vs fs) :
    EnvOk (frOf G cls d H vs fs) (L2.start N vs) H (fun i => fs.getD i []) (Ev.start d args) := by
  obtain ⟨ok1, ok2⟩ := Bool.and_eq_true_iff.mp ok
  have ok1 : ∀ i ∈ d.ms, i < d.np → i = 0 ∧ d.br = true := fun i hi => of_decide_eq_true (List.all_eq_true.mp ok1 i hi)
  have l1 := a.rep.length
  have hlen := a.len
  have lv : vs.length = d.np := by rw [l1.1, hlen]
  have lf : fs.length = d.np := by rw [l1.2, hlen]
  have mem : ∀ i b, b ∈ fs.getD i [] → b ∈ fs.flatten := fun i b hb => by
    rw [List.getD_eq_getElem?_getD] at hb
    cases e : fs[i]? with
    | none => rw [e] at hb; simp at hb
    | some f =>
      rw [e] at hb
      exact List.mem_flatten.mpr ⟨f, List.mem_of_getElem? e, hb⟩
  have own : ∀ i ∈ d.ms, ∀ b ∈ fs.getD i [], i = 0 ∧ d.br = true := fun i hi b hb => by
    rcases Nat.lt_or_ge i d.np with h | h
    · exact ok1 i hi h
    · rw [getD_nil (by omega)] at hb; simp at hb
  have gst : ∀ {i : Nat} {p : PV}, (Ev.start d args)[i]? = some p → p ≠ .undef → args[i]? = some p := fun {i p} e n => by
    unfold Ev.start at e
    rcases Nat.lt_or_ge i args.length with h | h
    · rw [List.getElem?_append_left h] at e; exact e
    · rw [List.getElem?_append_right h, List.getElem?_replicate] at e
      split at e
      · cases e; exact absurd rfl n
      · cases e
  have vst : ∀ {i : Nat} {v : V}, vs[i]? = some v → (L2.start N vs)[i]? = some (some v) := fun {i v} e => by
    unfold L2.start
    have hi : i < vs.length := by
      rcases Nat.lt_or_ge i vs.length with h | h
      · exact h
      · rw [List.getElem?_eq_none h] at e; cases e
    rw [List.getElem?_append_left (by simpa using hi), List.getElem?_map, e]
    rfl
  refine ⟨?_, fun i p e n => ?_, fun i e => ?_, fun i hi => ?_, fun i hi b hb => ?_, fun i hi b hb => ?_, fun i hi j n b hb hc => ?_, fun i b hb => .inl (mem i b hb), fun b o e _ => e, fun b e => ⟨e, .inr e⟩, a.lok, fun i v e => ?_⟩
  · unfold Ev.start L2.start
    rw [List.length_append, List.length_append, List.length_map, List.length_replicate, List.length_replicate, lv, hlen, hn]
  · obtain ⟨v, f, h1, h2, h3⟩ := a.rep.get (gst e n)
    refine ⟨v, vst h1, ?_⟩
    show RepF G H p v (fs.getD i [])
    rw [List.getD_eq_getElem?_getD, h2]
    exact h3
  · rcases Nat.lt_or_ge i d.np with h | h
    · exfalso
      have hi : i < args.length := by omega
      have e2 : (Ev.start d args)[i]? = some args[i] := by
        unfold Ev.start
        rw [List.getElem?_append_left hi, List.getElem?_eq_getElem hi]
      rw [List.getD_eq_getElem?_getD, e2] at e
      have e : args[i] = .undef := e
      obtain ⟨v, f, _, _, h3⟩ := a.rep.get (i := i) (p := args[i]) (by simp [hi])
      rw [e] at h3
      exact h3
    · exact getD_nil (by omega)
  · by_cases c : fs.getD i [] = []
    · show (fs.getD i []).Nodup
      rw [c]; exact List.nodup_nil
    · obtain ⟨b, hb⟩ := List.exists_mem_of_ne_nil _ c
      obtain ⟨rfl, hbr⟩ := own i hi b hb
      have := a.nd
      rw [hbr] at this
      show (fs.getD 0 []).Nodup
      rw [refd_zero]; exact this
  · have hb : b ∈ fs.getD i [] := hb
    obtain ⟨rfl, hbr⟩ := own i hi b hb
    have := a.mu b
    rw [hbr, ← refd_zero] at this
    exact this hb
  · have hb : b ∈ fs.getD i [] := hb
    obtain ⟨rfl, hbr⟩ := own i hi b hb
    refine .inr ⟨rfl, hbr, ?_⟩
    show b ∈ refd d.br fs
    rw [hbr, ← refd_zero]; exact hb
  · have hb : b ∈ fs.getD i [] := hb
    have hc : b ∈ fs.getD j [] := hc
    obtain ⟨rfl, hbr⟩ := own i hi b hb
    rw [List.getD_eq_getElem?_getD] at hc
    cases e : fs[j]? with
    | none => rw [e] at hc; simp at hc
    | some f =>
      rw [e] at hc
      refine a.dj hbr j f (Nat.pos_of_ne_zero n) e b hc ?_
      rw [hbr, ← refd_zero]; exact hb
  · have e' : (if d.br = true ∧ i = 0 then vs[0]? else none) = some v := e
    split at e'
    · rename_i c
      obtain ⟨c1, rfl⟩ := c
      rw [c1] at ok2
      simp only [Bool.not_true, Bool.false_or, Bool.and_eq_true, decide_eq_true_eq] at ok2
      exact ⟨ok2.1, vst e'⟩
    · cases e'
/-- the callee's end is what was promised -/
theorem fin_law {cls : Nat → Addr} {d : Def} {args : List PV} {vs : List V} {fs : List (List Addr)} {N : List Str} {Q : VK} {E : XK} {o : Out} (ok : defOk d = true) (hn : N.length = d.n) (hp : d.np ≤ d.n) (a : ArgsOk G d.br d.np H args vs fs)
    (h : match finish d o with
      | .ok p b => ∀ z H' fz f0, After G d.br H fs vs[0]? b H' f0 → Back G d.br d.fresh H fs H' f0 p z fz → Q z H'
      | .raise c x b => ∀ dc y H' f0, After G d.br H fs vs[0]? b H' f0 → H' dc = some (.xd [(G.fld c, y)]) → RepF G H' x y [] → E (.ref (cls c)) (some dc) H'
      | .fail => False) :
    okS (frOf G cls d H vs fs) (fun c x _ H => E c x H) d.fresh { nx := fun _ H' => Q .non H', rt := Q } H (fun i => fs.getD i []) o := by
  have lv : vs.length = d.np := by rw [a.rep.length.1, a.len]
  obtain ⟨_, ok2⟩ := Bool.and_eq_true_iff.mp ok
  have pin : d.br = true → 0 ∈ d.ms ∧ ∃ v0, vs[0]? = some v0 := fun c => by
    rw [c] at ok2
    simp only [Bool.not_true, Bool.false_or, Bool.and_eq_true, decide_eq_true_eq] at ok2
    exact ⟨ok2.1, vs[0]'(by omega), by simp⟩
  -- what is true behind
  have aft : ∀ {σ' : St} {H' : Hp} {F' : Nat → List Addr} {e : Env} {b : PV}, EnvOk (frOf G cls d H vs fs) σ' H' F' e → (d.br = true → e.getD 0 .undef = b ∧ b ≠ .undef) → After G d.br H fs vs[0]? b H' (F' 0) := fun {σ' H' F' e b} k hb => by
    refine ⟨fun x o ex n => k.keep x o ex n, fun x ex => (k.dom x ex).1, k.lok, fun c => ?_, fun c => k.nd 0 (pin c).1, fun c => k.mu 0 (pin c).1, fun c x hx => ?_⟩
    · obtain ⟨h0, v0, e0⟩ := pin c
      obtain ⟨eb, nb⟩ := hb c
      have rf := k.rf 0 v0 (by show (if d.br = true ∧ 0 = 0 then vs[0]? else none) = _; rw [if_pos ⟨c, rfl⟩]; exact e0)
      obtain ⟨w, h1, h2⟩ := k.slot 0 b (getD_of eb nb) nb
      rw [rf.2] at h1
      cases h1
      exact ⟨v0, e0, h2⟩
    · rcases k.ow 0 (pin c).1 x hx with z | ⟨_, _, z⟩
      · exact .inr z
      · exact .inl z
  have bk : ∀ {σ' : St} {H' : Hp} {F' : Nat → List Addr} {e : Env} {p : PV} {z : V} {fz : List Addr}, EnvOk (frOf G cls d H vs fs) σ' H' F' e → RetOk (frOf G cls d H vs fs) d.fresh H' F' p z fz → Back G d.br d.fresh H fs H' (F' 0) p z fz := fun {σ' H' F' e p z fz} k r =>
    ⟨r.rep, r.old, fun c x hx hy => r.st x hx ⟨0, (pin c).1, hy⟩, r.h0, r.nd, r.mu⟩
  have nob : ∀ {e : Env}, d.br = true → (match e.getD 0 .undef with | .undef => False | _ => True) → e.getD 0 .undef ≠ .undef := fun _ z c => by rw [c] at z; exact z
  cases o with
  | bk e => exact h.elim
  | ct e => exact h.elim
  | fail => exact h.elim
  | rt p e =>
    intro σ' H' F' z fz k st r
    unfold finish at h
    by_cases c : d.br = true
    · simp only [c, if_true] at h
      by_cases u : e.getD 0 .undef = .undef
      · simp only [u] at h
      · have hb : ∀ z H' fz f0, After G d.br H fs vs[0]? (e.getD 0 .undef) H' f0 → Back G d.br d.fresh H fs H' f0 p z fz → Q z H' := by
          cases eu : e.getD 0 .undef with
          | undef => exact absurd eu u
          | _ => simp only [eu, c] at h ⊢; exact h
        exact hb z H' fz (F' 0) (aft k fun _ => ⟨rfl, u⟩) (bk k r)
    · simp only [c, if_false] at h
      have cf : d.br = false := by simpa using c
      have A := aft (b := .undef) k (fun z => absurd z c)
      have B := bk k r
      rw [cf] at A B
      exact h z H' fz (F' 0) A B
  | nx e =>
    intro σ' H' F' k st
    have r : RetOk (frOf G cls d H vs fs) d.fresh H' F' .non .non [] := ⟨⟨rfl, rfl⟩, fun _ z => by simp at z, fun _ z => by simp at z, fun _ => List.nodup_nil, fun _ _ z => by simp at z, fun _ _ z => by simp at z⟩
    unfold finish at h
    by_cases c : d.br = true
    · simp only [c, if_true] at h
      by_cases u : e.getD 0 .undef = .undef
      · simp only [u] at h
      · have hb : ∀ z H' fz f0, After G d.br H fs vs[0]? (e.getD 0 .undef) H' f0 → Back G d.br d.fresh H fs H' f0 .non z fz → Q z H' := by
          cases eu : e.getD 0 .undef with
          | undef => exact absurd eu u
          | _ => simp only [eu, c] at h ⊢; exact h
        exact hb .non H' [] (F' 0) (aft k fun _ => ⟨rfl, u⟩) (bk k r)
    · simp only [c, if_false] at h
      have cf : d.br = false := by simpa using c
      have A := aft (b := .undef) k (fun z => absurd z c)
      have B := bk k r
      rw [cf] at A B
      exact h .non H' [] (F' 0) A B
  | raise ci x e =>
    intro σ' H' F' dc k st ex
    obtain ⟨y, fp, hd, ry, _, rfl⟩ := ex
    unfold finish at h
    by_cases c : d.br = true
    · simp only [c, if_true] at h
      by_cases u : e.getD 0 .undef = .undef
      · simp only [u] at h
      · have hb : ∀ dc y H' f0, After G d.br H fs vs[0]? (e.getD 0 .undef) H' f0 → H' dc = some (.xd [(G.fld ci, y)]) → RepF G H' x y [] → E (.ref (cls ci)) (some dc) H' := by
          cases eu : e.getD 0 .undef with
          | undef => exact absurd eu u
          | _ => simp only [eu, c] at h ⊢; exact h
        exact hb dc y H' (F' 0) (aft k fun _ => ⟨rfl, u⟩) hd ry
    · simp only [c, if_false] at h
      have cf : d.br = false := by simpa using c
      have A := aft (b := .undef) k (fun z => absurd z c)
      rw [cf] at A
      exact h dc y H' (F' 0) A hd ry
end Ev

/-! EvX1: an own exception's __init__: super().__init__(f'..{x}'), self.x = x. -/
namespace Ev
open PySem PySem.Spec PyProof.Rows L2 NdefX
/-- where the words of such an __init__ stand, its words -/
structure XPos where
  p0 : Pos
  p1 : Pos
  p2 : Pos
  p3 : Pos
  p4 : Pos
  p5 : Pos
  p6 : Pos
  p7 : Pos
  p8 : Pos
  p9 : Pos
  pa : Pos
  pb : Pos
  pc : Pos
  j : Nat
  pre : Str
def xBody (q : XPos) (f : Str) : List Stmt :=
  [.Expr (.Call (.Attribute (.Call (.Name "super" q.p0) [] [] q.p1) "__init__" q.p2) [.JoinedStr [.Constant (.str q.pre) q.j q.p3, .FormattedValue (.Name f q.pa) (-1) none q.pb] q.p4] [] q.p5) q.p6,
   .Assign [.Attribute (.Name "self" q.p7) f q.p8] (.Name f q.p9) q.pc]
/-- a short text or an int that can be told -/
def XArg (v : V) : Prop := (∃ y : Str, v = .str y ∧ y.length ≤ 1000) ∨ ∃ i : Int, v = .int i ∧ i.natAbs.log2 < 1920
/-- what the head tells of the class at C, whose error keeps f -/
structure XCls (P : Program) (K : PySem.W.Frag) (C fI : Addr) (F : NF) (q : XPos) (f : Str) : Prop where
  ox : OexC K C
  fi : PySem.W.findIn K (.ref C) "__init__" = some (some (.ref fI))
  ti : PySem.W.typeIn K (.ref fI) = some (.type "function")
  lk : ∃ oc od sl doc pm ctv, K.lookup fI = some ⟨oc, od, .func (F.fd doc pm ctv), sl⟩
  cd : PySem.W.codeIn K (.ref F.c) F.qual = true
  bd : F.body = xBody q f
  sc : NScope ["self", f, "__class__"] ["self", f] ["__class__"] F.scope
  ks : F.scope.names.lookup ("super" : Str) = some .globalImplicit
  pr : F.params.posonlyargs = [] ∧ ∃ a1 r, F.params.args = a1 :: r ∧ a1.arg = "self"
  cl : ∃ cc : Addr, F.cl = [(("__class__" : Str), cc)] ∧ ∃ o3 o4 o5, K.lookup cc = some ⟨o3, o4, .cell (some (.ref C)), o5⟩
  co : ∃ o1 o2 vs sl file tk, K.lookup F.c = some ⟨o1, o2, .fields vs, sl⟩ ∧ vs[2]? = some (.str file tk) ∧ ((P.main.file : Str) == file) = true
  tp : (P.main.scope.names.lookup ("super" : Str)).isSome = false
  mc : PySem.W.mroIn K C (.ref C) = some true
  sv : PySem.W.subIn K (.ref C) (.type "ValueError") = some true
  op : PySem.W.nsIn K cStatics "thirdparty.any" = some none
  al : PySem.W.ks_superIn K C C "__init__" = some (some (.builtin "ValueError.__init__"))
  nf : PySem.W.findIn K (.ref C) f = some none
  pl : q.pre.length ≤ 1000
  ln : (q.p2.endLine == q.p5.line) = true
/-- its __init__'s promise -/
def spI (C : Addr) (f : Str) : Sp := fun vs H Q _ => ∃ a v, vs = [.ref a, v] ∧ XArg v ∧ H a = some (exo a C none) ∧ ∀ dx, H dx = none → dx ≠ a → Q .non (upd (upd H dx (exd dx [(f, v)])) a (exo a C (some dx)))
section
variable {X : Cx} {pins : List (Addr × Obj)} {σ : L2.St} {H : Hp} {s : Shared} {a C : Addr}
/-- the bound __init__ of ValueError, called -/
theorem vinit_ok {u : Addr} {us : List Value} {Q : Value → Shared → Prop} {E : Value → Shared → Prop} (T : OexC X.K C) (I : Inv X pins σ H s) (e : H a = some (exo a C none)) (hu : s.heap.get? u = some (PySem.W.kxs_mw "ValueError.__init__" a)) (hl : us.length ≤ sizeLine) (h : ∀ s', Inv X pins σ H s' → Q .none s') :
    wpAny (model X.prog X.w) X.A (call (.ref u) us) Q E s := by
  obtain ⟨nm, q, N, bs, bm, sn, sub, ab, col, dd, k0, k1, k2, k3, k5, hC, hbm⟩ := T.cls
  obtain ⟨t1, ho⟩ := exo_at I.hok e
  have hC' := I.kIn _ _ hC
  obtain ⟨hp, g, d, t, os⟩ := s
  refine wpAny_call (codeAny_of_tree ?_)
  show wpAny _ X.A.in1 (callAny (.ref u) ⟨us, []⟩) _ _ _
  simp only [callAny]
  refine wpAny_bind (wpAny_load hu ?_)
  simp only [PySem.W.kxs_mw, show (Value.type "method-wrapper" == Value.type "method" || Value.type "method-wrapper" == Value.type "builtin_function_or_method" || Value.type "method-wrapper" == Value.type "method-wrapper") = true by decide, if_true]
  refine PySem.W.KFB.if_so (by decide) ?_
  refine wpAny_bind (PySem.W.check_bound_init F.excBase_ValueError.toExcCallFacts hC' ho rfl ?_)
  refine wpAny_bind (wpAny_pure (wpAny_pure ?_))
  refine ⟨plainId_quiet F.excBase_ValueError.init.plain _, codeAny_builtin F.excBase_ValueError.initEntry ?_⟩
  refine PySem.W.exc_init_tree (cls := .ref C) (t0 := t1) (dv := none) (c2 := .none) (c3 := .none) (b4 := .bool false) ho hl fun h' k hx _ => ?_
  have J := I.write (t' := t) (x := a) (e := a) (o := exo a C none) (by rw [e]; exact True.intro) (.inl rfl) k ⟨_, hx⟩ (exo_ok hx)
  have eu : upd H a (exo a C none) = H := by
    funext b
    by_cases hb : b = a
    · rw [hb, upd_same, e]
    · rw [upd_ne hb]
  rw [eu] at J
  exact h _ J
end
theorem sup_eval {o : Expr} {name : Str} {apos pos p4 : Pos} {vals : List Expr} {env : PySem.Env} (hline : (apos.endLine == pos.line) = true) : eval (.Call (.Attribute o name apos) [.JoinedStr vals p4] [] pos) env = (do
    let ov ← attributeBase o name env (eval o env)
    standAt apos.atName
    let (f, first) ← holding [ov] (getMethod ov name (do return (← importBound o env).getD true))
    callWith pos f first (backTo pos (starEach [.JoinedStr vals p4] env)) []) := by
  have hpos : methodCallPos true o env apos pos = pure pos := by unfold methodCallPos; simp [hline]
  have hform : methodCallForm (([Expr.JoinedStr vals p4] : List Expr).length + ([] : List Keyword).length) (backTo pos (starEach [.JoinedStr vals p4] env)) (backToKw pos (keywordEach [] env)) = true := rfl
  rw [arm_eval_Call]
  unfold methodCall
  simp only [hform, hpos, pure_bind]
  rfl
theorem xarg_fmt {X : Cx} {i : Nat} {f : Str} {pos pos' : Pos} (hN : X.N[i]? = some f) (hv : Vis X.env.scope f) (hd : (f == ("__debug__" : Str)) = false) (hcd : (f == ("__classdict__" : Str)) = false) : PE X (.FormattedValue (.Name f pos) (-1) none pos') (tFmt (tVar i)) := pe_fmt (pe_var hN hv hd hcd)
theorem init_fn {P : Program} {w : World} {K : PySem.W.Frag} {mg : Str → Option Value} {base : Heap} {C fI : Addr} {F : NF} {q : XPos} {f : Str} (T : XCls P K C fI F q f) (hsup : mg "super" = none) (hfs : (f == ("__debug__" : Str)) = false) (hfc : (f == ("__classdict__" : Str)) = false) (n : Nat) :
    ∃ fd, FnOk P w K mg base (L2.CX P w) (n + 1) fI fd ["self", f] (spI C f) ∧ (∃ doc pm ctv, fd = F.fd doc pm ctv) := by
  obtain ⟨oc, od, sl, doc, pm, ctv, lk⟩ := T.lk
  refine ⟨F.fd doc pm ctv, ⟨fun vs H Q E h => by obtain ⟨a, v, rfl, _⟩ := h; rfl, fun A outer s H args us vs Q E hr e0 hb r hsp => ?_⟩, doc, pm, ctv, rfl⟩
  obtain ⟨a, v, rfl, xa, ea, hq⟩ := hsp
  obtain ⟨cc, hcl, o3, o4, o5, hcc⟩ := T.cl
  have KX : K.In s.heap := e0.mod.kin.keeps fun b o e => (e0.bs b o e).1
  have lim : s.heap.NoLimit := e0.mod.nolimit.keeps fun b o e => (e0.bs b o e).1
  have S := T.sc
  refine codeAny_call_function hr.depth (KX _ _ lk) rfl S.co S.gen rfl (PySem.W.codeRec_of KX T.cd) (hb _ _ _ _ ?_)
  refine wpAny_newFunctionEnv S.nocell (fun ⟨n, _⟩ hy => S.par n (List.of_mem_zip hy).1) (fun h₁ hns hsb => ⟨lim.fresh _ hsb, ?_⟩) S.kind
  show codeAny _ _ (.func F.body (envF F fI s.heap.objs.size)) _ _
  have kp : ∀ b o, s.heap.get? b = some o → h₁.get? b = some o := fun b o e => hsb.extBut b o (Nat.ne_of_lt (Heap.lt_size e)) (Heap.get?_push_of_some _ e)
  have CA : CellsAt F.cl ["__class__"] [none] s.heap H := by
    rw [hcl]
    refine ⟨rfl, fun y c e => ?_, fun x y c e1 e2 => ?_, fun i y e => ?_⟩
    · have : c = cc := by
        rw [List.lookup_cons] at e
        split at e
        · exact (Option.some.inj e).symm
        · cases e
      subst this
      exact ⟨(e0.bs c _ (e0.mod.kin c _ hcc)).2, _, _, KX _ _ hcc, rfl⟩
    · have h1 : ∀ {z c'}, List.lookup z [(("__class__" : Str), cc)] = some c' → z = "__class__" := fun {z c'} e => by
        rw [List.lookup_cons] at e
        split at e
        · rename_i hz; exact beq_iff_eq.mp hz
        · cases e
      rw [h1 e1, h1 e2]
    · cases i with
      | zero =>
        cases e
        exact ⟨cc, rfl, fun v hv => by cases hv⟩
      | succ i => simp at e
  have I : L2.Inv (ncx (L2.CX P w) P w K mg base [("self" : Str), f, "__class__"] F fI A outer s H E) [] (startF [("self" : Str), f, "__class__"] [V.ref a, v] [none]) H { s with heap := h₁, toks := s.toks + ([("self" : Str), f].zip us).length } := inv_startN S hr.hd e0 rfl r CA hns kp
  refine PySem.ks_codeAny_funcAt ?_
  rw [T.bd]
  obtain ⟨o1, o2, vs2, sl2, file, tk2, hco, hvs, hfile⟩ := T.co
  obtain ⟨hpo, a1, rr, hpa, ha1⟩ := T.pr
  obtain ⟨nm, q0, N0, bs, bm, sn, sub, ab, col, dd, k0, k1, k2, k3, k5, hCl, hbm⟩ := T.ox.cls
  have hself : F.scope.names.lookup ("self" : Str) = some .local := S.par "self" (by simp)
  have hf : F.scope.names.lookup f = some .local := S.par f (by simp)
  have hkc : F.scope.names.lookup ("__class__" : Str) = some .free := S.frk "__class__" (by simp)
  have K1 : K.In h₁ := KX.keeps kp
  refine PySem.ks_wpAt_execs_cons ?_
  refine PySem.ks_wpAt_Expr_any ?_ (by show (F.scope.kind == .module && _) = false; rw [S.kind]; rfl) (by rfl)
  refine PySem.ks_wpAt_MethodCall ?_ (sup_eval T.ln)
  refine PySem.ks_wpAt_super_base (env := envF F fI s.heap.objs.size) (f := fI) (cc := F.c) T.ks hkc (by decide) rfl (K1 _ _ lk) rfl (by show (F.params.posonlyargs ++ F.params.args).head? = _; rw [hpo, hpa]; rfl) rfl (K1 _ _ hco) rfl hvs hfile T.tp ?_
  -- super, __class__, self
  obtain ⟨mb, hb1, hb2⟩ := I.mod.blt
  refine PySem.W.ks_loadName_global S.kind T.ks (Calls.loadGlobal_builtin (env := envF F fI s.heap.objs.size) (I.mod.glob.keeps I.bk) hsup (hb1.keeps I.bk) ((hb2 _ (by decide)).trans PyProof.Rows.Boot.«super») ⟨rfl, ?_⟩)
  refine wpAny_loadName_free S.kind hkc (c := cc) (by show List.lookup _ F.cl = _; rw [hcl]; rfl) ⟨_, K1 _ _ hcc, rfl⟩ ?_
  obtain ⟨m, hm1, hm2⟩ := id I.loc
  obtain ⟨u0, r0, l0⟩ := hm2 0 "self" (V.ref a) rfl rfl (.inl hself)
  obtain rfl : u0 = Value.ref a := r0
  rw [ha1]
  have l1 : m "self" = some (.ref a) := by
    rcases l0 with ⟨_, l⟩ | ⟨l, _⟩
    · exact l
    · rcases l with l | l
      · exact absurd (hself.symm.trans l) (by simp)
      · exact absurd (hself.symm.trans l) (by simp)
  refine wpAny_loadName_local S.kind hself hm1 l1 ?_
  have hC1 := K1 _ _ hCl
  refine PySem.ks_wpAny_isType_cls hC1 rfl ⟨rfl, ?_⟩
  obtain ⟨t1, hax⟩ := exo_at I.hok ea
  refine PySem.ks_wpAny_call_super hC1 rfl hax rfl (fun c z => by cases z) (PySem.W.looks_mroIn K1 T.mc) (fun h2 e2 k2 => ?_)
  have I2 : L2.Inv (ncx (L2.CX P w) P w K mg base [("self" : Str), f, "__class__"] F fI A outer s H E) [] (startF [("self" : Str), f, "__class__"] [V.ref a, v] [none]) H _ := I.kept (h' := h2) (t' := s.toks + ([("self" : Str), f].zip us).length) k2
  have hne : a ≠ C := fun z => by
    have := K1 _ _ hCl
    rw [← z] at this
    have q2 : h₁.get? a = _ := hax
    rw [this] at q2
    cases q2
  have hcls : PySem.W.clsIn K C = some { name := nm, bases := bs, mro := .ref C :: bm, ns := N0, qualname := q0, hasDict := true, slotNames := sn, subclasses := sub, abstract := ab, collection := col, hasDel := false } := by unfold PySem.W.clsIn; rw [show K.lookup C = _ from hCl]
  have K2 : K.In h2 := K1.keeps k2
  have tyL : ∀ {hh : Heap}, (∀ b o, h₁.get? b = some o → hh.get? b = some o) → PySem.W.Looks (model P w) hh (typeOf (.ref a)) (.ref C) := fun {hh} kk A Q E s k q => wpAny_typeOf_ref (k _ _ (kk _ _ hax)) q
  have al : PySem.W.alongIn K "__init__" (((Value.ref C :: bm).dropWhile (· != .ref C)).drop 1) = some (some (.builtin "ValueError.__init__")) := by
    have := T.al
    unfold PySem.W.ks_superIn at this
    rw [hcls] at this
    exact this
  refine PySem.W.kxs_getMethod PySem.W.kxs_ValueError e2 (PySem.W.looks_opaque K2 T.op) (l₀ := .ref C :: bm) (fun A Q E s k q => wpAny_bind ((PySem.W.looks_clsIn K2 hcls) A _ E s k (wpAny_pure q))) rfl K2 al ((tyL k2).andThen (PySem.W.looks_subIn K2 T.sv)) hne (by decide) ?_
  have k3 : ∀ b o, h2.get? b = some o → (h2.push (PySem.W.kxs_mw "ValueError.__init__" a)).get? b = some o := fun b o e => Heap.get?_push_of_some _ e
  have hu : (h2.push (PySem.W.kxs_mw "ValueError.__init__" a)).get? h2.objs.size = some (PySem.W.kxs_mw "ValueError.__init__" a) := Heap.get?_push_at rfl rfl
  have I3 := I2.kept (h' := h2.push (PySem.W.kxs_mw "ValueError.__init__" a)) (t' := s.toks + ([("self" : Str), f].zip us).length + 1) k3
  have I4 := I3.pins_of (pins' := [(h2.objs.size, PySem.W.kxs_mw "ValueError.__init__" a)]) fun p hp => by
    rw [List.mem_singleton.mp hp]
    exact ⟨hu, I2.hok.fresh (Nat.le_refl _), fun z => absurd I2.lt (by rw [← z]; exact Nat.lt_irrefl _), I2.nofs (Nat.le_refl _), fun w z => by cases z⟩
  have pj : PA (ncx (L2.CX P w) P w K mg base [("self" : Str), f, "__class__"] F fI A outer s H E) [.JoinedStr [.Constant (.str q.pre) q.j q.p3, .FormattedValue (.Name f q.pa) (-1) none q.pb] q.p4] _ :=
    pa_cons (pe_joined (.cons pe_str (.cons (xarg_fmt (i := 1) rfl (.inl hf) hfs hfc) .nil))) pa_nil
  have hjoin : ∀ y : Str, y.length ≤ 10000 → (Str.empty ++ q.pre ++ y).length ≤ sizeLine := fun y hy => by
    have h1 : (Str.empty ++ q.pre ++ y).length = q.pre.length + y.length := by
      rw [Str.length_append, Str.length_append]
      show 0 + q.pre.length + y.length = _
      omega
    rw [h1, sizeLine_eq]
    have := T.pl
    omega
  have hpre : (Str.empty ++ q.pre).length ≤ sizeLine := by
    have h1 : (Str.empty ++ q.pre).length = q.pre.length := by
      rw [Str.length_append]
      show 0 + q.pre.length = _
      omega
    rw [h1, sizeLine_eq]
    have := T.pl
    omega
  refine PySem.W.kxs_callWith (i := "ValueError.__init__") (x := a) rfl (Calls.evalArgs_plain (thn (pj.run q.p5 _ _ _ _ (fun vs H1 => H1 = H ∧ vs.length = 1) I4 ⟨q.pre, rfl, hpre, v, rfl, ?_⟩) fun us5 s5 h5 => ?_))
  · rcases xa with ⟨y, rfl, hy⟩ | ⟨i, rfl, hi⟩
    · exact .inl ⟨y, rfl, by rw [sizeLine_eq]; omega, y, rfl, hjoin y (by omega), rfl, rfl⟩
    · refine .inr ⟨i, rfl, hi, toString i, rfl, hjoin _ ?_, rfl, rfl⟩
      have e := int_text_length_le (k := 1920) (by decide) hi
      show (Str.ofString (toString i)).length ≤ _
      rw [PySem.ofString_length]
      omega
  obtain ⟨vs5, H5, I5, r5, rfl, hl5⟩ := h5
  have hu5 := (I5.pin _ (List.mem_append_right _ List.mem_cons_self)).1
  refine ⟨hu5, vinit_ok (X := ncx (L2.CX P w) P w K mg base [("self" : Str), f, "__class__"] F fI A outer s H5 E) T.ox I5 ea hu5 (by rw [List.nil_append, ← r5.length, hl5, sizeLine_eq]; decide) fun s6 J => ?_⟩
  show PySem.wpAt (model P w) (A.deeper (envF F fI s.heap.objs.size)) _ (execs [.Assign [.Attribute (.Name "self" q.p7) f q.p8] (.Name f q.p9) q.pc] (envF F fI s.heap.objs.size)) _ _ s6
  refine wpAt_of_wpAny ?_
  have ps : PSs (ncx (L2.CX P w) P w K mg base [("self" : Str), f, "__class__"] F fI A outer s H5 E) [.Assign [.Attribute (.Name "self" q.p7) f q.p8] (.Name f q.p9) q.pc] _ :=
    pss_cons (ps_ost (pe_var (i := 0) rfl (.inl hself)) (pe_var (i := 1) rfl (.inl hf) hfs hfc)) pss_nil
  refine wpAny_mono (ps.run _ s6 _ H5 { nx := fun _ H' => Q .non H', rt := Q } J ⟨v, rfl, .ref a, rfl, a, C, rfl, T.ox, T.nf, .inl ⟨ea, fun dx h1 h2 => hq dx h1 h2⟩⟩) (fun fl s' hs => ?_) fun e s' hs => hs
  have fin : ∀ {pp : List (Addr × Obj)} {σ' : L2.St} {H' : Hp} {v : V} {u : Value}, L2.Inv (ncx (L2.CX P w) P w K mg base [("self" : Str), f, "__class__"] F fI A outer s H5 E) pp σ' H' s' → RelV v u → Q v H' → CE outer P w H5 s Q u s' :=
    fun {pp σ' H' v u} J rv q => ⟨v, H', J.os, J.bare, J.base, J.hok, rv, q⟩
  cases fl with
  | ret u =>
    obtain ⟨v, σ', H', J, rv, q⟩ := hs
    exact fin J rv q
  | next =>
    obtain ⟨σ', H', J, q⟩ := hs
    exact fin (v := V.non) (u := Value.none) J rfl q
  | brk =>
    obtain ⟨_, _, _, q⟩ := hs
    exact False.elim q
  | cont =>
    obtain ⟨_, _, _, q⟩ := hs
    exact False.elim q
end Ev

/-! EvX2: raise, try .. except .. as n: .. return .., isinstance and the word of the caught error. -/
namespace Ev
open PySem PySem.Spec PyProof.Rows L2 NdefX
section
variable {G : Gl0} {H : Hp}
/-- G, and this error is handled -/
def Gl0.on (G : Gl0) (e : Addr × Nat × Addr) : Gl0 := { G with ex := some e }
mutual
theorem RepF.ex {e : Addr × Nat × Addr} (hG : G.ex = none) : ∀ (p : PV) (v : V) (fp : List Addr), RepF G H p v fp → RepF (G.on e) H p v fp
  | .undef, _, _, h => h
  | .non, _, _, h => h
  | .bl _, _, _, h => h
  | .int _, _, _, h => h
  | .str _, _, _, h => h
  | .fn _, _, _, h => h
  | .tup l, v, fp, h => by
    obtain ⟨a, vs, e, hs, hl⟩ := h
    exact ⟨a, vs, e, hs, RepL.ex hG l vs fp hl⟩
  | .lst l, v, fp, h => by
    obtain ⟨a, vs, f, e, hs, hl, ef⟩ := h
    exact ⟨a, vs, f, e, hs, RepL.ex hG l vs f hl, ef⟩
  | .scr l, v, fp, h => by
    obtain ⟨a, vs, e, hs, hl, ef⟩ := h
    exact ⟨a, vs, e, hs, RepL.ex hG l vs fp hl, ef⟩
  | .exc c x, v, fp, h => by
    obtain ⟨a, d, y, e, hx, _⟩ := h
    rw [hG] at hx
    cases hx
theorem RepL.ex {e : Addr × Nat × Addr} (hG : G.ex = none) : ∀ (p : List PV) (v : List V) (fp : List Addr), RepL G H p v fp → RepL (G.on e) H p v fp
  | [], _, _, h => h
  | x :: l, v, fp, h => by
    obtain ⟨y, vs, f, f', e1, e2, h1, h2⟩ := h
    exact ⟨y, vs, f, f', e1, e2, RepF.ex hG x y f h1, RepL.ex hG l vs f' h2⟩
end
mutual
theorem RepF.un {e : Addr × Nat × Addr} : ∀ (p : PV) (v : V) (fp : List Addr), RepF (G.on e) H p v fp → p.ne = true → RepF G H p v fp
  | .undef, _, _, h, _ => h
  | .non, _, _, h, _ => h
  | .bl _, _, _, h, _ => h
  | .int _, _, _, h, _ => h
  | .str _, _, _, h, _ => h
  | .fn _, _, _, h, _ => h
  | .tup l, v, fp, h, n => by
    obtain ⟨a, vs, e, hs, hl⟩ := h
    exact ⟨a, vs, e, hs, RepL.un l vs fp hl (by simpa [PV.ne] using n)⟩
  | .lst l, v, fp, h, n => by
    obtain ⟨a, vs, f, e, hs, hl, ef⟩ := h
    exact ⟨a, vs, f, e, hs, RepL.un l vs f hl (by simpa [PV.ne] using n), ef⟩
  | .scr l, v, fp, h, n => by
    obtain ⟨a, vs, e, hs, hl, ef⟩ := h
    exact ⟨a, vs, e, hs, RepL.un l vs fp hl (by simpa [PV.ne] using n), ef⟩
  | .exc c x, v, fp, h, n => by simp [PV.ne] at n
theorem RepL.un {e : Addr × Nat × Addr} : ∀ (p : List PV) (v : List V) (fp : List Addr), RepL (G.on e) H p v fp → PV.nes p = true → RepL G H p v fp
  | [], _, _, h, _ => h
  | x :: l, v, fp, h, n => by
    obtain ⟨y, vs, f, f', e1, e2, h1, h2⟩ := h
    have n' : x.ne = true ∧ PV.nes l = true := by simpa [PV.nes] using n
    exact ⟨y, vs, f, f', e1, e2, RepF.un x y f h1 n'.1, RepL.un l vs f' h2 n'.2⟩
end
end
/-- the frame within an except suite -/
def Fr0.on (R : Fr0) (e : Addr × Nat × Addr) : Fr0 := { R with G := R.G.on e }
variable {R : Fr0} {W : WXX} {σ : St} {H H' : Hp} {F F' : Nat → List Addr} {env : Env} {fresh : Bool} {D : Ends}
theorem EnvOk.on {e : Addr × Nat × Addr} (hG : R.G.ex = none) (k : EnvOk R σ H F env) : EnvOk (R.on e) σ H F env :=
  ⟨k.len, fun i p e1 n => let ⟨v, h1, h2⟩ := k.slot i p e1 n; ⟨v, h1, RepF.ex hG _ _ _ h2⟩, k.non, k.nd, k.mu, k.ow, k.dj, k.old, k.keep, k.dom, k.lok, k.rf⟩
def F0 (x : PV) (F : Nat → List Addr) : Nat → List Addr := fun j => if j = 0 ∧ x.ne = true then F 0 else []
theorem F0_sub {x : PV} {j : Nat} {a : Addr} (h : a ∈ F0 x F j) : j = 0 ∧ a ∈ F j := by
  unfold F0 at h
  split at h
  · rename_i c; obtain ⟨rfl, _⟩ := c; exact ⟨rfl, h⟩
  · cases h
theorem EnvOk.off {e : Addr × Nat × Addr} {en : Env} (k : EnvOk (R.on e) σ H F en) : EnvOk R σ H (F0 (en.getD 0 .undef) F) (keep0 en) where
  len := by
    have := k.len
    cases en with
    | nil => exact this
    | cons x l => simpa [keep0] using this
  slot := fun i p e1 n => by
    cases en with
    | nil => cases e1
    | cons x l =>
      cases i with
      | zero =>
        have e1 : (some (if x.ne = true then x else .undef) : Option PV) = some p := e1
        by_cases c : x.ne = true
        · rw [if_pos c] at e1
          have e2 : x = p := Option.some.inj e1
          subst e2
          obtain ⟨v, h1, h2⟩ := k.slot 0 x rfl n
          refine ⟨v, h1, ?_⟩
          have : F0 ((x :: l).getD 0 .undef) F 0 = F 0 := if_pos ⟨rfl, c⟩
          rw [this]
          exact RepF.un _ _ _ h2 c
        · rw [if_neg c] at e1
          cases e1
          exact absurd rfl n
      | succ i =>
        have e1 : (List.replicate l.length PV.undef)[i]? = some p := e1
        rw [List.getElem?_replicate] at e1
        split at e1
        · cases e1; exact absurd rfl n
        · cases e1
  non := fun i e1 => by
    unfold F0
    split
    · rename_i c
      obtain ⟨rfl, c⟩ := c
      refine k.non 0 ?_
      cases en with
      | nil => rfl
      | cons x l =>
        have e1 : (if x.ne = true then x else PV.undef) = .undef := e1
        have c : x.ne = true := c
        rw [if_pos c] at e1
        exact e1
    · rfl
  nd := fun i hi => by
    unfold F0
    split
    · rename_i c; rw [c.1] at hi; exact k.nd 0 hi
    · exact List.nodup_nil
  mu := fun i hi a ha => k.mu i hi a (F0_sub ha).2
  ow := fun i hi a ha => k.ow i hi a (F0_sub ha).2
  dj := fun i hi j n a ha hb => k.dj i hi j n a (F0_sub ha).2 (F0_sub hb).2
  old := fun i a ha => k.old i a (F0_sub ha).2
  keep := k.keep
  dom := k.dom
  lok := k.lok
  rf := k.rf
theorem StepS.off {x : PV} {H1 : Hp} (s : StepS R.ms H F H1 F') : StepS R.ms H F H1 (F0 x F') := ⟨s.st, fun a ⟨j, hj, ha⟩ => s.ow a ⟨j, hj, (F0_sub ha).2⟩, s.dom⟩
theorem RetOk.off {e : Addr × Nat × Addr} {p : PV} {z : V} {fz : List Addr} {x : PV} (n : p.ne = true) (r : RetOk (R.on e) fresh H F p z fz) : RetOk R fresh H (F0 x F) p z fz :=
  ⟨RepF.un _ _ _ r.rep n, r.old, fun a ha ⟨j, hj, hb⟩ => r.st a ha ⟨j, hj, (F0_sub hb).2⟩, r.nd, r.mu, r.h0⟩
section
variable {X : Cx}
theorem PSs.ex {ι : Type} {b : List Stmt} {t : ι → TS} {q : ι → Prop} (h : ∀ i, q i → PSs X b (t i)) : PSs X b (fun D σ H => ∃ i, q i ∧ t i D σ H) := ⟨fun pins s σ H D I ⟨i, hi, z⟩ => (h i hi).run pins s σ H D I z⟩
theorem es_try {x n : Str} {C : Addr} {c i : Nat} {cs : List Nat} {body suite : List Stmt} {b₀ : Stmt} {np pos pos' : Pos} {evb evh : Env → Out}
    (hs : X.stack = X.env :: X.outer) (hf : X.env.frame = some X.env.locals) (hN : X.N.Nodup) (hi : X.N[i]? = some n) (hln : X.env.kindOf n = some .local) (hc : Names X x (.ref C)) (tk : L2.Takes X W) (hG : R.G.ex = none) (hm : i ∉ R.ms)
    (hx : ∀ d ∈ cs, PySem.W.exmOne X.K (.ref (R.cls d)) (.ref C) = some (c == 0 || c == d))
    (hb : ∀ (W' : WXX) (pn : List (Addr × Obj)) (xe : Value → Shared → Prop), L2.Takes (X.tr pn xe) W' → PassesOwn (model X.prog X.w) X.A X.env xe → PSs (X.tr pn xe) body (rdS R W' fresh evb))
    (hsu : ∀ (a : Addr) (oe : Obj) (d : Nat) (dd : Addr) (pn : List (Addr × Obj)), d ∈ cs → Zc (.ref (R.cls d)) (some dd) oe → (∃ vs, oe.data = .fields vs) → PSs (X.suite a ((a, oe) :: pn)) (b₀ :: suite) (rdS (R.on (a, d, dd)) (fun _ _ _ _ => False) fresh evh)) :
    PS X (.Try body [.ExceptHandler (some (.Name x np)) (some n) (b₀ :: suite) pos'] [] [] pos) (rdS R W fresh fun env => match evb env with
      | .raise d a en => if d ∈ cs then (if c = 0 ∨ c = d then (match evh (en.set i (.exc d a)) with
        | .rt p e => if p.ne = true then .rt p (keep0 e) else .fail
        | _ => .fail) else .raise d a en) else .fail
      | o => o) := by
  have base := ps_try_as (X := X) (x := x) (n := n) (c := .ref C) (i := i) (body := body) (suite := suite) (b₀ := b₀) (np := np) (pos := pos) (pos' := pos') (tb := fun W' => rdS R W' fresh evb)
    (ts := fun a cls dopt => fun D σ H => ∃ ι : Nat × Addr, (ι.1 ∈ cs ∧ cls = .ref (R.cls ι.1) ∧ dopt = some ι.2) ∧ rdS (R.on (a, ι.1, ι.2)) (fun _ _ _ _ => False) fresh evh D σ H) (Wout := W)
    hs hf hN hi hln hc tk hb (fun a oe cls d pn hz hv => PSs.ex fun ι hι => by
      obtain ⟨h1, h2, h3⟩ := hι
      subst h2 h3
      exact hsu a oe ι.1 ι.2 pn h1 hz hv)
  refine PS.imp base fun D σ H ⟨F, env, k, h⟩ => ⟨F, env, k, ?_⟩
  dsimp only at h
  cases e : evb env with
  | nx en => rw [e] at h; exact h
  | bk en => rw [e] at h; exact h
  | ct en => rw [e] at h; exact h
  | rt p en => rw [e] at h; exact h
  | fail => rw [e] at h; exact h
  | raise d x en =>
    rw [e] at h
    simp only at h
    by_cases hd : d ∈ cs
    · rw [if_pos hd] at h
      intro σ1 H1 F1 dd k1 s1 ea
      refine ⟨_, hx d hd, fun hy a ha => ?_, fun hn => ?_⟩
      · rw [if_pos (by simpa using hy)] at h
        refine ⟨(d, dd), ⟨hd, rfl, rfl⟩, setF F1 en.length i [], en.set i (.exc d x), ?_, ?_⟩
        · obtain ⟨y, fp, e1, e2, _, e3⟩ := ea
          subst e3
          exact (k1.on hG).put hm (p := .exc d x) (v := .ref a) (fp := []) ⟨a, dd, y, rfl, rfl, e1, RepF.ex hG _ _ _ e2⟩ (fun _ z => by cases z) (fun _ z => by cases z)
        · cases e2 : evh (en.set i (.exc d x)) with
          | rt p e3 =>
            rw [e2] at h
            simp only at h
            by_cases hp : p.ne = true
            · rw [if_pos hp] at h
              intro σ2 H2 F2 z fz k2 s2 r2
              have s2' : StepS R.ms H1 F1 H2 F2 := ⟨fun a o ea n => s2.st a o ea fun z => n ((OW_setF hm).mp z), fun a z => (s2.ow a z).imp (fun z => (OW_setF hm).mp z) id, s2.dom⟩
              exact h σ2 H2 (F0 (e3.getD 0 .undef) F2) z fz k2.off (StepS.off (s1.trans s2')) (r2.off hp)
            · rw [if_neg hp] at h
              exact h.elim
          | nx e3 => rw [e2] at h; exact h.elim
          | bk e3 => rw [e2] at h; exact h.elim
          | ct e3 => rw [e2] at h; exact h.elim
          | raise c1 x1 e3 => rw [e2] at h; exact h.elim
          | fail => rw [e2] at h; exact h.elim
      · rw [if_neg (by simpa using hn)] at h
        exact h σ1 H1 F1 dd k1 s1 ea
    · rw [if_neg hd] at h
      exact h.elim
end
end Ev

/-! EvX3: raise C(e); isinstance(e, C), e.f of the caught error. -/
namespace Ev
open PySem PySem.Spec PyProof.Rows L2 NdefX
variable {R : Fr0} {W : WXX} {σ : St} {H H' : Hp} {F F' : Nat → List Addr} {env : Env} {fresh : Bool} {D : Ends} {kd : Kd} {X : Cx}
theorem xarg_of {G : Gl0} {p : PV} {v : V} {fp : List Addr} (r : RepF G H p v fp) (h : xarg p = true) : XArg v ∧ fp = [] := by
  cases p with
  | str s => obtain ⟨rfl, e⟩ := r; exact ⟨.inl ⟨s, rfl, by simpa [xarg] using h⟩, e⟩
  | int i => obtain ⟨rfl, e⟩ := r; exact ⟨.inr ⟨i, rfl, by simpa [xarg] using h⟩, e⟩
  | _ => cases h
theorem lok_xd {K : PySem.W.Frag} {d : Addr} {fs : List (Str × V)} (lok : LenOk K H) : LenOk K (upd H d (.xd fs)) := lok.upd (fun _ e => nomatch e) (fun _ e => nomatch e) (fun _ _ e => nomatch e)
/-- L2's word about C(e, ..), where the context is told too -/
theorem pmk_oexN {CX : CXT} {x : Str} {e : Expr} {es : List Expr} {ta : TA} {p pos : Pos} {C fI : Addr} {k : Nat} {fd : FuncData} {ps : List Str} {sp : Sp} (T : OexC X.K C) (iC : PySem.W.findIn X.K (.ref C) "__init__" = some (some (.ref fI))) (tI : PySem.W.typeIn X.K (.ref fI) = some (.type "function"))
    (F1 : FnOk X.prog X.w X.K X.mg X.base CX k fI fd ps sp) (hr : Room (k + 1) X.A) (hb : Binds X.K fd ps []) (hx : Passes CX X (fun _ _ _ => False)) (hg : Gl X x) (hm : X.mg x = some (.ref C)) (ha : PA X (e :: es) ta)
    (hdb : (x == ("__debug__" : Str)) = false) (he : starEach (e :: es) X.env = (false, eval e X.env) :: starEach es X.env) (hpl : (backTo pos (starEach es X.env)).any (·.1) = false) :
    L2N.PMk X (.Call (.Name x p) (e :: es) [] pos) (tMkO C sp [] ta) := by
  intro pins s σ H Q I h
  obtain ⟨nm, q, N, bs, bm, sn, sub, ab, col, dd, k0, k1, k2, k3, k5, hC, hbm⟩ := T.cls
  refine wpAny_Call_Name_kw (ld_glob I hg hm ?_ hdb)
  refine PySem.W.callWith_K (h₀ := X.base) I.ok.mod.kin T.kC (thn (ha.run pos pins s σ H _ I h) fun us s1 ⟨vs, H1, I1, r1, hz, q1⟩ => ⟨I1.kIn, ?_⟩) he hpl
  show wpAny _ _ (call (.ref C) us) _ _ _
  obtain ⟨hp, g, dr, tk, os⟩ := s1
  have hsz : hp.objs.size ≤ hp.objs.size + 1 := Nat.le_succ _
  have hq := q1 (hp.objs.size + 1) (I1.hok.fresh hsz)
  rw [List.append_nil] at hq
  have kk : ∀ b o, hp.get? b = some o → ((hp.push (PySem.W.kdv_tup us)).push (PySem.HandSPX.excO C hp.objs.size)).get? b = some o := fun b o e => Heap.get?_push_of_some _ (Heap.get?_push_of_some _ e)
  have hget : ((hp.push (PySem.W.kdv_tup us)).push (PySem.HandSPX.excO C hp.objs.size)).get? (hp.objs.size + 1) = some (PySem.HandSPX.excO C hp.objs.size) := by heap_get
  have I2 := I1.laid (t' := tk) (a := hp.objs.size + 1) (o := exo (hp.objs.size + 1) C none) (h' := (hp.push (PySem.W.kdv_tup us)).push (PySem.HandSPX.excO C hp.objs.size)) kk hsz (exo_ok hget)
  have r2 : Vals (V.ref (hp.objs.size + 1) :: vs) (Value.ref (hp.objs.size + 1) :: us) := .cons rfl r1
  have hl : (Value.ref (hp.objs.size + 1) :: us ++ []).length = ps.length := by
    have e := r2.length
    rw [F1.len _ _ _ _ hq] at e
    rw [List.append_nil]
    exact e.symm
  have hus : us.length ≤ sizeLine := by
    rw [← Paired.length r1, sizeLine_eq]
    omega
  have b2 := hb _ (Value.ref (hp.objs.size + 1) :: us) I2.kIn hl
  rw [List.append_nil] at b2
  refine wpAny_call (PySem.HandSPX.call_own F.excBase_ValueError (fun Y => PySem.HandSPX.refsVE_contains Y bm hbm) (I1.kIn _ _ hC) (PySem.W.looks_findIn I1.kIn iC) (fun self => PySem.W.bind_fn I1.kIn self tI) hus
    (codeAny_mono (F1.run _ X.stack _ _ ⟨Value.ref (hp.objs.size + 1) :: us, []⟩ (Value.ref (hp.objs.size + 1) :: us) _ _ (fun _ _ _ => False) (hr.make C us []) (I2.env0.make C us []) b2 r2 hq) fun r s' hq' => ?_))
  cases r with
  | error er => exact hx pins σ _ _ er s' I2 hq'
  | ok fl =>
    cases fl with
    | ret u =>
      obtain ⟨v, H2, os2, bare2, un2, hok2, rv, ev, d, fs, ea, ed, hd1, q2⟩ := hq'
      subst ev
      obtain ⟨h2, g2, d2, t2, os'⟩ := s'
      obtain ⟨t0, G, J, kG, ge, hoe, na⟩ := mk_end0 (d2 := d2) (t2 := t2) I1 hsz kk un2 hok2 os2 bare2 ea ed hd1
      refine ⟨rv, ⟨hp.objs.size + 1, _, _, ⟨G, g2, d2, t2, os'⟩, _, .ref C, some d, rfl, J, kG, ge, hoe, ⟨rfl, rfl, fun vs hv => ?_⟩, rfl, rfl, na, rfl, bare2, raises_own T.exC T.tyC, q2⟩⟩
      cases hv
      rfl
    | next => exact False.elim hq'
    | brk => exact False.elim hq'
    | cont => exact False.elim hq'
theorem no_pass : Passes (L2.CX X.prog X.w) X (fun _ _ _ => False) := fun _ _ _ _ _ _ _ z => by
  obtain ⟨_, _, _, _, _, _, _, _, _, _, _, _, z⟩ := z
  exact z.elim
theorem es_raise {fI : Addr} {Fn : NF} {q : XPos} {c : Nat} {f x : Str} {e : Expr} {p pos pos' : Pos} {ev : Env → Res (PV × Env)} (hc : X.calm = true) (tk : L2N.Takes X W) (hr : Room 2 X.A) (T : XCls X.prog X.K (R.cls c) fI Fn q f) (hf : R.G.fld c = f) (hK : R.G.K = X.K) (hsup : X.mg "super" = none)
    (hfs : (f == ("__debug__" : Str)) = false) (hfc : (f == ("__classdict__" : Str)) = false) (hb : ∀ doc pm ctv, Binds X.K (Fn.fd doc pm ctv) ["self", f] []) (hg : Gl X x) (hm : X.mg x = some (.ref (R.cls c))) (hdb : (x == ("__debug__" : Str)) = false)
    (he : PE X e (rdE R W kd ev)) (hn : noStar e = true) :
    PS X (.Raise (some (.Call (.Name x p) [e] [] pos')) none pos) (rdS R W fresh fun env => (ev env).out fun r => if xarg r.1 = true then .raise c r.1 r.2 else .fail) := by
  obtain ⟨fd, FO, doc, pm, ctv, rfl⟩ := init_fn (w := X.w) (mg := X.mg) (base := X.base) T hsup hfs hfc 0
  have mk := pmk_oexN (X := X) (CX := L2.CX X.prog X.w) (p := p) (pos := pos') (x := x) T.ox T.fi T.ti FO hr (hb doc pm ctv) no_pass hg hm (pa_cons he pa_nil (star_cons hn _)) hdb (star_cons hn _) rfl
  refine PS.imp (L2N.ps_raise hc tk mk) fun D σ H ⟨F, env, k, h⟩ => ?_
  refine ⟨F, env, k, okS.bind h fun q1 v H2 F2 fp _ k2 s2 v2 nr h2 => ?_⟩
  by_cases hx : xarg q1.1 = true
  · rw [if_pos hx] at h2
    obtain ⟨xa, rfl⟩ := xarg_of v2.rep hx
    refine ⟨by simp, fun a ha => ⟨a, v, rfl, xa, upd_same, fun d hd hda => ⟨rfl, d, [(f, v)], upd_same, by rw [upd_ne hda, upd_same], by rw [upd_ne hda] at hd; exact hd, ?_⟩⟩⟩
    have hd' : H2 d = none := by rw [upd_ne hda] at hd; exact hd
    have eH : upd (del (upd (upd (upd H2 a (exo a (R.cls c) none)) d (exd d [(f, v)])) a (exo a (R.cls c) (some d))) a) d (.xd [(f, v)]) = upd H2 d (.xd [(f, v)]) := by
      funext b
      by_cases hb : b = d
      · rw [hb, upd_same, upd_same]
      · rw [upd_ne hb, upd_ne hb]
        by_cases hba : b = a
        · rw [hba, del_same, ha]
        · rw [del_ne hba, upd_ne hba, upd_ne hb, upd_ne hba]
    rw [eH]
    have same : ∀ a o, H2 a = some o → upd H2 d (.xd [(f, v)]) a = some o := fun a o e => by
      rw [upd_ne (ne_of_none e hd')]; exact e
    have lok := lok_xd (d := d) (fs := [(f, v)]) k2.lok
    exact h2 σ _ F2 d (k2.same same lok) (s2.trans (Step.same same)).s ⟨v, [], by rw [upd_same, hf], v2.rep.same same, fun _ z => (by cases z), rfl⟩
  · rw [if_neg hx] at h2
    exact h2.elim
theorem call_isX {a C dd : Addr} {oe : Obj} (T : L2.ExcC X.K C) (hp : (a, oe) ∈ X.pn) (hz : Zc (.ref C) (some dd) oe) (hv : ∃ vs, oe.data = .fields vs) :
    CallR X (.builtin "isinstance") (fun xs H Q => ∃ (c : V) (cv : Value) (b : Bool) (fs : List (Str × V)), xs = [.ref a, c] ∧ (∀ u, RelV c u → u = cv) ∧ PySem.W.kitOne X.K (.ref C) cv = some b ∧ H dd = some (.xd fs) ∧ Q (.bl b) H) := by
  intro pins s σ H xs us Q I r h
  obtain ⟨c, cv, b, fs, rfl, hcv, e, ed, q⟩ := h
  cases r with
  | cons rx rr =>
    cases rr with
    | cons rt rr =>
      cases rr
      cases rx
      have ec := hcv _ rt
      subst ec
      obtain ⟨hget, _⟩ := I.pin (a, oe) (List.mem_append.mpr (.inl hp))
      obtain ⟨vs, hv⟩ := hv
      obtain ⟨od, ho⟩ := objOk_get (I.hok dd _ ed)
      have J : PySem.W.InstAt s.heap a oe C (some od) := by
        obtain ⟨oc, oda, odt, osl⟩ := oe
        obtain ⟨h1, h2⟩ := hz
        dsimp only at h1 h2 hv
        subst h1 h2 hv
        exact ⟨hget, rfl, rfl, ho⟩
      obtain ⟨cd, hcd, _⟩ := PySem.W.any_some T.hd
      exact PySem.W.kia_one (PySem.W.kitx_exc (by rw [hcd]; rfl) T.hg T.hk T.hs T.ha T.hn T.ht T.hm) I.kIn J e (fun z => nomatch z) fun tk => ⟨.bl b, H, I.kept (t' := tk) fun _ _ z => z, rfl, q⟩
/-- isinstance(n, w) -/
theorem ev_isx {i : Nat} {c : Option Nat} {n w x : Str} {pn pw p pos : Pos} {wv : V} {cv : Value} (hh : ∀ a d dd, R.G.ex = some (a, d, dd) → (∃ oe, (a, oe) ∈ X.pn ∧ Zc (.ref (R.cls d)) (some dd) oe ∧ ∃ vs, oe.data = .fields vs) ∧ L2.ExcC X.K (R.cls d) ∧ PySem.W.kitOne X.K (.ref (R.cls d)) cv = some (isxB c d))
    (hg : Gl X x) (hm : X.mg x = none) (hv : bootBuiltins x = some (.builtin "isinstance")) (hnn : x ≠ "__name__") (hdb : (x == ("__debug__" : Str)) = false)
    (hN : X.N[i]? = some n) (hvi : Vis X.env.scope n) (hd1 : (n == ("__debug__" : Str)) = false) (hd2 : (n == ("__classdict__" : Str)) = false)
    (hw : PE X (.Name w pw) (tC wv)) (hcv : ∀ u, RelV wv u → u = cv) :
    PE X (.Call (.Name x p) [.Name n pn, .Name w pw] [] pos) (rdE R W ⟨true, true, true, true⟩ fun env => match env.getD i .undef with
      | .exc d _ => .ok (.bl (isxB c d), env)
      | _ => .fail) := by
  have h1 : PA X [.Name n pn, .Name w pw] (tCons (tVar i) (tCons (tC wv) tNil)) := pa_cons (pe_var hN hvi hd1 hd2) (pa_cons hw pa_nil rfl) rfl
  cases hex : R.G.ex with
  | none =>
    refine ⟨fun _ _ σ H Q _ ⟨F, env, k, h⟩ => ?_⟩
    exfalso
    dsimp only at h
    cases e : env.getD i .undef with
    | exc d x =>
      obtain ⟨v, _, hr⟩ := k.slot i _ (getD_of e nofun) nofun
      obtain ⟨a, dd, y, _, h2, _⟩ := hr
      rw [hex] at h2
      cases h2
    | _ => rw [e] at h; exact h
  | some t =>
    obtain ⟨a, d, dd⟩ := t
    obtain ⟨⟨oe, ho, hz, hvs⟩, T, hk⟩ := hh a d dd hex
    refine PE.by (pe_callB (call_isX T ho hz hvs) hg hm hv h1 hnn hdb rfl rfl) fun σ H Q F env k h => ?_
    cases e : env.getD i .undef with
    | exc d2 x =>
      rw [e] at h
      obtain ⟨v, hs, hr⟩ := k.slot i _ (getD_of e nofun) nofun
      obtain ⟨a2, dd2, y, ev, h2, h3, _⟩ := hr
      rw [hex] at h2
      cases h2
      subst ev
      exact ⟨_, hs, wv, cv, _, _, rfl, hcv, hk, h3, okR.now k h ⟨rfl, rfl⟩⟩
    | _ => rw [e] at h; exact h.elim
/-- n.f -/
theorem ev_fld {i : Nat} {cs : List Nat} {n f : Str} {pn pos : Pos} (hh : ∀ a d dd, R.G.ex = some (a, d, dd) → d ∈ cs → (∃ oe, (a, oe) ∈ X.pn ∧ Zc (.ref (R.cls d)) (some dd) oe ∧ ∃ vs, oe.data = .fields vs) ∧ XfC X.K (R.cls d) ∧ PySem.W.findIn X.K (.ref (R.cls d)) f = some none ∧ R.G.fld d = f)
    (hN : X.N[i]? = some n) (hvi : Vis X.env.scope n) (hd1 : (n == ("__debug__" : Str)) = false) (hd2 : (n == ("__classdict__" : Str)) = false) :
    PE X (.Attribute (.Name n pn) f pos) (rdE R W ⟨false, false, false, true⟩ fun env => match env.getD i .undef with
      | .exc d x => if d ∈ cs then .ok (x, env) else .fail
      | _ => .fail) := by
  refine ⟨fun pins s σ H Q I ⟨F, env, k, h⟩ => ?_⟩
  dsimp only at h
  cases e : env.getD i .undef with
  | exc d x =>
    rw [e] at h
    dsimp only at h
    by_cases hd : d ∈ cs
    · rw [if_pos hd] at h
      obtain ⟨v, hs, hr⟩ := k.slot i _ (getD_of e nofun) nofun
      obtain ⟨a, dd, y, ev, h2, h3, hy⟩ := hr
      subst ev
      obtain ⟨⟨oe, ho, hz, vs, hvs⟩, T, hno, hf⟩ := hh a d dd h2 hd
      refine attr_of (attr_base rfl) (thn ((pe_var hN hvi hd1 hd2).run pins s σ H (fun x H1 => x = .ref a ∧ H1 = H) I ⟨_, hs, rfl, rfl⟩) fun u s1 hh => ?_)
      obtain ⟨x1, H1, I1, rx, rfl, rfl⟩ := hh
      obtain rfl : u = Value.ref a := rx
      obtain ⟨ha, _⟩ := I1.pin (a, oe) (List.mem_append_left _ ho)
      have hx : ObjOk X.prog X.w H1 s1.heap dd (.xd [(R.G.fld d, y)]) := I1.hok dd _ h3
      obtain ⟨mA, hns, hrel⟩ := hx
      obtain ⟨od, hod, hl⟩ := lookIn_ns hns
      have lk : [(R.G.fld d, y)].lookup f = some y := by rw [hf]; simp [List.lookup]
      obtain ⟨u, hu, ru⟩ := RelO.some_of (v := y) (o := mA f) (by rw [← lk]; exact hrel f)
      have J : PySem.W.InstAt s1.heap a oe (R.cls d) (some od) := ⟨ha, hz.1, by unfold PySem.W.notCls; rw [hvs] <;> rfl, by rw [hz.2]; exact hod⟩
      refine HandSPX.exc_get I1.kIn J T.ga T.gg T.exC (PySem.W.findObj_own T.hdC hno rfl (by rw [hl, hu])) (handed_of ru) ⟨y, H1, I1.tok _, ru, ?_⟩
      exact h y H1 F (F i) k Step.refl ⟨hy, k.old i, nofun, nofun, nofun, nofun, nofun, nofun, nofun⟩ Nor.refl
    · rw [if_neg hd] at h
      exact h.elim
  | _ => rw [e] at h; exact h.elim
end Ev

/-! EvX5: defs called within an except suite, told the caught error. -/
namespace Ev
open PySem PySem.Spec PyProof.Rows L2 NdefX L2H
/-- a def's promise within an except suite: a is the caught error, of class d, its fields at dd -/
structure FnX (P : Program) (w : World) (K : PySem.W.Frag) (mg : Str → Option Value) (base : Heap) (k : Nat) (f : Addr) (fd : FuncData) (ps : List Str) (cls : Nat → Addr) (ok : Nat → Prop) (sp : Addr × Nat × Addr → Sp) : Prop where
  len : ∀ e vs H Q E, sp e vs H Q E → vs.length = ps.length
  run : ∀ (A : Around) (outer : List PySem.Env) (s : Shared) (H : Hp) (args : Args) (us : List Value) (vs : List V) (Q : VK) (E : XK) (a : Addr) (oe : Obj) (d : Nat) (dd : Addr), ok d → RoomH k A → A.guards = some [] → A.handled = some (.ref a) → Zc (.ref (cls d)) (some dd) oe → (∃ vs, oe.data = .fields vs) →
    PinOk outer H s (a, oe) → Env0 P w K mg base A outer s H → BindsTo s fd args (ps.zip us) → Vals vs us → sp (a, d, dd) vs H Q E → codeAny (model P w) A (.call (.ref f) args) (L2.CR (L2.CX P w) outer P w H s Q E) s
theorem fn_ofX {P : Program} {w : World} {K : PySem.W.Frag} {mg : Str → Option Value} {base : Heap} {k : Nat} {f : Addr} {name qual : Str} {params : Arguments} {body : List Stmt} {scope : Scope} {dV kV doc pm cdv ct oc : Value} {an od : Option Addr}
    {osl : Array (Option Value)} {N ps : List Str} {cls : Nat → Addr} {ok : Nat → Prop} {sp : Addr × Nat × Addr → Sp} (lk : K.lookup f = some ⟨oc, od, .func (PySem.W.fnOf name qual params body scope dV kV doc pm an cdv ct), osl⟩) (hcd : PySem.W.codeIn K cdv qual = true) (S : FnScope N ps scope)
    (len : ∀ e vs H Q E, sp e vs H Q E → vs.length = ps.length)
    (hbody : ∀ (A : Around) (outer : List PySem.Env) (s : Shared) (H : Hp) (vs : List V) (Q : VK) (E : XK) (a : Addr) (oe : Obj) (d : Nat) (dd : Addr), ok d → RoomH k (A.deeper (envOfC qual scope s.heap.objs.size f cdv)) → A.guards = some [] → A.handled = some (.ref a) → Zc (.ref (cls d)) (some dd) oe → (∃ vs, oe.data = .fields vs) → sp (a, d, dd) vs H Q E →
      ∃ t, PSs (cxH (L2.CX P w) P w K mg base N qual scope f cdv A outer s H E (a, oe)) body t ∧ t { nx := fun _ H' => Q .non H', rt := Q } (L2.start N vs) H) :
    FnX P w K mg base (k + 1) f (PySem.W.fnOf name qual params body scope dV kV doc pm an cdv ct) ps cls ok sp := by
  refine ⟨len, fun A outer s H args us vs Q E a oe d dd hok hr hgu hh hz hf hpin e0 hb r hsp => ?_⟩
  have hl := len _ _ _ _ _ hsp
  have KX : K.In s.heap := e0.mod.kin.keeps fun b o e => (e0.bs b o e).1
  have lim : s.heap.NoLimit := e0.mod.nolimit.keeps fun b o e => (e0.bs b o e).1
  have hkind : ∀ y ∈ ps.zip us, scope.names.lookup y.1 = some .local ∨ (scope.names.lookup y.1 = some .cell ∧ ((cellsFrom (s.heap.objs.size + 1) scope.names []).lookup y.1).isSome = true) := fun ⟨n, v⟩ hy => by
    rcases S.par n (List.of_mem_zip hy).1 with q | q
    · exact .inl q
    · exact .inr ⟨q, PySem.W.cellsFrom_some _ _ _ (.inl q)⟩
  refine codeAny_call_function hr.depth (KX _ _ lk) rfl S.co S.gen rfl (PySem.W.codeRec_of KX hcd) (hb _ _ _ _ ?_)
  refine wpAny_newFunctionEnv_cells S.kind hkind fun env he s1 x => ?_
  subst he
  refine ⟨lim.keeps x.toInCall.keep, codeAny_func ?_⟩
  obtain ⟨t, ht, hq⟩ := hbody A outer s H vs Q E a oe d dd hok (hr.deeper _) hgu hh hz hf hsp
  have I : Inv (cxH (L2.CX P w) P w K mg base N qual scope f cdv A outer s H E (a, oe)) [] (L2.start N vs) H s1 := inv_startH S hpin e0 hl r x
  refine wpAny_mono (ht.run [] s1 (L2.start N vs) H _ I hq) (fun fl s' hs => ?_) fun e s' hs => hs
  have fin : ∀ {σ' : St} {H' : Hp} {v : V} {u : Value}, Inv (cxH (L2.CX P w) P w K mg base N qual scope f cdv A outer s H E (a, oe)) [] σ' H' s' → RelV v u → Q v H' → CE outer P w H s Q u s' :=
    fun {σ' H' v u} J rv q => ⟨v, H', J.os, J.bare, J.base, J.hok, rv, q⟩
  cases fl with
  | ret u =>
    obtain ⟨v, σ', H', J, rv, q⟩ := hs
    exact fin J rv q
  | next =>
    obtain ⟨σ', H', J, q⟩ := hs
    exact fin (v := V.non) (u := Value.none) J rfl q
  | brk =>
    obtain ⟨_, _, _, q⟩ := hs
    exact False.elim q
  | cont =>
    obtain ⟨_, _, _, q⟩ := hs
    exact False.elim q
section
variable {X : Cx} {W : WX} {k : Nat} {f : Addr} {fd : FuncData} {ps : List Str} {cls : Nat → Addr} {ok : Nat → Prop} {sp : Addr × Nat × Addr → Sp} {x : Str} {p pos : Pos} {e : Expr} {es : List Expr} {t : TA} {a dd : Addr} {oe : Obj} {d : Nat}
theorem run_fnX {pins : List (Addr × Obj)} {σ : St} {H : Hp} {s : Shared} {Q : VK} {us : List Value} {vs : List V} (F : FnX X.prog X.w X.K X.mg X.base k f fd ps cls ok sp) (hok : ok d) (hr : RoomH k X.A) (hgu : X.A.guards = some []) (hh : X.A.handled = some (.ref a)) (hp : (a, oe) ∈ X.pn) (hz : Zc (.ref (cls d)) (some dd) oe) (hf : ∃ vs, oe.data = .fields vs)
    (hb : Binds X.K fd ps []) (tk : L2.Takes X W) (I : Inv X pins σ H s) (r : Vals vs us) (h : sp (a, d, dd) vs H Q (WE W σ)) : wpAny (model X.prog X.w) X.A (call (.ref f) us) (EP X pins σ Q) X.xe s := by
  have hl : us.length = ps.length := by rw [← r.length]; exact F.len _ _ _ _ _ h
  have b := hb s us I.kIn (by rw [List.append_nil]; exact hl)
  rw [List.append_nil] at b
  have P1 := I.pin (a, oe) (List.mem_append_left _ hp)
  have hpin : PinOk X.stack H s (a, oe) := ⟨P1.1, P1.2.1, fun hm => (List.mem_cons.mp (I.stkSub a hm)).elim P1.2.2.1 P1.2.2.2.1, P1.2.2.2.2⟩
  refine wpAny_call (codeAny_mono (F.run X.A X.stack s H ⟨us, []⟩ us vs Q (WE W σ) a oe d dd hok hr hgu hh hz hf hpin I.env0 b r h) fun r s' hq => ?_)
  cases r with
  | error e => exact L2.passAt tk σ pins H s e s' I hq
  | ok fl =>
    cases fl with
    | ret u => exact I.after hq
    | next => exact False.elim hq
    | brk => exact False.elim hq
    | cont => exact False.elim hq
theorem pe_callX (F : FnX X.prog X.w X.K X.mg X.base k f fd ps cls ok sp) (hok : ok d) (hr : RoomH k X.A) (hgu : X.A.guards = some []) (hh : X.A.handled = some (.ref a)) (hp : (a, oe) ∈ X.pn) (hz : Zc (.ref (cls d)) (some dd) oe) (hf : ∃ vs, oe.data = .fields vs)
    (hg : Gl X x) (hm : X.mg x = some (.ref f)) (hk : PySem.W.keepIn X.K (.ref f) = true) (hb : Binds X.K fd ps []) (tk : L2.Takes X W)
    (ha : PA X (e :: es) t) (hn : noStar e = true) (hn' : es.all noStar = true) (hdb : (x == ("__debug__" : Str)) = false) :
    PE X (.Call (.Name x p) (e :: es) [] pos) (fun σ H Q => t σ H fun vs H1 => sp (a, d, dd) vs H1 Q (WE W σ)) := by
  refine ⟨fun pins s σ H Q I h => ?_⟩
  refine wpAny_Call_Name_kw (ld_glob I hg hm ?_ hdb)
  refine PySem.W.callWith_K (h₀ := X.base) I.ok.mod.kin hk (thn (ha.run pos pins s σ H _ I h) fun us s1 ⟨vs, H1, I1, r, q⟩ => ⟨I1.kIn, ?_⟩) (star_cons hn _) (star_none hn' _ _)
  exact run_fnX F hok hr hgu hh hp hz hf hb tk I1 r q
end
section
variable {R : Fr0} {W : WXX} {X : Cx} {np : Nat} {C : List PV → CR} {o1 s1 n1 fresh : Bool} {a dd : Addr} {oe : Obj} {d : Nat}
theorem ev_callX {ok : Nat → Prop} {G0 : Gl0} {k : Nat} {f : Addr} {fd : FuncData} {ps : List Str} {x : Str} {p pos : Pos} {e : Expr} {es : List Expr} {evs : Env → Res (List PV × Env)} (hlen : ∀ args, C args ≠ .fail → args.length = np) (hG : R.G = G0.on (a, d, dd))
    (F : FnX X.prog X.w X.K X.mg X.base k f fd ps R.cls ok (fun ex => spE (G0.on ex) R.cls C false fresh np)) (hok : ok d) (hr : RoomH k X.A) (hgu : X.A.guards = some []) (hh : X.A.handled = some (.ref a)) (hp : (a, oe) ∈ X.pn) (hz : Zc (.ref (R.cls d)) (some dd) oe) (hf : ∃ vs, oe.data = .fields vs)
    (hg : Gl X x) (hm : X.mg x = some (.ref f)) (hk : PySem.W.keepIn X.K (.ref f) = true) (hb : Binds X.K fd ps []) (tk : L2.Takes X W)
    (ha : PA X (e :: es) (rdA R W o1 s1 n1 evs)) (hn : noStar e = true) (hn' : es.all noStar = true) (hdb : (x == ("__debug__" : Str)) = false) :
    PE X (.Call (.Name x p) (e :: es) [] pos) (rdE R W ⟨fresh, fresh || s1, fresh, n1⟩ fun env => (evs env).bind fun r => runCall (C r.1) r.2) :=
  PE.by (pe_callX (d := d) (dd := dd) F hok hr hgu hh hp hz hf hg hm hk hb tk ha hn hn' hdb) fun σ H Q F env k h => ⟨F, env, k, okR.bindA Step.refl h fun q vs H2 F2 fp _ k2 s2 v2 nr h2 => by
    have := call_law hlen k2 s2 v2 nr h2
    rw [hG] at this
    exact this⟩
end
/-! ### a local name that holds a def -/
theorem Back.weak {G : Gl0} {br fresh : Bool} {H H' : Hp} {fs : List (List Addr)} {f0 : List Addr} {p : PV} {z : V} {fz : List Addr} (b : Back G br fresh H fs H' f0 p z fz) : Back G br false H fs H' f0 p z fz :=
  ⟨b.rep, b.sub, b.st, nofun, nofun, nofun⟩
theorem spE_weak {G : Gl0} {cls : Nat → Addr} {C : List PV → CR} {br fresh : Bool} {np : Nat} {vs : List V} {H : Hp} {Q : VK} {E : XK} (h : spE G cls C br false np vs H Q E) : spE G cls C br fresh np vs H Q E := by
  obtain ⟨args, fs, a, h⟩ := h
  refine ⟨args, fs, a, ?_⟩
  cases e : C args with
  | fail => rw [e] at h; exact h
  | raise c x b => rw [e] at h; exact h
  | ok p b => rw [e] at h; exact fun z H' fz f0 af bk => h z H' fz f0 af bk.weak
theorem pe_callV {X : Cx} {W : WX} {S : Addr → Sp → Prop} {k i : Nat} {x : Str} {p pos : Pos} {e : Expr} {es : List Expr} {t : TA} (A : ∀ f sp, S f sp → ∃ CX fd ps, FnG X.prog X.w X.K X.mg X.base CX k f fd ps sp ∧ (∀ σ, PassesAt CX X σ (WE W σ)) ∧ PySem.W.keepIn X.K (.ref f) = true ∧ Binds X.K fd ps []) (hr : Room k X.A) (hgu : X.A.guards = some []) (hN : X.N[i]? = some x) (hv : Vis X.env.scope x) (ha : PA X (e :: es) t)
    (hn : noStar e = true) (hn' : es.all noStar = true) (hdb : (x == ("__debug__" : Str)) = false) (hcd : (x == ("__classdict__" : Str)) = false) :
    PE X (.Call (.Name x p) (e :: es) [] pos) (fun σ H Q => ∃ f sp, σ[i]? = some (some (.ref f)) ∧ S f sp ∧ t σ H fun vs H1 => sp vs H1 Q (WE W σ)) := by
  refine ⟨fun pins s σ H Q I h => ?_⟩
  obtain ⟨f, sp, hs, hS, ht⟩ := h
  obtain ⟨CX, fd, ps, F, tk, hk, hb⟩ := A f sp hS
  refine wpAny_Call_Name_kw (thn ((pe_var (pos := p) hN hv hdb hcd).run pins s σ H (fun v H1 => v = .ref f ∧ H1 = H) I ⟨.ref f, hs, rfl, rfl⟩) fun u s1 ⟨v, H1, I1, r1, q1⟩ => ?_)
  obtain ⟨rfl, rfl⟩ := q1
  cases r1
  refine PySem.W.callWith_K (h₀ := X.base) I.ok.mod.kin hk (thn (ha.run pos pins s1 σ _ _ I1 ht) fun us s2 ⟨vs, H2, I2, r, q⟩ => ⟨I2.kIn, ?_⟩) (star_cons hn _) (star_none hn' _ _)
  exact run_fnG F hr hgu hb tk I2 r q
section
variable {R : Fr0} {W : WXX} {X : Cx} {o1 s1 n1 : Bool} {C : Calls}
theorem ev_callv {m i : Nat} {ks : List Nat} {x : Str} {p pos : Pos} {e : Expr} {es : List Expr} {evs : Env → Res (List PV × Env)}
    (hks : ∀ k ∈ ks, ∃ (CX : CXT) (fr : Bool) (np : Nat) (fd : FuncData) (ps : List Str), FnG X.prog X.w X.K X.mg X.base CX m (R.G.fa k) fd ps (spE R.G R.cls (C k) false fr np) ∧ (∀ σ, PassesAt CX X σ (WE W σ)) ∧ PySem.W.keepIn X.K (.ref (R.G.fa k)) = true ∧ Binds X.K fd ps [] ∧ ∀ args, C k args ≠ .fail → args.length = np)
    (hr : Room m X.A) (hgu : X.A.guards = some []) (hN : X.N[i]? = some x) (hv : Vis X.env.scope x) (ha : PA X (e :: es) (rdA R W o1 s1 n1 evs)) (hn : noStar e = true) (hn' : es.all noStar = true) (hdb : (x == ("__debug__" : Str)) = false) (hcd : (x == ("__classdict__" : Str)) = false) :
    PE X (.Call (.Name x p) (e :: es) [] pos) (rdE R W ⟨false, s1, false, n1⟩ fun env => match env.getD i .undef with
      | .fn k => if k ∈ ks then (evs env).bind fun r => runCall (C k r.1) r.2 else .fail
      | _ => .fail) :=
  PE.by (pe_callV (S := fun f sp => ∃ k ∈ ks, f = R.G.fa k ∧ ∃ (fr : Bool) (np : Nat), sp = spE R.G R.cls (C k) false fr np ∧ (∃ CX fd ps, FnG X.prog X.w X.K X.mg X.base CX m f fd ps sp ∧ (∀ σ, PassesAt CX X σ (WE W σ)) ∧ PySem.W.keepIn X.K (.ref f) = true ∧ Binds X.K fd ps [])) (fun f sp ⟨k, hk, hf, fr, np, hsp, h⟩ => h) hr hgu hN hv ha hn hn' hdb hcd) fun σ H Q F env k h => by
    cases e : env.getD i .undef with
    | fn kk =>
      rw [e] at h
      dsimp only at h
      by_cases hk : kk ∈ ks
      · rw [if_pos hk] at h
        obtain ⟨CX, fr, np, fd, ps, F1, tk, hki, hb, hlen⟩ := hks kk hk
        obtain ⟨v, hs, hr'⟩ := k.slot i _ (getD_of e nofun) nofun
        obtain ⟨rfl, _⟩ := hr'
        refine ⟨_, _, hs, ⟨kk, hk, rfl, fr, np, rfl, CX, fd, ps, F1, tk, hki, hb⟩, F, env, k, okR.bindA Step.refl h fun q vs H2 F2 fp _ k2 s2 v2 nr h2 => ?_⟩
        exact spE_weak (call_law (fresh := false) hlen k2 s2 v2 nr h2)
      · rw [if_neg hk] at h
        exact h.elim
    | _ => rw [e] at h; exact h.elim
/-! ### l.count(x), l.index(x) -/
def rCountD (K : PySem.W.Frag) : V → List V → Hp → VK → Prop := fun x xs H Q => ∃ (a : Addr) (y : V) (d : PyData) (ds : List PyData), x = V.ref a ∧ xs = [y] ∧ Dp K H (V.ref a) (.list ds) ∧ Dp K H y d ∧
  SeqAt.shaped (.list ds) = true ∧ SeqAt.shaped d = true ∧ Q (.int ((ds.countP fun z => PyData.eqv z d : Nat) : Int)) H
theorem mt_countD (hu : X.A.units + 65 < cLine) : MtR X "list.count" (rCountD X.K) := by
  intro pins s σ H x xs v us Q I rx rxs h
  obtain ⟨a, y, d, ds, rfl, rfl, hl, hy, sl, sd, q⟩ := h
  cases rx
  cases rxs with
  | cons ry rt =>
    rename_i uy ut
    cases rt
    obtain ⟨bs, r1⟩ := Dp.reads I d y uy hy ry
    have hxs : PyData.canLayAll0 ds = true := SeqAt.canLay_of_shaped sl
    have hroom : X.A.units + 1 + min (PyData.depthAll ds) d.depth < cLine := room_in_shaped sd hu
    cases hl with
    | lst hs ha =>
      obtain ⟨its, rv, ⟨⟨cls, dd, data, sls⟩, n, ho, hc, hdn, hdt⟩, hlen⟩ := I.list hs
      simp only at hc hdt
      subst hc hdt
      obtain ⟨as, h4⟩ := Dp.readsAll I ds _ its ha rv
      have hmap : its.map (SeqAt.readOf s.heap) = ds := SeqAt.readsAll_map ds its as hxs h4
      refine call_meets PySem.F.slot_list_count ⟨_, ho, rfl⟩ PySem.F.entry_list_count (PySem.F.args_list_count_2 _ _)
        (SeqAt.list_countAt a its.toArray n dd sls uy (fun u => PyData.eqv (SeqAt.readOf s.heap u) d)) ⟨ho, SeqAt.items_eqAt (vs := its.toArray) (show ReadsAll s.heap its.toArray.toList ds as from h4) r1 hxs (SeqAt.canLay_of_shaped sd) hroom, ?_⟩
      have e : its.toArray.toList.countP (fun u => PyData.eqv (SeqAt.readOf s.heap u) d) = ds.countP fun z => PyData.eqv z d := by
        rw [← hmap, List.countP_map]
        rfl
      exact ⟨.int ((ds.countP fun z => PyData.eqv z d : Nat) : Int), H, I.tok _, ⟨s.toks, by rw [← e]⟩, q⟩
def mthN : Mth → Str
  | .count => "count"
  | .index => "index"
theorem findIdx_some {ds : List PyData} {f : PyData → Bool} {j : Nat} (h : ds.findIdx? f = some j) : ∃ z, ds[j]? = some z ∧ f z = true ∧ ∀ (m : Nat) (z' : PyData), m < j → ds[m]? = some z' → f z' = false := by
  rw [List.findIdx?_eq_some_iff_getElem] at h
  obtain ⟨hj, h1, h2⟩ := h
  refine ⟨ds[j], List.getElem?_eq_getElem hj, h1, fun m z' hm hz => ?_⟩
  obtain ⟨hl, rfl⟩ := List.getElem?_eq_some_iff.mp hz
  simpa using h2 m hm
theorem mth_law {m : Mth} {l : List PV} {z p : PV} {x y : V} {H : Hp} {Q : VK} {fx fy : List Addr} (hK : R.G.K = X.K) (hx : RepF R.G H (.lst l) x fx) (hy : RepF R.G H z y fy) (e : evalM m l z = some p) :
    ∃ i : Int, p = .int i ∧ (Q (.int i) H → match m with
      | .count => rCountD X.K x [y] H Q
      | .index => rIndexD X.K x [y] H Q) := by
  have c : inOk z l = true := by
    cases m <;> simp only [evalM] at e <;> split at e <;> first | assumption | cases e
  obtain ⟨c1, c2, c3, c4⟩ := inOk_parts c
  have dl := RepF.dp (.lst l) x fx hx (by simpa [PV.data] using c2)
  have dz := RepF.dp z y fy hy c1
  rw [hK] at dl dz
  have el : (PV.lst l).pd = .list (PV.pds l) := rfl
  rw [el] at dl
  obtain ⟨a, xs, f, rfl, _⟩ := hx
  cases m with
  | count =>
    simp only [evalM, c, if_true, Option.some.injEq] at e
    subst e
    exact ⟨_, rfl, fun q => ⟨a, y, z.pd, PV.pds l, rfl, rfl, dl, dz, c4, c3, q⟩⟩
  | index =>
    simp only [evalM, c, if_true] at e
    cases ej : (PV.pds l).findIdx? fun y => PyData.eqv y z.pd with
    | none => rw [ej] at e; cases e
    | some j =>
      rw [ej] at e
      cases e
      obtain ⟨w, h1, h2, h3⟩ := findIdx_some ej
      exact ⟨_, rfl, fun q => ⟨a, y, z.pd, PV.pds l, j, w, rfl, rfl, dl, dz, c4, c3, h1, h2, h3, q⟩⟩
theorem ev_mth {kd1 kd2 : Kd} {m : Mth} {x : Str} {px apos cpos : Pos} {e : Expr} {evo ev : Env → Res (PV × Env)} (hK : R.G.K = X.K) (hu : X.A.units + 65 < cLine) (ho : PE X (.Name x px) (rdE R W kd1 evo)) (he : PE X e (rdE R W kd2 ev)) (hc : (kd1.stb || kd2.nor) = true) (hn : noStar e = true) (hline : (apos.endLine == cpos.line) = true) :
    PE X (.Call (.Attribute (.Name x px) (mthN m) apos) [e] [] cpos) (rdE R W ⟨true, true, true, kd1.nor && kd2.nor⟩ fun env => (evo env).bind fun q => match q.1 with
      | .lst l => (ev q.2).bind fun r => (ofO (evalM m l r.1)).bind fun x => .ok (x, r.2)
      | _ => .fail) := by
  have ha : PA X [e] (tCons (rdE R W kd2 ev) tNil) := pa_cons he pa_nil (star_cons hn _)
  have hp : PE X (.Call (.Attribute (.Name x px) (mthN m) apos) [e] [] cpos) (tBM X.K "list" (match m with
      | .count => rCountD X.K
      | .index => rIndexD X.K) (rdE R W kd1 evo) (tCons (rdE R W kd2 ev) tNil)) := by
    cases m with
    | count => exact pe_bm PySem.F.plainAttrs_list PySem.F.slot_list_count PySem.F.type_list_count (mt_countD hu) ho ha (attr_base rfl) (by rw [star_cons hn]; rfl) hline (star_cons hn _) rfl
    | index => exact pe_bm PySem.F.plainAttrs_list PySem.F.slot_list_index PySem.F.type_list_index (mt_indexD hu) ho ha (attr_base rfl) (by rw [star_cons hn]; rfl) hline (star_cons hn _) rfl
  refine PE.by hp fun σ H Q F env k h => ?_
  refine ⟨F, env, k, okR.bind (kd1 := kd1) Step.refl h fun p v H1 F1 fp _ k1 s1 v1 n1 h1 => ?_⟩
  obtain ⟨p1, env1⟩ := p
  cases p1 with
  | lst l =>
    obtain ⟨a, xs, f, ev1, ha1, hl1, ef⟩ := id v1.rep
    subst ev1
    refine ⟨.inl ⟨rfl, xs, .of ha1⟩, F1, env1, k1, okR.bind (kd1 := kd2) s1 h1 fun q w H2 F2 fq _ k2 s2 v2 n2 h2 => ?_⟩
    obtain ⟨z, e1, h3⟩ := okR.ofO h2
    have hx := v1.held k1 s2 n2 hc
    obtain ⟨i, rfl, law⟩ := mth_law (X := X) (Q := Q) hK hx v2.rep e1
    have q2 : Q (.int i) H2 := h3 _ H2 F2 [] k2 (s1.trans s2) ⟨⟨rfl, rfl⟩, fun _ z => by simp at z, fun _ _ z => by simp at z, fun _ => List.nodup_nil, fun _ _ z => by simp at z, fun _ _ z => by simp at z, fun _ _ z => by simp at z, fun _ _ z => by simp at z, fun _ _ e => nomatch e⟩ (Nor.trans n1 n2)
    have := law q2
    cases m <;> exact this
  | _ => exact h1.elim
end
end Ev

/-! EvX6: an own exception made while another one is handled; except C: raise D(..) from None. -/
namespace Ev
open PySem PySem.Spec PyProof.Rows L2 NdefX L2H
theorem init_fnH {P : Program} {w : World} {K : PySem.W.Frag} {mg : Str → Option Value} {base : Heap} {C fI : Addr} {F : NF} {q : XPos} {f : Str} (T : XCls P K C fI F q f) (hsup : mg "super" = none) (hfs : (f == ("__debug__" : Str)) = false) (hfc : (f == ("__classdict__" : Str)) = false) (n : Nat) :
    ∃ fd, FnH P w K mg base (L2.CX P w) (n + 1) fI fd ["self", f] (spI C f) ∧ (∃ doc pm ctv, fd = F.fd doc pm ctv) := by
  obtain ⟨oc, od, sl, doc, pm, ctv, lk⟩ := T.lk
  refine ⟨F.fd doc pm ctv, ⟨fun vs H Q E h => by obtain ⟨a, v, rfl, _⟩ := h; rfl, fun A outer s H args us vs Q E p hr hot hpin e0 hb r hsp => ?_⟩, doc, pm, ctv, rfl⟩
  obtain ⟨a, v, rfl, xa, ea, hq⟩ := hsp
  obtain ⟨cc, hcl, o3, o4, o5, hcc⟩ := T.cl
  have KX : K.In s.heap := e0.mod.kin.keeps fun b o e => (e0.bs b o e).1
  have lim : s.heap.NoLimit := e0.mod.nolimit.keeps fun b o e => (e0.bs b o e).1
  have S := T.sc
  refine codeAny_call_function hr.depth (KX _ _ lk) rfl S.co S.gen rfl (PySem.W.codeRec_of KX T.cd) (hb _ _ _ _ ?_)
  refine wpAny_newFunctionEnv S.nocell (fun ⟨n, _⟩ hy => S.par n (List.of_mem_zip hy).1) (fun h₁ hns hsb => ⟨lim.fresh _ hsb, ?_⟩) S.kind
  show codeAny _ _ (.func F.body (envF F fI s.heap.objs.size)) _ _
  have kp : ∀ b o, s.heap.get? b = some o → h₁.get? b = some o := fun b o e => hsb.extBut b o (Nat.ne_of_lt (Heap.lt_size e)) (Heap.get?_push_of_some _ e)
  have CA : CellsAt F.cl ["__class__"] [none] s.heap H := by
    rw [hcl]
    refine ⟨rfl, fun y c e => ?_, fun x y c e1 e2 => ?_, fun i y e => ?_⟩
    · have : c = cc := by
        rw [List.lookup_cons] at e
        split at e
        · exact (Option.some.inj e).symm
        · cases e
      subst this
      exact ⟨(e0.bs c _ (e0.mod.kin c _ hcc)).2, _, _, KX _ _ hcc, rfl⟩
    · have h1 : ∀ {z c'}, List.lookup z [(("__class__" : Str), cc)] = some c' → z = "__class__" := fun {z c'} e => by
        rw [List.lookup_cons] at e
        split at e
        · rename_i hz; exact beq_iff_eq.mp hz
        · cases e
      rw [h1 e1, h1 e2]
    · cases i with
      | zero =>
        cases e
        exact ⟨cc, rfl, fun v hv => by cases hv⟩
      | succ i => simp at e
  have I : L2.Inv (ncxH (L2.CX P w) P w K mg base [("self" : Str), f, "__class__"] F fI A outer s H E p) [] (startF [("self" : Str), f, "__class__"] [V.ref a, v] [none]) H { s with heap := h₁, toks := s.toks + ([("self" : Str), f].zip us).length } := inv_startNH S hpin e0 rfl r CA hns kp
  refine PySem.ks_codeAny_funcAt ?_
  rw [T.bd]
  obtain ⟨o1, o2, vs2, sl2, file, tk2, hco, hvs, hfile⟩ := T.co
  obtain ⟨hpo, a1, rr, hpa, ha1⟩ := T.pr
  obtain ⟨nm, q0, N0, bs, bm, sn, sub, ab, col, dd, k0, k1, k2, k3, k5, hCl, hbm⟩ := T.ox.cls
  have hself : F.scope.names.lookup ("self" : Str) = some .local := S.par "self" (by simp)
  have hf : F.scope.names.lookup f = some .local := S.par f (by simp)
  have hkc : F.scope.names.lookup ("__class__" : Str) = some .free := S.frk "__class__" (by simp)
  have K1 : K.In h₁ := KX.keeps kp
  refine PySem.ks_wpAt_execs_cons ?_
  refine PySem.ks_wpAt_Expr_any ?_ (by show (F.scope.kind == .module && _) = false; rw [S.kind]; rfl) (by rfl)
  refine PySem.ks_wpAt_MethodCall ?_ (sup_eval T.ln)
  refine PySem.ks_wpAt_super_base (env := envF F fI s.heap.objs.size) (f := fI) (cc := F.c) T.ks hkc (by decide) rfl (K1 _ _ lk) rfl (by show (F.params.posonlyargs ++ F.params.args).head? = _; rw [hpo, hpa]; rfl) rfl (K1 _ _ hco) rfl hvs hfile T.tp ?_
  -- super, __class__, self
  obtain ⟨mb, hb1, hb2⟩ := I.mod.blt
  refine PySem.W.ks_loadName_global S.kind T.ks (Calls.loadGlobal_builtin (env := envF F fI s.heap.objs.size) (I.mod.glob.keeps I.bk) hsup (hb1.keeps I.bk) ((hb2 _ (by decide)).trans PyProof.Rows.Boot.«super») ⟨rfl, ?_⟩)
  refine wpAny_loadName_free S.kind hkc (c := cc) (by show List.lookup _ F.cl = _; rw [hcl]; rfl) ⟨_, K1 _ _ hcc, rfl⟩ ?_
  obtain ⟨m, hm1, hm2⟩ := id I.loc
  obtain ⟨u0, r0, l0⟩ := hm2 0 "self" (V.ref a) rfl rfl (.inl hself)
  obtain rfl : u0 = Value.ref a := r0
  rw [ha1]
  have l1 : m "self" = some (.ref a) := by
    rcases l0 with ⟨_, l⟩ | ⟨l, _⟩
    · exact l
    · rcases l with l | l
      · exact absurd (hself.symm.trans l) (by simp)
      · exact absurd (hself.symm.trans l) (by simp)
  refine wpAny_loadName_local S.kind hself hm1 l1 ?_
  have hC1 := K1 _ _ hCl
  refine PySem.ks_wpAny_isType_cls hC1 rfl ⟨rfl, ?_⟩
  obtain ⟨t1, hax⟩ := exo_at I.hok ea
  refine PySem.ks_wpAny_call_super hC1 rfl hax rfl (fun c z => by cases z) (PySem.W.looks_mroIn K1 T.mc) (fun h2 e2 k2 => ?_)
  have I2 : L2.Inv (ncxH (L2.CX P w) P w K mg base [("self" : Str), f, "__class__"] F fI A outer s H E p) [] (startF [("self" : Str), f, "__class__"] [V.ref a, v] [none]) H _ := I.kept (h' := h2) (t' := s.toks + ([("self" : Str), f].zip us).length) k2
  have hne : a ≠ C := fun z => by
    have := K1 _ _ hCl
    rw [← z] at this
    have q2 : h₁.get? a = _ := hax
    rw [this] at q2
    cases q2
  have hcls : PySem.W.clsIn K C = some { name := nm, bases := bs, mro := .ref C :: bm, ns := N0, qualname := q0, hasDict := true, slotNames := sn, subclasses := sub, abstract := ab, collection := col, hasDel := false } := by unfold PySem.W.clsIn; rw [show K.lookup C = _ from hCl]
  have K2 : K.In h2 := K1.keeps k2
  have tyL : ∀ {hh : Heap}, (∀ b o, h₁.get? b = some o → hh.get? b = some o) → PySem.W.Looks (model P w) hh (typeOf (.ref a)) (.ref C) := fun {hh} kk A Q E s k q => wpAny_typeOf_ref (k _ _ (kk _ _ hax)) q
  have al : PySem.W.alongIn K "__init__" (((Value.ref C :: bm).dropWhile (· != .ref C)).drop 1) = some (some (.builtin "ValueError.__init__")) := by
    have := T.al
    unfold PySem.W.ks_superIn at this
    rw [hcls] at this
    exact this
  refine PySem.W.kxs_getMethod PySem.W.kxs_ValueError e2 (PySem.W.looks_opaque K2 T.op) (l₀ := .ref C :: bm) (fun A Q E s k q => wpAny_bind ((PySem.W.looks_clsIn K2 hcls) A _ E s k (wpAny_pure q))) rfl K2 al ((tyL k2).andThen (PySem.W.looks_subIn K2 T.sv)) hne (by decide) ?_
  have k3 : ∀ b o, h2.get? b = some o → (h2.push (PySem.W.kxs_mw "ValueError.__init__" a)).get? b = some o := fun b o e => Heap.get?_push_of_some _ e
  have hu : (h2.push (PySem.W.kxs_mw "ValueError.__init__" a)).get? h2.objs.size = some (PySem.W.kxs_mw "ValueError.__init__" a) := Heap.get?_push_at rfl rfl
  have I3 := I2.kept (h' := h2.push (PySem.W.kxs_mw "ValueError.__init__" a)) (t' := s.toks + ([("self" : Str), f].zip us).length + 1) k3
  have I4 := I3.pins_of (pins' := [(h2.objs.size, PySem.W.kxs_mw "ValueError.__init__" a)]) fun p hp => by
    rw [List.mem_singleton.mp hp]
    exact ⟨hu, I2.hok.fresh (Nat.le_refl _), fun z => absurd I2.lt (by rw [← z]; exact Nat.lt_irrefl _), I2.nofs (Nat.le_refl _), fun w z => by cases z⟩
  have pj : PA (ncxH (L2.CX P w) P w K mg base [("self" : Str), f, "__class__"] F fI A outer s H E p) [.JoinedStr [.Constant (.str q.pre) q.j q.p3, .FormattedValue (.Name f q.pa) (-1) none q.pb] q.p4] _ :=
    pa_cons (pe_joined (.cons pe_str (.cons (xarg_fmt (i := 1) rfl (.inl hf) hfs hfc) .nil))) pa_nil
  have hjoin : ∀ y : Str, y.length ≤ 10000 → (Str.empty ++ q.pre ++ y).length ≤ sizeLine := fun y hy => by
    have h1 : (Str.empty ++ q.pre ++ y).length = q.pre.length + y.length := by
      rw [Str.length_append, Str.length_append]
      show 0 + q.pre.length + y.length = _
      omega
    rw [h1, sizeLine_eq]
    have := T.pl
    omega
  have hpre : (Str.empty ++ q.pre).length ≤ sizeLine := by
    have h1 : (Str.empty ++ q.pre).length = q.pre.length := by
      rw [Str.length_append]
      show 0 + q.pre.length = _
      omega
    rw [h1, sizeLine_eq]
    have := T.pl
    omega
  refine PySem.W.kxs_callWith (i := "ValueError.__init__") (x := a) rfl (Calls.evalArgs_plain (thn (pj.run q.p5 _ _ _ _ (fun vs H1 => H1 = H ∧ vs.length = 1) I4 ⟨q.pre, rfl, hpre, v, rfl, ?_⟩) fun us5 s5 h5 => ?_))
  · rcases xa with ⟨y, rfl, hy⟩ | ⟨i, rfl, hi⟩
    · exact .inl ⟨y, rfl, by rw [sizeLine_eq]; omega, y, rfl, hjoin y (by omega), rfl, rfl⟩
    · refine .inr ⟨i, rfl, hi, toString i, rfl, hjoin _ ?_, rfl, rfl⟩
      have e := int_text_length_le (k := 1920) (by decide) hi
      show (Str.ofString (toString i)).length ≤ _
      rw [PySem.ofString_length]
      omega
  obtain ⟨vs5, H5, I5, r5, rfl, hl5⟩ := h5
  have hu5 := (I5.pin _ (List.mem_append_right _ List.mem_cons_self)).1
  refine ⟨hu5, vinit_ok (X := ncxH (L2.CX P w) P w K mg base [("self" : Str), f, "__class__"] F fI A outer s H5 E p) T.ox I5 ea hu5 (by rw [List.nil_append, ← r5.length, hl5, sizeLine_eq]; decide) fun s6 J => ?_⟩
  show PySem.wpAt (model P w) (A.deeper (envF F fI s.heap.objs.size)) _ (execs [.Assign [.Attribute (.Name "self" q.p7) f q.p8] (.Name f q.p9) q.pc] (envF F fI s.heap.objs.size)) _ _ s6
  refine wpAt_of_wpAny ?_
  have ps : PSs (ncxH (L2.CX P w) P w K mg base [("self" : Str), f, "__class__"] F fI A outer s H5 E p) [.Assign [.Attribute (.Name "self" q.p7) f q.p8] (.Name f q.p9) q.pc] _ :=
    pss_cons (ps_ost (pe_var (i := 0) rfl (.inl hself)) (pe_var (i := 1) rfl (.inl hf) hfs hfc)) pss_nil
  refine wpAny_mono (ps.run _ s6 _ H5 { nx := fun _ H' => Q .non H', rt := Q } J ⟨v, rfl, .ref a, rfl, a, C, rfl, T.ox, T.nf, .inl ⟨ea, fun dx h1 h2 => hq dx h1 h2⟩⟩) (fun fl s' hs => ?_) fun e s' hs => hs
  have fin : ∀ {pp : List (Addr × Obj)} {σ' : L2.St} {H' : Hp} {v : V} {u : Value}, L2.Inv (ncxH (L2.CX P w) P w K mg base [("self" : Str), f, "__class__"] F fI A outer s H5 E p) pp σ' H' s' → RelV v u → Q v H' → CE outer P w H5 s Q u s' :=
    fun {pp σ' H' v u} J rv q => ⟨v, H', J.os, J.bare, J.base, J.hok, rv, q⟩
  cases fl with
  | ret u =>
    obtain ⟨v, σ', H', J, rv, q⟩ := hs
    exact fin J rv q
  | next =>
    obtain ⟨σ', H', J, q⟩ := hs
    exact fin (v := V.non) (u := Value.none) J rfl q
  | brk =>
    obtain ⟨_, _, _, q⟩ := hs
    exact False.elim q
  | cont =>
    obtain ⟨_, _, _, q⟩ := hs
    exact False.elim q
theorem sky_imp {B h : Heap} {l : List PySem.Env} {a L : Addr} {Z Z' : Obj → Prop} (z : ∀ o, Z o → Z' o) (x : Sky B l a Z L h) : Sky B l a Z' L h := by
  rcases x with ⟨h1, h2, h3, oe, vs, e, hz, hd, h4⟩ | x | x
  · exact .inl ⟨h1, h2, h3, oe, vs, e, z _ hz, hd, h4⟩
  · exact .inr (.inl (flyingZ_imp z x))
  · refine .inr (.inr ?_)
    obtain ⟨y1, y2, y3, y4⟩ := x
    exact ⟨y1, y2, y3, tracedZ_imp z y4⟩
theorem takes_n {X : Cx} {W : WX} (tk : L2.Takes X W) : L2N.Takes X W := fun u s' ⟨a, B, sI, pins, σ, H, cls, d, e, I, nb, up, sky, na, os, ag, w⟩ =>
  tk u s' ⟨a, B, sI, pins, σ, H, cls, d, e, I, nb, up, sky_imp (fun _ z => L2N.Zn.zc z) sky, na, os, ag, w⟩
section
variable {R : Fr0} {W : WXX} {σ : L2.St} {H H' : Hp} {F F' : Nat → List Addr} {env : Ev.Env} {fresh : Bool} {D : Ends} {kd : Kd} {X : Cx}
/-- raise D(e) from None, where an error is handled -/
theorem es_raiseN {fI : Addr} {Fn : NF} {q : XPos} {c j : Nat} {f x : Str} {e : Expr} {p pos pos' cpos : Pos} {ev : Ev.Env → Res (PV × Ev.Env)} (hc : HotC X) (tk : L2.Takes X W) (hr : RoomH 2 X.A) (T : XCls X.prog X.K (R.cls c) fI Fn q f) (hf : R.G.fld c = f) (hsup : X.mg "super" = none)
    (hfs : (f == ("__debug__" : Str)) = false) (hfc : (f == ("__classdict__" : Str)) = false) (hb : ∀ doc pm ctv, Binds X.K (Fn.fd doc pm ctv) ["self", f] []) (hg : Gl X x) (hm : X.mg x = some (.ref (R.cls c))) (hdb : (x == ("__debug__" : Str)) = false)
    (he : PE X e (rdE R W kd ev)) (hn : noStar e = true) :
    PS X (.Raise (some (.Call (.Name x p) [e] [] pos')) (some (.Constant .none j cpos)) pos) (rdS R W fresh fun env => (ev env).out fun r => if xarg r.1 = true then .raise c r.1 r.2 else .fail) := by
  obtain ⟨fd, FO, doc, pm, ctv, rfl⟩ := init_fnH (w := X.w) (mg := X.mg) (base := X.base) T hsup hfs hfc 0
  have mk := pmk5_oexH (X := X) (CX := L2.CX X.prog X.w) (p := p) (pos := pos') (x := x) T.ox T.fi T.ti FO hr hc (hb doc pm ctv) no_pass hg hm (pa_cons he pa_nil (star_cons hn _)) hdb (star_cons hn _) rfl
  refine PS.imp (ps_raiseHN hc tk mk) fun D σ H ⟨F, env, k, h⟩ => ?_
  refine ⟨F, env, k, okS.bind h fun q1 v H2 F2 fp _ k2 s2 v2 nr h2 => ?_⟩
  by_cases hx : xarg q1.1 = true
  · rw [if_pos hx] at h2
    obtain ⟨xa, rfl⟩ := xarg_of v2.rep hx
    refine ⟨by simp, fun a ha => ⟨a, v, rfl, xa, upd_same, fun d hd hda => ⟨rfl, d, [(f, v)], upd_same, by rw [upd_ne hda, upd_same], by rw [upd_ne hda] at hd; exact hd, ?_⟩⟩⟩
    have hd' : H2 d = none := by rw [upd_ne hda] at hd; exact hd
    have eH : upd (del (upd (upd (upd H2 a (exo a (R.cls c) none)) d (exd d [(f, v)])) a (exo a (R.cls c) (some d))) a) d (.xd [(f, v)]) = upd H2 d (.xd [(f, v)]) := by
      funext b
      by_cases hb : b = d
      · rw [hb, upd_same, upd_same]
      · rw [upd_ne hb, upd_ne hb]
        by_cases hba : b = a
        · rw [hba, del_same, ha]
        · rw [del_ne hba, upd_ne hba, upd_ne hb, upd_ne hba]
    rw [eH]
    have same : ∀ a o, H2 a = some o → upd H2 d (.xd [(f, v)]) a = some o := fun a o e => by
      rw [upd_ne (ne_of_none e hd')]; exact e
    have lok := lok_xd (d := d) (fs := [(f, v)]) k2.lok
    exact h2 σ _ F2 d (k2.same same lok) (s2.trans (Step.same same)).s ⟨v, [], by rw [upd_same, hf], v2.rep.same same, fun _ z => (by cases z), rfl⟩
  · rw [if_neg hx] at h2
    exact h2.elim
/-- try: .. except x: .. (which ends with a raise) -/
theorem es_tryf {x : Str} {C : Addr} {c : Nat} {cs : List Nat} {body : List Stmt} {b₀ : Stmt} {np pos pos' : Pos} {evb evh : Ev.Env → Out}
    (hs : X.stack = X.env :: X.outer) (hf : X.env.frame = some X.env.locals) (hc : Names X x (.ref C)) (hpa : ∀ hd : Option Value, PassesOwnAt (model X.prog X.w) (X.A.mark hd) X.A X.env X.xe) (tk : L2.Takes X W)
    (hx : ∀ d ∈ cs, PySem.W.exmOne X.K (.ref (R.cls d)) (.ref C) = some (c == 0 || c == d))
    (hb : ∀ (W' : WXX) (pn : List (Addr × Obj)) (xe : Value → Shared → Prop), L2N.Takes (X.tr pn xe) W' → PassesOwn (model X.prog X.w) X.A X.env xe → PSs (X.tr pn xe) body (rdS R W' fresh evb))
    (hsu : ∀ (a : Addr) (pn : List (Addr × Obj)), L2.Takes (suiteX X a pn) W → HotC (suiteX X a pn) → PS (suiteX X a pn) b₀ (rdS R W fresh evh)) :
    PS X (.Try body [.ExceptHandler (some (.Name x np)) none [b₀] pos'] [] [] pos) (rdS R W fresh fun env => match evb env with
      | .raise d a en => if d ∈ cs then (if c = 0 ∨ c = d then (match evh en with
        | .raise d2 a2 e2 => .raise d2 a2 e2
        | _ => .fail) else .raise d a en) else .fail
      | o => o) := by
  have base := ps_try_onlyX (X := X) (x := x) (c := .ref C) (body := body) (suite := []) (b₀ := b₀) (np := np) (pos := pos) (pos' := pos') (tb := fun W' => rdS R W' fresh evb)
    (ts := fun _ _ _ => rdS R W fresh evh) (Wout := W) hs hf hc hpa tk (fun W' pn xe h1 h2 h3 => hb W' pn xe h1 h3) (fun a oe cls d pn hz hv h1 h2 => PSs.imp (pss_cons (hsu a _ h1 h2) pss_nil) fun D σ H h => h)
  refine PS.imp base fun D σ H ⟨F, env, k, h⟩ => ⟨F, env, k, ?_⟩
  dsimp only at h
  cases e : evb env with
  | nx en => rw [e] at h; exact h
  | bk en => rw [e] at h; exact h
  | ct en => rw [e] at h; exact h
  | rt p en => rw [e] at h; exact h
  | fail => rw [e] at h; exact h
  | raise d x en =>
    rw [e] at h
    simp only at h
    by_cases hd : d ∈ cs
    · rw [if_pos hd] at h
      intro σ1 H1 F1 dd k1 s1 ea
      refine ⟨_, hx d hd, fun hy a ha => ?_, fun hn => ?_⟩
      · rw [if_pos (by simpa using hy)] at h
        refine ⟨F1, en, k1, ?_⟩
        cases e2 : evh en with
        | raise c1 x1 e3 => rw [e2] at h; exact okS.step s1 h
        | nx e3 => rw [e2] at h; exact h.elim
        | bk e3 => rw [e2] at h; exact h.elim
        | ct e3 => rw [e2] at h; exact h.elim
        | rt p e3 => rw [e2] at h; exact h.elim
        | fail => rw [e2] at h; exact h.elim
      · rw [if_neg (by simpa using hn)] at h
        exact h σ1 H1 F1 dd k1 s1 ea
    · rw [if_neg hd] at h
      exact h.elim
end
end Ev

/-! EvX7: comprehensions of two clauses. -/
namespace Ev
open PySem PySem.Spec PyProof.Rows L2
variable {R : Fr0} {W WF : WXX} {σ σ2 : St} {H H1 H2 H4 H' : Hp} {F F1 F2 F4 F' : Nat → List Addr} {env env1 env2 env' : Env} {own own1 : List Nat} {kd kde : Kd} {nor stb nc nc1 nI nI1 : Bool}
theorem Step.wipes (ho : ∀ i ∈ own, i ∉ R.ms) (s : Step R.ms H F H' F') : Step R.ms H (wipeF own F) H' (wipeF own F') where
  st := fun a o e n => s.st a o e fun z => n ((OW_wipeF ho).mpr z)
  sub := fun j a ha => by
    obtain ⟨h1, h2⟩ := wipeF_sub ha
    rcases s.sub j a h1 with z | z | z
    · exact .inl (by rw [wipeF_ne h2]; exact z)
    · exact .inr (.inl ((OW_wipeF ho).mpr z))
    · exact .inr (.inr z)
  ow := fun a ha => by
    rcases s.ow a ((OW_wipeF ho).mp ha) with z | z
    · exact .inl ((OW_wipeF ho).mpr z)
    · exact .inr z
  dom := s.dom
theorem wipeF_wipeF (h : ∀ i ∈ own1, i ∈ own) : wipeF own (wipeF own1 F) = wipeF own F := by
  funext j
  unfold wipeF
  by_cases c : j ∈ own
  · rw [if_pos c, if_pos c]
  · rw [if_neg c, if_neg c, if_neg fun z => c (h j z)]
theorem lwipe2 (h : ∀ i ∈ own1, i ∈ own) : L2.wipe (L2.wipe σ own1) own = L2.wipe σ own := lwipe_eq (wipe_length _ _) fun j hj => by rw [lwipe_get, if_neg fun z => hj (h j z.1)]
theorem catGo_noraise {f : PV → Env → Res (List PV × Env)} (hf : ∀ x en c a e, f x en ≠ .raise c a e) : ∀ {l : List PV} {en : Env} {c : Nat} {a : PV} {e : Env}, catGo f l en ≠ .raise c a e
  | [], _, _, _, _ => nofun
  | x :: l, en, c, a, e => fun h => by
    unfold catGo at h
    cases e1 : f x en with
    | ok r =>
      rw [e1] at h
      have h : (catGo f l r.2).bind _ = _ := h
      cases e2 : catGo f l r.2 with
      | ok q => rw [e2] at h; cases h
      | raise c' a' e' => exact catGo_noraise hf e2
      | fail => rw [e2] at h; cases h
    | raise c' a' e' => exact hf _ _ _ _ _ e1
    | fail => rw [e1] at h; cases h
/-- a turn of the inner loop -/
def inT (own1 : List Nat) (t1 : T) (evC1 : Env → Res (Bool × Env)) (evE : Env → Res (PV × Env)) : PV → Env → Res (Option PV × Env) := fun x en =>
  ((ofO (assign t1 x en)).bind fun en1 => (evC1 en1).bind fun t => if t.1 = true then (evE t.2).bind fun q => .ok (some q.1, Ev.wipe own1 q.2) else .ok (none, Ev.wipe own1 t.2)).nr
/-- a turn of the outer loop -/
def ouT (own : List Nat) (tg : T) (evC : Env → Res (Bool × Env)) (own1 : List Nat) (evI1 : Env → Res (List PV × Env)) (f1 : PV → Env → Res (Option PV × Env)) : PV → Env → Res (List PV × Env) := fun x en =>
  ((ofO (assign tg x en)).bind fun en1 => (evC en1).bind fun t => if t.1 = true then (evI1 t.2).bind fun s => (compGo f1 s.1 (Ev.wipe own1 s.2)).bind fun q => .ok (q.1, Ev.wipe own q.2) else .ok ([], Ev.wipe own t.2)).nr
def evComp2 (own : List Nat) (tg : T) (evI : Env → Res (List PV × Env)) (evC : Env → Res (Bool × Env)) (own1 : List Nat) (t1 : T) (evI1 : Env → Res (List PV × Env)) (evC1 : Env → Res (Bool × Env)) (evE : Env → Res (PV × Env)) : Env → Res (PV × Env) := fun env => (evI env).bind fun r =>
  (catGo (ouT own tg evC own1 evI1 (inT own1 t1 evC1 evE)) r.1 (Ev.wipe own r.2)).bind fun q => if q.1.length ≤ sizeLine then .ok (.lst q.1, Ev.restore own r.2 q.2) else .fail
def hG (R : Fr0) (t : T) : TG := fun v σ H Q => ∃ D, rdG (R.hide D) t v σ H Q
def hC (R : Fr0) (nc : Bool) (evC : Env → Res (Bool × Env)) : TT := fun σ H Q => ∃ D, rdC (R.hide D) nc evC σ H Q
def hE (R : Fr0) (W : WXX) (k : Kd) (evE : Env → Res (PV × Env)) : TE := fun σ H Q => ∃ D, rdE (R.hide D) W k evE σ H Q
def hI (R : Fr0) (W : WXX) (stb nI : Bool) (evI : Env → Res (List PV × Env)) : TI := fun σ H Q => ∃ D, rdI (R.hide D) W stb nI evI σ H Q
/-- within the inner loop -/
structure In2 (R : Fr0) (ownE : Bool) (own own1 : List Nat) (σ2 : St) (H1 : Hp) (F1 : Nat → List Addr) (H4 : Hp) (F4 : Nat → List Addr) (D : Addr) (f1 : PV → Env → Res (Option PV × Env)) (items1 L : List PV) (enE1 : Env) (pre post : List PV) (j : Nat) (H : Hp) : Prop where
  ex : ∃ F en done out accV facc, EnvOk R (L2.wipe σ2 own1) H F en ∧ Step R.ms H1 (wipeF own F1) H (wipeF own F) ∧ (Stay (fun a => OW R.ms F4 a ∨ a = D) H4 H ∧ (∀ a, OW R.ms F a → OW R.ms F4 a ∨ H4 a = none) ∧ ∀ a, H a = none → H4 a = none) ∧ (H D = some (.lst accV) ∧ ∀ j, D ∉ F j) ∧
    compGo f1 (items1.drop j) en = .ok (out, enE1) ∧ L = (pre ++ done) ++ (out ++ post) ∧ AccOk R ownE true H1 (wipeF own F1) D H (wipeF own F) (pre ++ done) accV facc
/-- within the outer loop -/
structure Ou2 (R : Fr0) (ownE : Bool) (own : List Nat) (σ : St) (H1 : Hp) (F1 : Nat → List Addr) (D : Addr) (f : PV → Env → Res (List PV × Env)) (items : List PV) (L : List PV) (enE : Env) (i : Nat) (H : Hp) : Prop where
  ex : ∃ F en done out accV facc, EnvOk R (L2.wipe σ own) H F en ∧ Step R.ms H1 (wipeF own F1) H F ∧ wipeF own F = F ∧ (H D = some (.lst accV) ∧ ∀ j, D ∉ F j) ∧ catGo f (items.drop i) en = .ok (out, enE) ∧ L = done ++ out ∧ AccOk R ownE true H1 (wipeF own F1) D H F done accV facc
theorem turn_wipe {sl : List Nat} {en en1 : Env} {σ3 : St} (hsl : ∀ i ∈ sl, i ∈ own1) (a2 : SetS R sl (L2.wipe σ2 own1) F en σ3 F2 en1) (l2 : σ3.length = (L2.wipe σ2 own1).length) : L2.wipe σ3 own1 = L2.wipe σ2 own1 := by
  rw [lwipe_eq l2 fun j hj => a2.s j fun z => hj (hsl j z)]
  exact lwipe_lwipe
theorem in_turn {t1 : T} {evC1 : Env → Res (Bool × Env)} {evE : Env → Res (PV × Env)} {D : Addr} {items1 L pre post : List PV} {enE1 : Env} {fs : List Addr} {j : Nat} {x : V} {Yp : Nat → Hp → V → Hp → Prop}
    (hms : ∀ i ∈ own, i ∉ R.ms) (hv : ∀ i ∈ own1, i ∈ own) (hsl : ∀ i ∈ t1.sl, i ∈ own1) (cE : kde.stb = true) (hDA : R.H0 D = none ∧ R.A D) (hD1 : H1 D = none) (hL : L.length ≤ sizeLine) (old : ∀ a ∈ fs, R.A a ∧ a ≠ D) (hfs : ∀ a ∈ fs, (∃ o, H4 a = some o) ∧ ¬ OW R.ms F4 a)
    (hy : ∀ i H2 x H', i < items1.length → Stay (fun a => OW R.ms F4 a ∨ a = D) H4 H2 → LenOk R.G.K H2 → Yp i H2 x H' → ∃ p fz, items1[i]? = some p ∧ NewV R.G H2 fs p false x H' fz) (hj : j < items1.length)
    (p : In2 R kde.own own own1 σ2 H1 F1 H4 F4 D (inT own1 t1 evC1 evE) items1 L enE1 pre post j H) (y : Yp j H x H') :
    hG R t1 x (L2.wipe σ2 own1) H' fun σ3 H2 => L2.wipe σ3 own1 = L2.wipe σ2 own1 ∧ hC R nc1 evC1 σ3 H2 fun b H3 => if b = true then hE R WF kde evE σ3 H3 fun y H5 => ∃ acc, H5 D = some (.lst acc) ∧ acc.length < sizeLine ∧
      In2 R kde.own own own1 σ2 H1 F1 H4 F4 D (inT own1 t1 evC1 evE) items1 L enE1 pre post (j + 1) (upd H5 D (.lst (acc ++ [y])))
    else In2 R kde.own own own1 σ2 H1 F1 H4 F4 D (inT own1 t1 evC1 evE) items1 L enE1 pre post (j + 1) H3 := by
  obtain ⟨F, en, done, out, accV, facc, k, s, ⟨stD, owD, domD⟩, ⟨hD, nDF⟩, go, eL, acc⟩ := p
  have hms1 : ∀ i ∈ own1, i ∉ R.ms := fun i hi => hms i (hv i hi)
  obtain ⟨pv, fz, eI, nv⟩ := hy j H x H' hj stD k.lok y
  have hdrop : items1.drop j = pv :: items1.drop (j + 1) := by
    rw [List.drop_eq_getElem_cons hj]
    rw [List.getElem?_eq_getElem hj] at eI
    cases eI; rfl
  rw [hdrop] at go
  unfold compGo at go
  obtain ⟨r1, go1, go2⟩ := Res.bind_ok go
  obtain ⟨r2, go3, go4⟩ := Res.bind_ok go2
  obtain ⟨en1, as1, go5⟩ := Res.bind_ok (Res.nr_ok go1)
  have as1 := ofO_ok as1
  obtain ⟨t, cc1, go6⟩ := Res.bind_ok go5
  have k' : EnvOk R (L2.wipe σ2 own1) H' F en := k.same nv.same nv.lok
  have fzst : ∀ a ∈ fz, ¬ OW R.ms F a := fun a ha => by
    rcases nv.sub a ha with z | z
    · obtain ⟨⟨o, e⟩, n⟩ := hfs a z
      intro w
      rcases owD a w with w | w
      · exact n w
      · rw [e] at w; cases w
    · exact fun ⟨j, _, hj⟩ => k.nf z j hj
  have fzold : ∀ a ∈ fz, (R.hide D).A a := fun a ha => by
    rcases nv.sub a ha with z | z
    · exact old a z
    · exact ⟨(k.dom a z).2, fun w => by rw [w, hD] at z; cases z⟩
  have hD' : H' D = some (.lst accV) := nv.same D _ hD
  have kh : EnvOk (R.hide D) (L2.wipe σ2 own1) H' F en := k'.hide nDF (by rw [hD']; exact nofun)
  refine ⟨D, F, en, pv, fz, en1, kh, nv.rep, fzold, fzst, as1, fun σ3 F2 k2h a2h => ⟨?_, D, F2, en1, k2h, ?_⟩⟩
  all_goals have k2 : EnvOk R σ3 H' F2 en1 := k2h.show
  all_goals have a2 : SetS R t1.sl (L2.wipe σ2 own1) F en σ3 F2 en1 := ⟨a2h.ow, a2h.f, a2h.e, a2h.s⟩
  all_goals have wσ2 : L2.wipe σ3 own1 = L2.wipe σ2 own1 := turn_wipe hsl a2 (by rw [← k2.len, ← k'.len]; exact assign_length as1)
  · exact wσ2
  rw [cc1]
  intro H3 F3 k3h s3 n3
  have k3 : EnvOk R σ3 H3 F3 t.2 := k3h.show
  have s3 : Step R.ms H' F2 H3 F3 := s3
  have nOW2 : ∀ {a}, OW R.ms F2 a → OW R.ms F a := fun h => (a2.ow _).mp h
  have nDW2 : ¬ OW R.ms F2 D := fun z => by
    obtain ⟨j, _, hj⟩ := nOW2 z
    exact nDF j hj
  have hD3 : H3 D = some (.lst accV) := s3.st D _ hD' nDW2
  -- behind a turn
  have behind : ∀ {H5 : Hp} {F5 : Nat → List Addr}, Step R.ms H' F2 H5 F5 → Step R.ms H F H5 (wipeF own1 F5) := fun s5 => Step.turn hms1 hsl nv.same a2 s5
  have stays : ∀ {H5 : Hp} {F5 : Nat → List Addr}, Step R.ms H F H5 F5 → Stay (fun a => OW R.ms F4 a ∨ a = D) H4 H5 ∧ (∀ a, OW R.ms F5 a → OW R.ms F4 a ∨ H4 a = none) ∧ ∀ a, H5 a = none → H4 a = none := fun {H5 F5} s5 => by
    refine ⟨fun a o e n => s5.st a o (stD a o e n) fun z => ?_, fun a z => ?_, fun a z => domD a (s5.dom a z)⟩
    · rcases owD a z with w | w
      · exact n (.inl w)
      · rw [e] at w; cases w
    · rcases s5.ow a z with w | w
      · exact owD a w
      · exact .inr (domD a w)
  have kw : EnvOk R (L2.wipe (L2.wipe σ2 own1) own) H (wipeF own F) (Ev.wipe own en) := k.wipe hms
  by_cases ct : t.1 = true
  · rw [if_pos ct] at go6 ⊢
    obtain ⟨q, ee, go7⟩ := Res.bind_ok go6
    cases go7
    refine ⟨D, F3, t.2, k3h, ?_⟩
    rw [ee]
    intro v H5 F5 fp k5h s5 v5h n5
    have k5 : EnvOk R σ3 H5 F5 q.2 := k5h.show
    have s5 : Step R.ms H3 F3 H5 F5 := s5
    have v5 : ValOk R kde H3 F3 H5 F5 q.1 v fp := ⟨v5h.rep, fun a ha => (v5h.old a ha).1, v5h.st, v5h.nd, v5h.mu, v5h.fr, v5h.nw, v5h.h0, v5h.tp⟩
    have sT : Step R.ms H F H5 (wipeF own1 F5) := behind (s3.trans s5)
    have sW : Step R.ms H (wipeF own F) H5 (wipeF own (wipeF own1 F5)) := sT.wipes hms
    have s15 : Step R.ms H1 (wipeF own F1) H5 (wipeF own (wipeF own1 F5)) := s.trans sW
    have kq : EnvOk R (L2.wipe σ2 own1) H5 (wipeF own1 F5) (Ev.wipe own1 q.2) := wσ2 ▸ k5.wipe hms1
    have nDW3 : ¬ OW R.ms F3 D := fun z => by
      rcases s3.ow D z with w | w
      · exact nDW2 w
      · rw [hD'] at w; cases w
    have hD5 : H5 D = some (.lst accV) := s5.st D _ hD3 nDW3
    have nD5 : ∀ j, D ∉ wipeF own1 F5 j := fun j hj => by
      rcases sT.sub j D hj with z | ⟨l, _, z⟩ | z
      · exact nDF j z
      · exact nDF l z
      · rw [hD] at z; cases z
    cases go4
    obtain ⟨out2, en2⟩ := r2
    have eL' : L = (pre ++ (done ++ [q.1])) ++ (out2 ++ post) := by rw [eL]; simp
    have accl : accV.length < sizeLine := by
      have e1 := acc.rep.length
      have e2 : L.length = (pre ++ done).length + 1 + (out2 ++ post).length := by rw [eL']; simp; omega
      omega
    have acc5 : AccOk R kde.own true H1 (wipeF own F1) D H5 (wipeF own (wipeF own1 F5)) (pre ++ done) accV facc := AccOk.step (nb := false) kw acc sW (fun z => nomatch z) rfl
    have th : ∀ b ∈ facc, ∃ o, H b = some o := fun b hb => Option.ne_none_iff_exists'.mp (RepL.there _ _ _ acc.rep b hb)
    have nDp : D ∉ fp := fun z => (v5h.old D z).2 rfl
    have own_in : ∀ {a j}, a ∈ F j → j ∈ R.ms → a ∈ wipeF own F j := fun {a j} h hj => by rw [wipeF_ne fun z => hms j z hj]; exact h
    have ow1 : ∀ {G : Nat → List Addr} {a}, OW R.ms (wipeF own (wipeF own1 G)) a → OW R.ms G a := fun h => (OW_wipeF hms1).mp ((OW_wipeF hms).mp h)
    obtain ⟨st5, ow5, dom5⟩ := stays sT
    refine ⟨accV, hD5, accl, ⟨wipeF own1 F5, Ev.wipe own1 q.2, done ++ [q.1], out2, accV ++ [v], facc ++ fp, kq.side hD5 hDA nD5 (by rw [List.length_append]; exact accl), s15.side hD1, ⟨fun a o e n => by rw [upd_ne fun z => n (.inr z)]; exact st5 a o e n, ow5, fun a e => by
      by_cases c : a = D
      · rw [c, upd_same] at e; cases e
      · rw [upd_ne c] at e; exact dom5 a e⟩, ⟨upd_same, nD5⟩, go3, eL', ?_⟩⟩
    have a6 : AccOk R kde.own true H1 (wipeF own F1) D H5 (wipeF own (wipeF own1 F5)) (pre ++ (done ++ [q.1])) (accV ++ [v]) (facc ++ fp) := by
      rw [← List.append_assoc]
      refine ⟨acc5.rep.append (RepL.one v5.rep), fun z => (List.mem_append.mp z).elim acc.nD nDp, fun a ha => (List.mem_append.mp ha).elim (acc.old a) (v5.old a), fun z a ha => ?_, fun z => ?_, fun z a ha => ?_, fun z a ha j => ?_, fun z a ha => ?_, fun z a ha => ?_⟩
      · rcases List.mem_append.mp ha with w | w
        · exact acc5.st z a w
        · exact fun y => v5.st cE a w (ow1 y)
      · refine List.nodup_append.mpr ⟨acc.nd z, v5.nd z, fun a ha b hb e => ?_⟩
        subst e
        obtain ⟨o, e⟩ := th a ha
        rcases v5.nw z a hb with w | w
        · rcases s3.ow a w with w | w
          · obtain ⟨j, hjm, hj⟩ := nOW2 w
            exact acc.fr z a ha j (own_in hj hjm)
          · rw [nv.same a o e] at w; cases w
        · have := none_of_same nv.same a (s3.dom a w)
          rw [e] at this; cases this
      · rcases List.mem_append.mp ha with w | w
        · exact acc5.mu z a w
        · exact v5.mu z a w
      · rcases List.mem_append.mp ha with w | w
        · exact acc5.fr z a w j
        · exact fun hj => v5.fr z a w j (wipeF_sub (wipeF_sub hj).1).1
      · rcases List.mem_append.mp ha with w | w
        · exact acc.nw z a w
        · rcases v5.nw z a w with y | y
          · rcases s3.ow a y with y | y
            · exact s.ow a ((OW_wipeF hms).mpr (nOW2 y))
            · exact .inr (s.dom a (none_of_same nv.same a y))
          · exact .inr (s.dom a (none_of_same nv.same a (s3.dom a y)))
      · rcases List.mem_append.mp ha with w | w
        · exact acc.h0 z a w
        · exact v5.h0 z a w
    exact a6.side hD5
  · rw [if_neg ct] at go6 ⊢
    cases go6
    cases go4
    obtain ⟨out2, en2⟩ := r2
    have sT : Step R.ms H F H3 (wipeF own1 F3) := behind s3
    have sW : Step R.ms H (wipeF own F) H3 (wipeF own (wipeF own1 F3)) := sT.wipes hms
    have kq : EnvOk R (L2.wipe σ2 own1) H3 (wipeF own1 F3) (Ev.wipe own1 t.2) := wσ2 ▸ k3.wipe hms1
    have nD4 : ∀ j, D ∉ wipeF own1 F3 j := fun j hj => by
      rcases sT.sub j D hj with z | ⟨l, _, z⟩ | z
      · exact nDF j z
      · exact nDF l z
      · rw [hD] at z; cases z
    exact ⟨wipeF own1 F3, Ev.wipe own1 t.2, done, out2, accV, facc, kq, s.trans sW, stays sT, ⟨hD3, nD4⟩, go3, eL, AccOk.step (nb := false) kw acc sW (fun z => nomatch z) rfl⟩
/-- what the layer asks of the inner loop -/
def tIn (R : Fr0) (WF : WXX) (kde : Kd) (t1 : T) (nc1 : Bool) (evC1 : Env → Res (Bool × Env)) (evE : Env → Res (PV × Env)) (own1 : List Nat) (σ2 : St) (D : Addr) (Nx : Hp → Prop) (J1 : L2.It) (H4 : Hp) : Prop :=
  ∃ W1 : Nat → Nat → Hp → Prop, (∃ m, W1 0 m H4) ∧ ∀ j k H, W1 j k H →
      (J1.stop j H ∧ Nx H) ∨ (J1.go j H ∧ ∃ Nx1 : Hp → Prop, (∀ H', Nx1 H' → ∃ k', k' < k ∧ W1 (j + 1) k' H') ∧ ∀ x H', J1.yld j H x H' → hG R t1 x (L2.wipe σ2 own1) H' fun σ3 H5 => L2.wipe σ3 own1 = L2.wipe σ2 own1 ∧ hC R nc1 evC1 σ3 H5 fun b H6 =>
        if b = true then hE R WF kde evE σ3 H6 fun y H7 => ∃ acc, H7 D = some (.lst acc) ∧ acc.length < sizeLine ∧ Nx1 (upd H7 D (.lst (acc ++ [y]))) else Nx1 H6)
theorem ou_turn {tg t1 : T} {evC evC1 : Env → Res (Bool × Env)} {evE : Env → Res (PV × Env)} {evI1 : Env → Res (List PV × Env)} {WI : WXX} {D : Addr} {items L : List PV} {enE : Env} {fs : List Addr} {i : Nat} {x : V} {Yp : Nat → Hp → V → Hp → Prop}
    (hms : ∀ i ∈ own, i ∉ R.ms) (hv : ∀ i ∈ own1, i ∈ own) (hsl : ∀ i ∈ tg.sl, i ∈ own) (hs1 : ∀ i ∈ t1.sl, i ∈ own1) (cE : kde.stb = true) (hDA : R.H0 D = none ∧ R.A D) (hD1 : H1 D = none) (hL : L.length ≤ sizeLine) (old : ∀ a ∈ fs, R.A a) (hfs : ∀ a ∈ fs, (∃ o, H1 a = some o) ∧ ¬ OW R.ms F1 a)
    (hy : ∀ i H2 x H', i < items.length → Stay (OW R.ms F1) H1 H2 → LenOk R.G.K H2 → Yp i H2 x H' → ∃ p fz, items[i]? = some p ∧ NewV R.G H2 fs p false x H' fz) (hi : i < items.length)
    (p : Ou2 R kde.own own σ H1 F1 D (ouT own tg evC own1 evI1 (inT own1 t1 evC1 evE)) items L enE i H) (y : Yp i H x H') :
    hG R tg x (L2.wipe σ own) H' fun σ2 H2 => L2.wipe σ2 own = L2.wipe σ own ∧ hC R nc evC σ2 H2 fun b H3 => if b = true then hI R WI true nI1 evI1 σ2 H3 (tIn R WF kde t1 nc1 evC1 evE own1 σ2 D (Ou2 R kde.own own σ H1 F1 D (ouT own tg evC own1 evI1 (inT own1 t1 evC1 evE)) items L enE (i + 1)))
    else Ou2 R kde.own own σ H1 F1 D (ouT own tg evC own1 evI1 (inT own1 t1 evC1 evE)) items L enE (i + 1) H3 := by
  obtain ⟨F, en, done, out, accV, facc, k, s, wF, ⟨hD, nDF⟩, go, eL, acc⟩ := p
  have ow1 : ∀ a, OW R.ms (wipeF own F1) a ↔ OW R.ms F1 a := fun a => OW_wipeF hms
  have stO : Stay (OW R.ms F1) H1 H := fun a o e n => s.st a o e fun w => n ((ow1 a).mp w)
  obtain ⟨pv, fz, eI, nv⟩ := hy i H x H' hi stO k.lok y
  have hdrop : items.drop i = pv :: items.drop (i + 1) := by
    rw [List.drop_eq_getElem_cons hi]
    rw [List.getElem?_eq_getElem hi] at eI
    cases eI; rfl
  rw [hdrop] at go
  unfold catGo at go
  obtain ⟨r1, go1, go2⟩ := Res.bind_ok go
  obtain ⟨r2, go3, go4⟩ := Res.bind_ok go2
  obtain ⟨en1, as1, go5⟩ := Res.bind_ok (Res.nr_ok go1)
  have as1 := ofO_ok as1
  obtain ⟨t, cc1, go6⟩ := Res.bind_ok go5
  have k' : EnvOk R (L2.wipe σ own) H' F en := k.same nv.same nv.lok
  have fzst : ∀ a ∈ fz, ¬ OW R.ms F a := fun a ha => by
    rcases nv.sub a ha with z | z
    · obtain ⟨⟨o, e⟩, n⟩ := hfs a z
      intro w
      rcases s.ow a w with w | w
      · exact n ((ow1 a).mp w)
      · rw [e] at w; cases w
    · exact fun ⟨j, _, hj⟩ => k.nf z j hj
  have fzold : ∀ a ∈ fz, (R.hide D).A a := fun a ha => by
    rcases nv.sub a ha with z | z
    · exact ⟨old a z, fun w => by
        obtain ⟨⟨o, e⟩, _⟩ := hfs a z
        rw [w, hD1] at e; cases e⟩
    · exact ⟨(k.dom a z).2, fun w => by rw [w, hD] at z; cases z⟩
  have hD' : H' D = some (.lst accV) := nv.same D _ hD
  have kh : EnvOk (R.hide D) (L2.wipe σ own) H' F en := k'.hide nDF (by rw [hD']; exact nofun)
  refine ⟨D, F, en, pv, fz, en1, kh, nv.rep, fzold, fzst, as1, fun σ2 F2 k2h a2h => ⟨?_, D, F2, en1, k2h, ?_⟩⟩
  all_goals have k2 : EnvOk R σ2 H' F2 en1 := k2h.show
  all_goals have a2 : SetS R tg.sl (L2.wipe σ own) F en σ2 F2 en1 := ⟨a2h.ow, a2h.f, a2h.e, a2h.s⟩
  all_goals have wσ2 : L2.wipe σ2 own = L2.wipe σ own := turn_wipe hsl a2 (by rw [← k2.len, ← k'.len]; exact assign_length as1)
  · exact wσ2
  rw [cc1]
  intro H3 F3 k3h s3 n3
  have k3 : EnvOk R σ2 H3 F3 t.2 := k3h.show
  have s3 : Step R.ms H' F2 H3 F3 := s3
  have nOW2 : ∀ {a}, OW R.ms F2 a → OW R.ms F a := fun h => (a2.ow _).mp h
  have nDW2 : ¬ OW R.ms F2 D := fun z => by
    obtain ⟨j, _, hj⟩ := nOW2 z
    exact nDF j hj
  have hD3 : H3 D = some (.lst accV) := s3.st D _ hD' nDW2
  have behind : ∀ {H5 : Hp} {F5 : Nat → List Addr}, Step R.ms H' F2 H5 F5 → Step R.ms H F H5 (wipeF own F5) := fun s5 => Step.turn hms hsl nv.same a2 s5
  have nD_of : ∀ {H5 : Hp} {F5 : Nat → List Addr}, Step R.ms H F H5 (wipeF own F5) → ∀ j, D ∉ wipeF own F5 j := fun sT j hj => by
    rcases sT.sub j D hj with z | ⟨l, _, z⟩ | z
    · exact nDF j z
    · exact nDF l z
    · rw [hD] at z; cases z
  by_cases ct : t.1 = true
  · rw [if_pos ct] at go6 ⊢
    obtain ⟨q, eI1, go7⟩ := Res.bind_ok go6
    obtain ⟨g, eG, go8⟩ := Res.bind_ok go7
    cases go8
    obtain ⟨out1, enE1⟩ := g
    obtain ⟨out2, en2⟩ := r2
    cases go4
    refine ⟨D, F3, t.2, k3h, ?_⟩
    rw [eI1]
    intro J1 H4 F4 fs1 k4h s4 io old4 hfs4 n4
    have k4 : EnvOk R σ2 H4 F4 q.2 := k4h.show
    have s4 : Step R.ms H3 F3 H4 F4 := s4
    have nDW3 : ¬ OW R.ms F3 D := fun z => by
      rcases s3.ow D z with w | w
      · exact nDW2 w
      · rw [hD'] at w; cases w
    have hD4 : H4 D = some (.lst accV) := s4.st D _ hD3 nDW3
    have sT : Step R.ms H F H4 (wipeF own F4) := behind (s3.trans s4)
    have nDF4 : ∀ j, D ∉ F4 j := fun j hj => by
      exact (k4h.old j D hj).2 rfl
    have hms1 : ∀ i ∈ own1, i ∉ R.ms := fun i h => hms i (hv i h)
    have eF : wipeF own (wipeF own1 F4) = wipeF own F4 := wipeF_wipeF hv
    obtain ⟨Gp, Yp1, wk, hGp, hy1⟩ := io (fun a => OW R.ms F4 a ∨ a = D) (fun a z => by
      rcases z with z | z
      · exact k4.lsts a z
      · exact ⟨_, by rw [z]; exact hD4⟩) fun a z => by
      rcases z with z | z
      · exact .inl (OO_true ▸ z)
      · exact .inr fun w => w.2 z
    refine ⟨fun j m H => m = q.1.length - j ∧ j ≤ q.1.length ∧ In2 R kde.own own own1 σ2 H1 F1 H4 F4 D (inT own1 t1 evC1 evE) q.1 L enE1 done out2 j H, ⟨_, rfl, Nat.zero_le _, ?_⟩, ?_⟩
    · refine ⟨wipeF own1 F4, Ev.wipe own1 q.2, [], out1, accV, facc, k4.wipe hms1, by rw [eF]; exact s.trans sT, ⟨fun a o e _ => e, fun a z => .inl ((OW_wipeF hms1).mp z), fun _ e => e⟩, ⟨hD4, fun j hj => nDF4 j (wipeF_sub hj).1⟩, eG, by rw [eL, List.append_nil], ?_⟩
      rw [eF, List.append_nil]
      exact AccOk.step (nb := false) k acc sT (fun z => nomatch z) rfl
    · rintro j m Hj ⟨rfl, hj, pj⟩
      have stj : Stay (fun a => OW R.ms F4 a ∨ a = D) H4 Hj := by
        obtain ⟨_, _, _, _, _, _, _, _, ⟨z, _⟩, _⟩ := pj
        exact z
      have gp := hGp Hj stj
      by_cases hlt : j < q.1.length
      · exact .inr ⟨wk.goes j Hj hlt gp, _, fun H' p' => ⟨q.1.length - (j + 1), by omega, rfl, hlt, p'⟩, fun x H' y => in_turn hms hv hs1 cE hDA hD1 hL old4 hfs4 hy1 hlt pj (wk.yields j Hj x H' hlt gp y)⟩
      · have e : j = q.1.length := by omega
        subst e
        refine .inl ⟨wk.stops Hj gp, ?_⟩
        obtain ⟨Fj, enj, donej, outj, accj, fj, kj, sj, _, ⟨hDj, nDj⟩, goj, eLj, aj⟩ := pj
        rw [List.drop_length] at goj
        cases goj
        have kw := kj.wipe hms
        rw [lwipe2 hv, wσ2] at kw
        exact ⟨wipeF own Fj, Ev.wipe own enE1, done ++ donej, out2, accj, fj, kw, sj, wipeF_wipeF fun _ z => z, ⟨hDj, fun j hj => nDj j (wipeF_sub hj).1⟩, go3, by rw [eLj, List.nil_append], aj⟩
  · rw [if_neg ct] at go6 ⊢
    cases go6
    cases go4
    obtain ⟨out2, en2⟩ := r2
    have sT : Step R.ms H F H3 (wipeF own F3) := behind s3
    have kw : EnvOk R (L2.wipe σ own) H3 (wipeF own F3) (Ev.wipe own t.2) := wσ2 ▸ k3.wipe hms
    exact ⟨wipeF own F3, Ev.wipe own t.2, done, out2, accV, facc, kw, s.trans sT, wipeF_wipeF fun _ z => z, ⟨hD3, nD_of sT⟩, go3, by rw [eL, List.nil_append], AccOk.step (nb := false) k acc sT (fun z => nomatch z) rfl⟩
section
variable {X : Cx}
theorem comp2_law {tg t1 : T} {evI evI1 : Env → Res (List PV × Env)} {evC evC1 : Env → Res (Bool × Env)} {evE : Env → Res (PV × Env)} {WI : WXX}
    (hms : ∀ i ∈ own, i ∉ R.ms) (hv : ∀ i ∈ own1, i ∈ own) (hsl : ∀ i ∈ tg.sl, i ∈ own) (hs1 : ∀ i ∈ t1.sl, i ∈ own1) (cE : kde.stb = true) {Q : VK}
    (k : EnvOk R σ H F env) (h : okR R W ⟨kde.own, true, true, false⟩ σ H F env Q (evComp2 own tg evI evC own1 t1 evI1 evC1 evE env)) :
    tLc2 (rdI R W true nI evI) (hG R tg) (hC R nc evC) (hI R WI true nI1 evI1) (hG R t1) (hC R nc1 evC1) (hE R WF kde evE) own own1 σ H Q := by
  refine ⟨F, env, k, ?_⟩
  cases eI : evI env with
  | fail =>
    unfold evComp2 at h
    rw [eI] at h
    exact h.elim
  | raise c x e =>
    unfold evComp2 at h
    rw [eI] at h
    exact h
  | ok r =>
    unfold evComp2 at h
    rw [eI] at h
    have h := (show okR R W _ σ H F env Q ((catGo _ r.1 (Ev.wipe own r.2)).bind _) from h)
    cases eG : catGo (ouT own tg evC own1 evI1 (inT own1 t1 evC1 evE)) r.1 (Ev.wipe own r.2) with
    | fail => rw [eG] at h; exact h.elim
    | raise c x e => exact absurd eG (catGo_noraise fun x en c a e => Res.nr_ne)
    | ok q =>
      rw [eG] at h
      have h := (show okR R W _ σ H F env Q (if q.1.length ≤ sizeLine then .ok (.lst q.1, Ev.restore own r.2 q.2) else .fail) from h)
      by_cases hL : q.1.length ≤ sizeLine
      case neg => rw [if_neg hL] at h; exact h.elim
      rw [if_pos hL] at h
      intro J H1 F1 fs k1 s1 io old hfs n1
      obtain ⟨Gp, Yp, wk, hGp, hy⟩ := io.std k1
      rw [OO_true] at hGp hy
      intro D hD1
      have ow1 : ∀ a, OW R.ms (wipeF own F1) a ↔ OW R.ms F1 a := fun a => OW_wipeF hms
      obtain ⟨out0, enE⟩ := q
      refine ⟨fun i m H => m = r.1.length - i ∧ i ≤ r.1.length ∧ Ou2 R kde.own own σ H1 F1 D (ouT own tg evC own1 evI1 (inT own1 t1 evC1 evE)) r.1 out0 enE i H, ⟨_, rfl, Nat.zero_le _, ?_⟩, ?_⟩
      · exact ⟨wipeF own F1, Ev.wipe own r.2, [], out0, [], [], (k1.same (same_upd hD1) (lok_lst k1.lok (Nat.zero_le _))).wipe hms, Step.same (same_upd hD1), wipeF_wipeF fun _ z => z, ⟨upd_same, fun j hj => k1.nf hD1 j (wipeF_sub hj).1⟩, eG, rfl, AccOk.nil⟩
      rintro i m H2 ⟨rfl, hi, p⟩
      have st2 : Stay (OW R.ms F1) H1 H2 := by
        obtain ⟨_, _, _, _, _, _, _, s, _⟩ := p
        exact fun a o e n => s.st a o e fun w => n ((ow1 a).mp w)
      have gp := hGp H2 st2
      by_cases hlt : i < r.1.length
      · exact .inr ⟨wk.goes i H2 hlt gp, _, fun H' p' => ⟨r.1.length - (i + 1), by omega, rfl, hlt, p'⟩, fun x H' y => ou_turn hms hv hsl hs1 cE (k1.dom D hD1) hD1 hL old hfs hy hlt p (wk.yields i H2 x H' hlt gp y)⟩
      · have e : i = r.1.length := by omega
        subst e
        refine .inl ⟨wk.stops H2 gp, ?_⟩
        obtain ⟨F2, en, done, out, accV, facc, k2, s, wF, ⟨hD, nDF⟩, go, eL, acc⟩ := p
        rw [List.drop_length] at go
        cases go
        rw [List.append_nil] at eL
        subst eL
        have ksh : EnvOk R σ H2 (restF own F1 F2) (Ev.restore own r.2 enE) := EnvOk.restore hms k1 k2 s
        have sub1 : ∀ j a, a ∈ restF own F1 F2 j → a ∈ F1 j ∨ OW R.ms F1 a ∨ H1 a = none := fun j a ha => by
          unfold restF at ha
          split at ha
          · exact .inl ha
          · rcases s.sub j a ha with z | z | z
            · exact .inl (wipeF_sub z).1
            · exact .inr (.inl ((ow1 a).mp z))
            · exact .inr (.inr z)
        have s12 : Step R.ms H1 F1 H2 (restF own F1 F2) := ⟨st2, sub1, fun a ha => by
          rcases s.ow a ((OW_restF hms).mp ha) with z | z
          · exact .inl ((ow1 a).mp z)
          · exact .inr z, s.dom⟩
        have nDr : ∀ j, D ∉ restF own F1 F2 j := fun j hj => by
          unfold restF at hj
          split at hj
          · exact k1.nf hD1 j hj
          · exact nDF j hj
        have frr : kde.own = true → ∀ a ∈ facc, ∀ j, a ∉ restF own F1 F2 j := fun z a ha j hj => by
          unfold restF at hj
          split at hj
          · rename_i c
            rcases acc.nw z a ha with w | w
            · exact k1.free (hms j c) a hj ((ow1 a).mp w)
            · exact k1.nf w j hj
          · exact acc.fr z a ha j hj
        have cons : ∀ {P : Addr → Prop}, P D → (∀ a ∈ facc, P a) → ∀ a ∈ D :: facc, P a := fun p q a ha => by
          rcases List.mem_cons.mp ha with rfl | ha
          · exact p
          · exact q a ha
        refine h (.ref D) H2 _ (D :: facc) ksh (s1.trans s12) ⟨RepF.new hD acc.rep, cons (k1.dom D hD1).2 acc.old, fun z => cons (fun ⟨j, _, hj⟩ => nDr j hj) fun a ha w => acc.st rfl a ha ((OW_restF hms).mp w),
          fun z => List.nodup_cons.mpr ⟨acc.nD, acc.nd z⟩, fun z => cons ⟨_, hD⟩ (acc.mu z), fun z => cons nDr (frr z), fun z => cons (.inr (s1.dom D hD1)) fun a ha => ?_, fun z => cons (k1.dom D hD1).1 (acc.h0 z), fun _ l e => ?_⟩ fun z => nomatch z
        · rcases acc.nw z a ha with w | w
          · exact s1.ow a ((ow1 a).mp w)
          · exact .inr (s1.dom a w)
        · cases e
          exact ⟨D, accV, facc, rfl, hD, acc.rep, s1.dom D hD1, nDr, (k1.dom D hD1).1⟩
theorem PI.any {ι : Type} {tg e : Expr} {t : ι → TI} (h : ∀ D, PI X tg e (t D)) : PI X tg e (fun σ H Q => ∃ D, t D σ H Q) := ⟨fun pins s σ H Q I ⟨D, q⟩ => (h D).run pins s σ H Q I q⟩
/-- [elt for tg in iter if .. for tg1 in iter1 if ..] -/
theorem ev_comp2 {elt tgE iter tgE1 iter1 : Expr} {ifs ifs1 : List Expr} {scope : Scope} {ownP : List (Str × Nat)} {pos : Pos} {tg t1 : T} {evI evI1 : Env → Res (List PV × Env)} {evC evC1 : Env → Res (Bool × Env)} {evE : Env → Res (PV × Env)} {WI : WXX}
    (hc : X.calm = true) (hN : X.N.Nodup) (hi : PI X tgE iter (rdI R W true nI evI)) (ok : BlkOk X.N X.env.scope scope ownP) (hms : ∀ i ∈ ownP.map (·.2), i ∉ R.ms) (hv : ∀ i ∈ own1, i ∈ ownP.map (·.2)) (hsl : ∀ i ∈ tg.sl, i ∈ ownP.map (·.2)) (hs1 : ∀ i ∈ t1.sl, i ∈ own1)
    (cE : kde.stb = true)
    (hg : ∀ D (s : Shared) (H : Hp) (C : Addr) (cl : List (Str × Addr)) (fp : List Addr), PG (X.blk s H scope (compEnvC scope cl C X.env) fp) tgE (rdG (R.hide D) tg))
    (ht : ∀ D (s : Shared) (H : Hp) (C : Addr) (cl : List (Str × Addr)) (fp : List Addr), PTs (X.blk s H scope (compEnvC scope cl C X.env) fp) ifs (rdC (R.hide D) nc evC))
    (hi1 : ∀ D (s : Shared) (H : Hp) (C : Addr) (cl : List (Str × Addr)) (fp : List Addr), PI (X.blk s H scope (compEnvC scope cl C X.env) fp) tgE1 iter1 (rdI (R.hide D) WI true nI1 evI1))
    (hg1 : ∀ D (s : Shared) (H : Hp) (C : Addr) (cl : List (Str × Addr)) (fp : List Addr), PG (X.blk s H scope (compEnvC scope cl C X.env) fp) tgE1 (rdG (R.hide D) t1))
    (ht1 : ∀ D (s : Shared) (H : Hp) (C : Addr) (cl : List (Str × Addr)) (fp : List Addr), PTs (X.blk s H scope (compEnvC scope cl C X.env) fp) ifs1 (rdC (R.hide D) nc1 evC1))
    (he : ∀ D (s : Shared) (H : Hp) (C : Addr) (cl : List (Str × Addr)) (fp : List Addr), PE (X.blk s H scope (compEnvC scope cl C X.env) fp) elt (rdE (R.hide D) WF kde evE))
    (hf : notSet iter = true) (hf1 : notSet iter1 = true) :
    PE X (.ListComp elt [⟨tgE, iter, ifs, 0⟩, ⟨tgE1, iter1, ifs1, 0⟩] scope pos) (rdE R W ⟨kde.own, true, true, false⟩ (evComp2 (ownP.map (·.2)) tg evI evC own1 t1 evI1 evC1 evE)) :=
  PE.by (pe_lc2 hc hN hi ok hv (fun s H C cl fp => PG.any fun D => hg D s H C cl fp) (fun s H C cl fp => PTs.any fun D => ht D s H C cl fp) (fun s H C cl fp => PI.any fun D => hi1 D s H C cl fp) (fun s H C cl fp => PG.any fun D => hg1 D s H C cl fp) (fun s H C cl fp => PTs.any fun D => ht1 D s H C cl fp) (fun s H C cl fp => PE.any fun D => he D s H C cl fp) (fold_pure hf) (fun env => fold_pure hf1)) fun σ H Q F env k h => comp2_law hms hv hsl hs1 cE k h
end
end Ev

/-! EvX8: for over an own list that stays in its slot (it may grow). -/
namespace Ev
open PySem PySem.Spec PyProof.Rows L2
variable {R : Fr0} {W : WXX} {σ σ2 : St} {H H1 H2 H' : Hp} {F F1 F2 F' : Nat → List Addr} {env env1 env2 env' : Env} {fresh : Bool} {D : Ends}
/-- slot i stands -/
def Fr0.pinAt (R : Fr0) (i : Nat) (v : V) : Fr0 := { R with pin := fun j => if j = i then some v else R.pin j }
theorem EnvOk.pinAt {i : Nat} {v : V} (k : EnvOk R σ H F env) (hm : i ∈ R.ms) (e : σ[i]? = some (some v)) : EnvOk (R.pinAt i v) σ H F env :=
  ⟨k.len, k.slot, k.non, k.nd, k.mu, k.ow, k.dj, k.old, k.keep, k.dom, k.lok, fun j u z => by
    have z : (if j = i then some v else R.pin j) = some u := z
    by_cases c : j = i
    · rw [if_pos c] at z
      cases z
      rw [c]
      exact ⟨hm, e⟩
    · rw [if_neg c] at z
      exact k.rf j u z⟩
theorem EnvOk.unpin {i : Nat} {v : V} (hv : ∀ u, R.pin i = some u → u = v) (k : EnvOk (R.pinAt i v) σ H F env) : EnvOk R σ H F env :=
  ⟨k.len, k.slot, k.non, k.nd, k.mu, k.ow, k.dj, k.old, k.keep, k.dom, k.lok, fun j u z => by
    by_cases c : j = i
    · subst c
      have := hv u z
      subst this
      exact k.rf j u (if_pos rfl)
    · exact k.rf j u ((if_neg c).trans z)⟩
theorem okS.pinAt {i : Nat} {v : V} (hv : ∀ u, R.pin i = some u → u = v) {o : Out} (h : okS R W fresh D H F o) : okS (R.pinAt i v) W fresh D H F o := by
  cases o with
  | nx e => exact fun σ' H' F' k st => h σ' H' F' (k.unpin hv) st
  | bk e => exact fun σ' H' F' k st => h σ' H' F' (k.unpin hv) st
  | ct e => exact fun σ' H' F' k st => h σ' H' F' (k.unpin hv) st
  | rt p e => exact fun σ' H' F' z fz k st q => h σ' H' F' z fz (k.unpin hv) st ⟨q.rep, q.old, q.st, q.nd, q.mu, q.h0⟩
  | raise c x e => exact fun σ' H' F' d k st q => h σ' H' F' d (k.unpin hv) st q
  | fail => exact h
section
variable {X : Cx}
theorem PSs.any {ι : Type} {b : List Stmt} {t : ι → TS} (h : ∀ a, PSs X b (t a)) : PSs X b (fun D σ H => ∃ a, t a D σ H) := ⟨fun pins s σ H D I ⟨a, q⟩ => (h a).run pins s σ H D I q⟩
theorem formGo_list {f : PV → Env → Out} {i k n : Nat} {en : Env} (h : okS R W fresh D H F (formGo f i n k en)) : ∃ m l, n = m + 1 ∧ en[i]? = some (.lst l) ∧ ((l[k]? = none ∧ okS R W fresh D H F (.nx en)) ∨ ∃ x, l[k]? = some x ∧ x.lf = true ∧ okS R W fresh D H F (match f x en with
      | .nx e => formGo f i m (k + 1) e
      | .ct e => formGo f i m (k + 1) e
      | .bk e => .nx e
      | o => o)) := by
  cases n with
  | zero => exact h.elim
  | succ m =>
    unfold formGo at h
    cases e : en[i]? with
    | none => rw [List.getD_eq_getElem?_getD, e] at h; exact h.elim
    | some p =>
      rw [List.getD_eq_getElem?_getD, e] at h
      cases p with
      | lst l =>
        refine ⟨m, l, rfl, rfl, ?_⟩
        have h := (show okS R W fresh D H F (match l[k]? with
          | none => .nx en
          | some x => if x.lf = true then match f x en with
            | .nx e => formGo f i m (k + 1) e
            | .ct e => formGo f i m (k + 1) e
            | .bk e => .nx e
            | o => o else .fail) from h)
        cases e2 : l[k]? with
        | none => rw [e2] at h; exact .inl ⟨rfl, h⟩
        | some x =>
          rw [e2] at h
          by_cases c : x.lf = true
          · exact .inr ⟨x, rfl, c, by simpa only [c, if_true] using h⟩
          · have h : okS R W fresh D H F (if x.lf = true then _ else _) := h
            rw [if_neg c] at h
            exact h.elim
      | _ => exact h.elim
theorem es_form {tg : Expr} {y : Str} {py pos : Pos} {body : List Stmt} {t : T} {i Wf : Nat} {evb : Env → Out} (hp : PassesOwn (model X.prog X.w) X.A X.env X.xe) (hc : X.calm = true) (hK : R.G.K = X.K) (hm : i ∈ R.ms) (hN : X.N[i]? = some y) (hv : Vis X.env.scope y) (hd : (y == ("__debug__" : Str)) = false) (hcd : (y == ("__classdict__" : Str)) = false)
    (hg : ∀ v, PG X tg (rdG (R.pinAt i v) t)) (hb : ∀ v, PSs X body (rdS (R.pinAt i v) W fresh evb)) :
    PS X (.For tg (.Name y py) body [] pos) (rdS R W fresh fun env => formGo (fun x en => (ofO (Ev.assign t x en)).out fun en1 => evb en1) i Wf 0 env) :=
  PS.imp (ps_for hp hc (pi_seq (pe_var hN hv hd hcd)) (PG.any hg) (PSs.any hb)) fun D σ H ⟨F, env, k, h⟩ => by
    obtain ⟨m0, l0, _, e0, _⟩ := formGo_list h
    obtain ⟨v0, s0, r0⟩ := k.slot i _ e0 (by simp)
    obtain ⟨a, vs0, f0, rfl, ha0, _, _⟩ := r0
    have hpin : ∀ u, R.pin i = some u → u = .ref a := fun u z => by
      have z := (k.rf i u z).2
      rw [s0] at z
      cases z; rfl
    refine ⟨.ref a, s0, a, rfl, .inl ⟨⟨vs0, .of ha0⟩, ?_⟩⟩
    rw [← hK]
    generalize hfe : (fun (x : PV) (en : Env) => (ofO (Ev.assign t x en)).out fun en1 => evb en1) = f at h
    refine ⟨fun j m σ' H' => ∃ F' en, EnvOk (R.pinAt i (.ref a)) σ' H' F' en ∧ okS R W fresh D H' F' (formGo f i m j en), ⟨Wf, F, env, k.pinAt hm s0, h⟩, ?_⟩
    rintro j m σ1 H1 ⟨F1, en, k1, h1⟩
    obtain ⟨m1, l, rfl, el, h2⟩ := formGo_list h1
    obtain ⟨v, s1, r1⟩ := k1.slot i _ el (by simp)
    have s1' := (k1.rf i (.ref a) (if_pos rfl)).2
    rw [s1'] at s1
    cases s1
    obtain ⟨a', vs, g, ea, ha, hl, _⟩ := r1
    cases ea
    have hs : SqL R.G.K H1 a vs := .of ha
    rcases h2 with ⟨en1, h2⟩ | ⟨x, ex, hlf, h2⟩
    · refine .inl ⟨⟨vs, hs, ?_⟩, h2 σ1 H1 F1 (k1.unpin hpin) StepS.refl⟩
      rw [hl.length]
      exact List.getElem?_eq_none_iff.mp en1
    · obtain ⟨z, f', ez, rz, _⟩ := hl.get ex
      refine .inr ⟨⟨vs, z, hs, ez⟩, fun σ' H' => ∃ F' en, EnvOk (R.pinAt i (.ref a)) σ' H' F' en ∧ okS R W fresh D H' F' (formGo f i m1 (j + 1) en), fun σ' H' z => ⟨m1, Nat.lt_succ_self _, z⟩, fun u H' yy => ?_⟩
      obtain ⟨rfl, yy⟩ := yy
      have e1 := yy vs hs
      rw [ez] at e1
      cases e1
      have ef : f' = [] := RepF.lf _ _ _ rz hlf
      subst ef
      have hfx : f x en = (ofO (Ev.assign t x en)).out fun en1 => evb en1 := by rw [← hfe]
      cases eas : Ev.assign t x en with
      | none =>
        rw [hfx, eas] at h2
        exact h2.elim
      | some en1 =>
        have hfx : f x en = evb en1 := by rw [hfx, eas]; rfl
        rw [hfx] at h2
        refine ⟨.ref a, F1, en, x, [], en1, k1, rz, fun b hb => by simp at hb, fun b hb => by simp at hb, eas, fun σ3 F3 k3 a3 => ⟨.ref a, F3, en1, k3, ?_⟩⟩
        have s3 : StepS R.ms H' F1 H' F3 := a3.stp
        cases eb : evb en1 with
        | nx e =>
          rw [eb] at h2
          exact fun σ4 H4 F4 k4 s4 => ⟨F4, e, k4, okS.step (s3.trans s4) h2⟩
        | ct e =>
          rw [eb] at h2
          exact fun σ4 H4 F4 k4 s4 => ⟨F4, e, k4, okS.step (s3.trans s4) h2⟩
        | bk e =>
          rw [eb] at h2
          exact fun σ4 H4 F4 k4 s4 => h2 σ4 H4 F4 (k4.unpin hpin) (s3.trans s4)
        | rt p e =>
          rw [eb] at h2
          exact okS.pinAt hpin (okS.step s3 (show okS R W fresh D H' F1 (.rt p e) from h2))
        | raise c x e =>
          rw [eb] at h2
          exact okS.pinAt hpin (okS.step s3 (show okS R W fresh D H' F1 (.raise c x e) from h2))
        | fail =>
          rw [eb] at h2
          exact h2
end
end Ev

/-! EvC: a checker: is this AST that expression? -/
namespace Ev
open PySem PySem.Spec PyProof.Rows L2
structure Sig where
  x : Str
  np : Nat
  br : Bool
  fresh : Bool
  hot : Bool := false
  cl : Bool := false
/-- a class of errors: its name, the field of its instances -/
structure XSig where
  x : Str
  f : Str
structure Gam where
  N : List Str
  sc : Scope
  fn : Str → Bool
  ms : List Nat
  pins : List Nat
  br : Bool
  fresh : Bool
  sigs : List Sig
  cs : List (Str × PV)
  xs : List XSig := []
  hot : Bool := false
  cl : Bool := false
  tf : Bool := true
def flatEq : PV → PV → Bool
  | .non, .non => true
  | .bl a, .bl b => a == b
  | .int a, .int b => decide (a = b)
  | .str a, .str b => decide (a = b)
  | _, _ => false
theorem flatEq_eq {p q : PV} (h : flatEq p q = true) : p = q := by
  cases p <;> cases q <;> simp_all [flatEq]
def visB (Γ : Gam) (i : Nat) (x : Str) : Bool := decide (Γ.N[i]? = some x) && (match Γ.sc.names.lookup x with
  | some .local => true
  | some .cell => true
  | some .free => true
  | _ => false) && (x == ("__debug__" : Str)) == false && (x == ("__classdict__" : Str)) == false
def locB (Γ : Gam) (i : Nat) (x : Str) : Bool := decide (Γ.N[i]? = some x) && (match Γ.sc.names.lookup x with
  | some .local => true
  | some .cell => Γ.fn x
  | _ => false)
def glB (Γ : Gam) (x : Str) : Bool := decide (Γ.sc.names.lookup x = some .globalImplicit) && (x == ("__debug__" : Str)) == false && decide (x ≠ "__name__")
/-! ### the forms -/
def asC : Expr → Option Const
  | .Constant c _ _ => some c
  | _ => none
def asN : Expr → Option Str
  | .Name x _ => some x
  | _ => none
def asBin : Expr → Option (Expr × Operator × Expr)
  | .BinOp a o b _ => some (a, o, b)
  | _ => none
def asUn : Expr → Option (UnaryOp × Expr)
  | .UnaryOp o a _ => some (o, a)
  | _ => none
def asBool : Expr → Option (BoolOp × Expr × Expr × List Expr × Pos)
  | .BoolOp o (a :: b :: r) p => some (o, a, b, r, p)
  | _ => none
def asCmp : Expr → Option (Expr × CmpOp × Expr)
  | .Compare a [o] [b] _ => some (a, o, b)
  | _ => none
def asCmp2 : Expr → Option (Expr × CmpOp × CmpOp × Expr × Expr)
  | .Compare a [o, p] [b, c] _ => some (a, o, p, b, c)
  | _ => none
def asIf : Expr → Option (Expr × Expr × Expr)
  | .IfExp c a b _ => some (c, a, b)
  | _ => none
def asCall : Expr → Option (Str × List Expr)
  | .Call (.Name x _) es [] _ => some (x, es)
  | _ => none
def asTup : Expr → Option (List Expr)
  | .Tuple es _ _ => some es
  | _ => none
def asLst : Expr → Option (List Expr)
  | .List es _ => some es
  | _ => none
def asSub : Expr → Option (Expr × Expr)
  | .Subscript a i _ => some (a, i)
  | _ => none
def asSl : Expr → Option (Expr × Option Expr × Option Expr)
  | .Subscript a (.Slice lo hi none _) _ => some (a, lo, hi)
  | _ => none
def asRev : Expr → Option Expr
  | .Subscript a (.Slice none none (some (.UnaryOp .USub (.Constant (.int 1) _ _) _)) _) _ => some a
  | _ => none
def asComp : Expr → Option (Expr × Expr × Expr × List Expr × Scope)
  | .ListComp e [⟨tg, it, ifs, 0⟩] sc _ => some (e, tg, it, ifs, sc)
  | _ => none
def asComp2 : Expr → Option (Expr × Expr × Expr × List Expr × Expr × Expr × List Expr × Scope)
  | .ListComp e [⟨tg, it, ifs, 0⟩, ⟨tg1, it1, ifs1, 0⟩] sc _ => some (e, tg, it, ifs, tg1, it1, ifs1, sc)
  | _ => none
theorem asComp2_eq {x : Expr} {e tg it : Expr} {ifs : List Expr} {tg1 it1 : Expr} {ifs1 : List Expr} {sc : Scope} (h : asComp2 x = some (e, tg, it, ifs, tg1, it1, ifs1, sc)) : ∃ p, x = .ListComp e [⟨tg, it, ifs, 0⟩, ⟨tg1, it1, ifs1, 0⟩] sc p := by
  unfold asComp2 at h; split at h <;> cases h; exact ⟨_, rfl⟩
/-- z.f -/
def asAttr : Expr → Option (Expr × Str)
  | .Attribute a f _ => some (a, f)
  | _ => none
theorem asAttr_eq {x : Expr} {r} (h : asAttr x = some r) : ∃ p, x = .Attribute r.1 r.2 p := by
  unfold asAttr at h; split at h <;> cases h; exact ⟨_, rfl⟩
theorem asC_eq {x : Expr} {c : Const} (h : asC x = some c) : ∃ j p, x = .Constant c j p := by
  unfold asC at h; split at h <;> cases h; exact ⟨_, _, rfl⟩
theorem asN_eq {x : Expr} {y : Str} (h : asN x = some y) : ∃ p, x = .Name y p := by
  unfold asN at h; split at h <;> cases h; exact ⟨_, rfl⟩
theorem asBin_eq {x : Expr} {r} (h : asBin x = some r) : ∃ p, x = .BinOp r.1 r.2.1 r.2.2 p := by
  unfold asBin at h; split at h <;> cases h; exact ⟨_, rfl⟩
theorem asUn_eq {x : Expr} {r} (h : asUn x = some r) : ∃ p, x = .UnaryOp r.1 r.2 p := by
  unfold asUn at h; split at h <;> cases h; exact ⟨_, rfl⟩
theorem asBool_eq {x : Expr} {r} (h : asBool x = some r) : x = .BoolOp r.1 (r.2.1 :: r.2.2.1 :: r.2.2.2.1) r.2.2.2.2 := by
  unfold asBool at h; split at h <;> cases h; rfl
theorem asCmp_eq {x : Expr} {r} (h : asCmp x = some r) : ∃ p, x = .Compare r.1 [r.2.1] [r.2.2] p := by
  unfold asCmp at h; split at h <;> cases h; exact ⟨_, rfl⟩
theorem asCmp2_eq {x : Expr} {r} (h : asCmp2 x = some r) : ∃ p, x = .Compare r.1 [r.2.1, r.2.2.1] [r.2.2.2.1, r.2.2.2.2] p := by
  unfold asCmp2 at h; split at h <;> cases h; exact ⟨_, rfl⟩
theorem asIf_eq {x : Expr} {r} (h : asIf x = some r) : ∃ p, x = .IfExp r.1 r.2.1 r.2.2 p := by
  unfold asIf at h; split at h <;> cases h; exact ⟨_, rfl⟩
theorem asCall_eq {x : Expr} {r} (h : asCall x = some r) : ∃ p q, x = .Call (.Name r.1 p) r.2 [] q := by
  unfold asCall at h; split at h <;> cases h; exact ⟨_, _, rfl⟩
theorem asTup_eq {x : Expr} {r} (h : asTup x = some r) : ∃ k p, x = .Tuple r k p := by
  unfold asTup at h; split at h <;> cases h; exact ⟨_, _, rfl⟩
theorem asLst_eq {x : Expr} {r} (h : asLst x = some r) : ∃ p, x = .List r p := by
  unfold asLst at h; split at h <;> cases h; exact ⟨_, rfl⟩
theorem asSub_eq {x : Expr} {r} (h : asSub x = some r) : ∃ p, x = .Subscript r.1 r.2 p := by
  unfold asSub at h; split at h <;> cases h; exact ⟨_, rfl⟩
theorem asSl_eq {x : Expr} {r} (h : asSl x = some r) : ∃ p q, x = .Subscript r.1 (.Slice r.2.1 r.2.2 none p) q := by
  unfold asSl at h; split at h <;> cases h; exact ⟨_, _, rfl⟩
theorem asRev_eq {x : Expr} {r} (h : asRev x = some r) : ∃ k p1 p2 p3 q, x = .Subscript r (.Slice none none (some (.UnaryOp .USub (.Constant (.int 1) k p1) p2)) p3) q := by
  unfold asRev at h; split at h <;> cases h; exact ⟨_, _, _, _, _, rfl⟩
theorem asComp_eq {x : Expr} {r} (h : asComp x = some r) : ∃ p, x = .ListComp r.1 [⟨r.2.1, r.2.2.1, r.2.2.2.1, 0⟩] r.2.2.2.2 p := by
  unfold asComp at h; split at h <;> cases h; exact ⟨_, rfl⟩
/-- z.f(v) -/
def asMth : Expr → Option (Str × Str × Expr × Pos)
  | .Call (.Attribute (.Name z px) f ap) [v] [] cp => if (ap.endLine == cp.line) = true then some (z, f, v, px) else none
  | _ => none
theorem asMth_eq {x : Expr} {r} (h : asMth x = some r) : ∃ ap cp, (ap.endLine == cp.line) = true ∧ x = .Call (.Attribute (.Name r.1 r.2.2.2) r.2.1 ap) [r.2.2.1] [] cp := by
  unfold asMth at h
  split at h
  · split at h
    · rename_i f; cases h; exact ⟨_, _, f, rfl⟩
    · cases h
  · cases h
/-! ### kinds -/
abbrev Ck := Option Kd × Option Bool
structure Ka where
  own : Bool
  stb : Bool
  nor : Bool
  len : Nat
def dfl (x : Expr) (k : Option Kd) : Ck := (k, if plainT x = true then k.map (·.nor) else none)
def kC : Kd := ⟨true, true, true, true⟩
def kBin : Option Kd → Option Kd → Option Kd
  | some a, some b => if (a.stb || b.nor) = true then some ⟨false, a.stb && b.stb, true, a.nor && b.nor⟩ else none
  | _, _ => none
def kCmp : Option Kd → Option Kd → Option Kd
  | some a, some b => if (a.stb || b.nor) = true then some ⟨true, true, true, a.nor && b.nor⟩ else none
  | _, _ => none
def kCmp2 : Option Kd → Option Kd → Option Kd → Option Kd
  | some a, some b, some c => if ((a.stb || b.nor) && (b.stb || c.nor)) = true then some ⟨true, true, true, a.nor && b.nor && c.nor⟩ else none
  | _, _, _ => none
def kAnd : Option Kd → Option Kd → Option Kd
  | some a, some b => some ⟨false, a.stb && b.stb, false, a.nor && b.nor⟩
  | _, _ => none
def tAndB : Option Bool → Option Bool → Option Bool
  | some a, some b => some (a && b)
  | _, _ => none
def kIdx : Option Kd → Option Kd → Option Kd
  | some a, some b => if (a.stb || b.nor) = true then some ⟨false, a.stb, false, a.nor && b.nor⟩ else none
  | _, _ => none
def kSl : Option Kd → Option Bool → Option Bool → Option Kd
  | some a, some n1, some n2 => if (a.stb || (n1 && n2)) = true then some ⟨false, a.stb, true, a.nor && (n1 && n2)⟩ else none
  | _, _, _ => none
def kIf : Option Bool → Option Kd → Option Kd → Option Kd
  | some n, some a, some b => some ⟨a.own && b.own && n, a.stb && b.stb, a.top && b.top, n && a.nor && b.nor⟩
  | _, _, _ => none
def kCons : Option Kd → Option Ka → Option Ka
  | some a, some r => if (a.stb || r.nor) = true then some ⟨a.own && r.own, a.stb && r.stb, a.nor && r.nor, r.len + 1⟩ else none
  | _, _ => none
def okBin : Operator → Bool
  | .Add => true
  | .Sub => true
  | .Mult => true
  | .FloorDiv => true
  | .Mod => true
  | .Pow => true
  | .LShift => true
  | .RShift => true
  | .BitAnd => true
  | .BitOr => true
  | .BitXor => true
  | _ => false
def bltN : Blt → Str
  | .len => "len"
  | .tuple => "tuple"
  | .list => "list"
  | .sum => "sum"
  | .all => "all"
  | .any => "any"
  | .min => "min"
  | .max => "max"
  | .sorted => "sorted"
  | .abs => "abs"
  | .int => "int"
  | .repr => "repr"
  | .str => "str"
  | .bool => "bool"
def bltNames : List Str := ["len", "tuple", "list", "sum", "all", "any", "min", "max", "sorted", "abs", "int", "repr", "str", "bool", "isinstance", "range", "zip", "enumerate", "ValueError", "super"]
def bltTop : Blt → Bool
  | .min => false
  | .max => false
  | _ => true
def tyS : Ty → Str
  | .int => "int"
  | .bool => "bool"
  | .tuple => "tuple"
  | .str => "str"
  | .list => "list"
  | _ => ""
def relabelS (scope sc : Scope) : Scope :=
  { scope with names := scope.names.map fun (n, k) => if (k == .free && sc.kind == .function && sc.names.lookup n == some .cell) then (n, .cell) else (n, k) }
def Gam.blk (Γ : Gam) (scope : Scope) : Gam := { Γ with sc := relabelS scope Γ.sc, fn := fun x => scope.names.lookup x == some .cell, tf := false }
/-! ### targets -/
mutual
def chkG (Γ : Gam) : T → Expr → Bool
  | .n i, x => match asN x with
    | some y => locB Γ i y && decide (i ∉ Γ.ms)
    | none => false
  | .nil, _ => false
  | .cons a r, x => match asTup x with
    | some (e :: es) => !Γ.hot && (noStar e && chkG Γ a e && chkGs Γ r es)
    | _ => false
def chkGs (Γ : Gam) : T → List Expr → Bool
  | .n _, _ => false
  | .nil, es => es.isEmpty
  | .cons a r, es => match es with
    | e :: es => noStar e && chkG Γ a e && chkGs Γ r es
    | [] => false
end
def ownP (Γ : Gam) (own : List Nat) : List (Str × Nat) := own.map fun i => ((Γ.N[i]?).getD Str.empty, i)
def kComp (stb nI : Bool) (nc : Bool) (k : Kd) : Option Kd := if ((k.stb || (nc && k.nor)) && (stb || (nc && k.nor))) = true then some ⟨k.own, k.stb, true, nI && (nc && k.nor)⟩ else none
mutual
def chk (Γ : Gam) : E → Expr → Ck
  | .c p, x => dfl x (match asC x with
    | some w => match ofC w with
      | some q => if flatEq p q = true then some kC else none
      | none => none
    | none => none)
  | .g y p, x => dfl x (match asN x with
    | some z => if (decide (y = z) && glB Γ z && (match Γ.cs.lookup z with | some q => flatEq p q | none => false)) = true then some kC else none
    | none => none)
  | .fn k, x => dfl x (match asN x with
    | some z => match Γ.sigs[k]? with
      | some s => if (decide (s.x = z) && glB Γ z) = true then some kC else none
      | none => none
    | none => none)
  | .v i, x => dfl x (match asN x with
    | some z => if (visB Γ i z && decide (i ∉ Γ.ms)) = true then some ⟨false, true, false, true⟩ else none
    | none => none)
  | .m i, x => dfl x (match asN x with
    | some z => if visB Γ i z = true then some ⟨false, false, false, true⟩ else none
    | none => none)
  | .mv i, x => dfl x (match asN x with
    | some z => if (visB Γ i z && decide (i ∈ Γ.ms) && (decide (i ≠ 0) || !Γ.br)) = true then some ⟨true, true, false, false⟩ else none
    | none => none)
  | .chk e, x => dfl x ((chk Γ e x).1.map fun k => ⟨true, true, true, k.nor⟩)
  | .chk1 e, x => dfl x (match (chk Γ e x).1 with
    | some k => if k.top = true then some ⟨true, true, true, k.nor⟩ else none
    | none => none)
  | .bin op a b, x => dfl x (match asBin x with
    | some (y, o, z) => if (decide (op = o) && okBin op) = true then kBin (chk Γ a y).1 (chk Γ b z).1 else none
    | none => none)
  | .neg a, x => dfl x (match asUn x with
    | some (.USub, y) => (chk Γ a y).1.map fun k => ⟨true, true, true, k.nor⟩
    | _ => none)
  | .not a, x => match asUn x with
    | some (.Not, y) => ((chk Γ a y).1.map fun k => ⟨true, true, true, k.nor⟩, (chk Γ a y).2)
    | _ => (none, none)
  | .and a b, x => match asBool x with
    | some (.And, y, z, [], _) => (kAnd (chk Γ a y).1 (chk Γ b z).1, tAndB (chk Γ a y).2 (chk Γ b z).2)
    | some (.And, y, z, r :: rs, p) => (kAnd (chk Γ a y).1 (chk Γ b (.BoolOp .And (z :: r :: rs) p)).1, tAndB (chk Γ a y).2 (chk Γ b (.BoolOp .And (z :: r :: rs) p)).2)
    | _ => (none, none)
  | .or a b, x => match asBool x with
    | some (.Or, y, z, [], _) => (kAnd (chk Γ a y).1 (chk Γ b z).1, tAndB (chk Γ a y).2 (chk Γ b z).2)
    | some (.Or, y, z, r :: rs, p) => (kAnd (chk Γ a y).1 (chk Γ b (.BoolOp .Or (z :: r :: rs) p)).1, tAndB (chk Γ a y).2 (chk Γ b (.BoolOp .Or (z :: r :: rs) p)).2)
    | _ => (none, none)
  | .cmp op a b, x => match asCmp x with
    | some (y, o, z) => if (decide (op = o) && behindInMarks op z == false) = true then (kCmp (chk Γ a y).1 (chk Γ b z).1, (kCmp (chk Γ a y).1 (chk Γ b z).1).map (·.nor)) else (none, none)
    | none => (none, none)
  | .cmp2 o1 o2 a b c, x => match asCmp2 x with
    | some (y, p1, p2, z, u) => if (decide (o1 = p1) && decide (o2 = p2) && lastMarks [o1, o2] [z, u] == false) = true then (kCmp2 (chk Γ a y).1 (chk Γ b z).1 (chk Γ c u).1, (kCmp2 (chk Γ a y).1 (chk Γ b z).1 (chk Γ c u).1).map (·.nor)) else (none, none)
    | none => (none, none)
  | .ife c a b, x => match asIf x with
    | some (y, z, u) => (kIf (chk Γ c y).2 (chk Γ a z).1 (chk Γ b u).1, none)
    | none => (none, none)
  | .call k es, x => dfl x (match asCall x with
    | some (y, xs) => match Γ.sigs[k]? with
      | some s => if ((Γ.hot == s.hot) && (s.cl || !Γ.cl) && (!Γ.hot || (!xs.isEmpty && !Γ.cl)) && (decide (s.x = y) && glB Γ y && !s.br && xs.all noStar)) = true then (chks Γ es xs).map fun r => ⟨s.fresh, s.fresh || r.stb, s.fresh, r.nor⟩ else none
      | none => none
    | none => none)
  | .callrm k i j, x => dfl x (match asCall x with
    | some (y, [z, u]) => match Γ.sigs[k]?, asN z, asN u with
      | some s, some w, some t => if ((!Γ.hot && !s.hot && (s.cl || !Γ.cl)) && (decide (s.x = y) && glB Γ y && s.br && visB Γ i w && decide (i ∈ Γ.ms) && visB Γ j t && decide (j ≠ i))) = true then some ⟨s.fresh, false, s.fresh, false⟩ else none
      | _, _, _ => none
    | _ => none)
  | .callr k i es, x => dfl x (match asCall x with
    | some (y, z :: xs) => match Γ.sigs[k]?, asN z with
      | some s, some w => if ((!Γ.hot && !s.hot && (s.cl || !Γ.cl)) && (decide (s.x = y) && glB Γ y && s.br && xs.all noStar && visB Γ i w && decide (i ∈ Γ.ms))) = true then (match chks Γ es xs with
        | some r => if r.stb = true then some ⟨s.fresh, true, s.fresh, false⟩ else none
        | none => none) else none
      | _, _ => none
    | _ => none)
  | .callv i ks es, x => dfl x (match asCall x with
    | some (y, xs) => if (!Γ.hot && visB Γ i y && xs.all noStar && !xs.isEmpty && ks.all fun k => match Γ.sigs[k]? with
        | some s => !s.br && !s.hot && (s.cl || !Γ.cl)
        | none => false) = true then (chks Γ es xs).map fun r => ⟨false, r.stb, false, r.nor⟩ else none
    | none => none)
  | .blt b es, x => dfl x (match asCall x with
    | some (y, xs) => if (!Γ.hot && (decide (y = bltN b) && glB Γ y && xs.all noStar && !xs.isEmpty)) = true then (chks Γ es xs).map fun r => ⟨false, r.stb, bltTop b, r.nor⟩ else none
    | none => none)
  | .mth m o e, x => dfl x (match asMth x with
    | some (z, f, v, px) => if (decide (f = mthN m) && noStar v) = true then (match (chk Γ o (.Name z px)).1, (chk Γ e v).1 with
      | some a, some b => if (a.stb || b.nor) = true then some ⟨true, true, true, a.nor && b.nor⟩ else none
      | _, _ => none) else none
    | none => none)
  | .isi a t, x => dfl x (match asCall x with
    | some (y, [z, u]) => match asN u with
      | some w => if (decide (y = "isinstance") && glB Γ y && decide (w = tyS t) && glB Γ w && (tyN t).isSome && noStar z) = true then (chk Γ a z).1.map fun k => ⟨true, true, true, k.nor⟩ else none
      | none => none
    | _ => none)
  | .attr _, _ => (none, none)
  | .tup es, x => dfl x (match asTup x with
    | some xs => if (decide (xs.length ≤ 1000)) = true then (chks Γ es xs).map fun r => ⟨r.own, r.stb, true, r.nor⟩ else none
    | none => none)
  | .lst es, x => dfl x (match asLst x with
    | some xs => if (decide (xs.length ≤ 1000)) = true then (chks Γ es xs).map fun r => ⟨r.own, r.stb, true, r.nor⟩ else none
    | none => none)
  | .idx a i, x => dfl x (match asSub x with
    | some (y, z) => if (isSlice z == false) = true then kIdx (chk Γ a y).1 (chk Γ i z).1 else none
    | none => none)
  | .sl a lo hi, x => dfl x (match asSl x with
    | some (y, l, h) => kSl (chk Γ a y).1 (chko Γ lo l) (chko Γ hi h)
    | none => none)
  | .rev a, x => dfl x (match asRev x with
    | some y => (chk Γ a y).1.map fun k => ⟨false, k.stb, true, k.nor⟩
    | none => none)
  | .comp own tg it c e, x => dfl x (match asComp x with
    | some (elt, tgE, iter, ifs, sc) => if (!Γ.hot && (blkC Γ.N Γ.sc sc (ownP Γ own) && (own.all fun i => decide (i ∉ Γ.ms)) && (tg.sl.all fun i => decide (i ∈ own)) && notSet iter && chkG (Γ.blk sc) tg tgE)) = true then
        (match chki Γ it tgE iter, chkc (Γ.blk sc) c ifs, (chk (Γ.blk sc) e elt).1 with
        | some (stb, nI), some nc, some k => kComp stb nI nc k
        | _, _, _ => none) else none
    | none => none)
  | .comp2 own tg it c own1 t1 it1 c1 e, x => dfl x (match asComp2 x with
    | some (elt, tgE, iter, ifs, tgE1, iter1, ifs1, sc) => if (!Γ.hot && (blkC Γ.N Γ.sc sc (ownP Γ own) && (own.all fun i => decide (i ∉ Γ.ms)) && (own1.all fun i => decide (i ∈ own)) && (tg.sl.all fun i => decide (i ∈ own)) && (t1.sl.all fun i => decide (i ∈ own1)) && notSet iter && notSet iter1 && chkG (Γ.blk sc) tg tgE && chkG (Γ.blk sc) t1 tgE1)) = true then
        (match chki Γ it tgE iter, chkc (Γ.blk sc) c ifs, chki (Γ.blk sc) it1 tgE1 iter1, chkc (Γ.blk sc) c1 ifs1, (chk (Γ.blk sc) e elt).1 with
        | some (true, _), some _, some (true, _), some _, some k => if k.stb = true then some ⟨k.own, true, true, false⟩ else none
        | _, _, _, _, _ => none) else none
    | none => none)
  | .isx i c, x => dfl x (match asCall x with
    | some (y, [z, u]) => match asN z, asN u with
      | some n, some w => if (Γ.hot && decide (y = "isinstance") && glB Γ y && visB Γ i n && glB Γ w && (match c with
        | none => decide (w = "ValueError")
        | some c => match Γ.xs[c]? with
          | some t => decide (t.x = w)
          | none => false)) = true then some kC else none
      | _, _ => none
    | _ => none)
  | .fld i cs, x => dfl x (match asAttr x with
    | some (z, f) => match asN z with
      | some n => if (Γ.hot && visB Γ i n && cs.all fun c => match Γ.xs[c]? with
        | some t => decide (t.f = f)
        | none => false) = true then some ⟨false, false, false, true⟩ else none
      | none => none
    | none => none)
def chks (Γ : Gam) : Es → List Expr → Option Ka
  | .nil, xs => match xs with
    | [] => some ⟨true, true, true, 0⟩
    | _ => none
  | .cons e es, xs => match xs with
    | x :: xs => if noStar x = true then kCons (chk Γ e x).1 (chks Γ es xs) else none
    | [] => none
def chko (Γ : Gam) : OE → Option Expr → Option Bool
  | .no, x => match x with
    | none => some true
    | some _ => none
  | .so e, x => match x with
    | some y => (chk Γ e y).1.map (·.nor)
    | none => none
def chkc (Γ : Gam) : OE → List Expr → Option Bool
  | .no, xs => match xs with
    | [] => some true
    | _ => none
  | .so e, xs => match xs with
    | [y] => (chk Γ e y).2
    | _ => none
def chki (Γ : Gam) : It → Expr → Expr → Option (Bool × Bool)
  | .e a, _, x => match (chk Γ a x).1 with
    | some k => if k.stb = true then some (true, k.nor) else none
    | none => none
  | .m a, _, x => (chk Γ a x).1.map fun k => (false, k.nor)
  | .rng es, _, x => match asCall x with
    | some (y, xs) => if (decide (y = "range") && glB Γ y && xs.all noStar && (decide (xs.length = 1) || decide (xs.length = 2) || decide (xs.length = 3))) = true then (chks Γ es xs).map fun r => (true, r.nor) else none
    | none => none
  | .enum a, tg, x => match asCall x, asTup tg with
    | some (y, [z]), some _ => if (decide (y = "enumerate") && glB Γ y && noStar z) = true then (match (chk Γ a z).1 with
      | some k => if k.stb = true then some (true, k.nor) else none
      | none => none) else none
    | _, _ => none
  | .zip es, tg, x => match asCall x, asTup tg with
    | some (y, xs), some _ => if (decide (y = "zip") && glB Γ y && xs.all noStar && decide (xs.length = 2)) = true then (match chks Γ es xs with
      | some r => if r.stb = true then some (true, r.nor) else none
      | none => none) else none
    | _, _ => none
end
end Ev

/-! EvC1: the checker's word on expressions holds. -/
namespace Ev
open PySem PySem.Spec PyProof.Rows L2
def vOf : PV → V
  | .bl b => .bl b
  | .int i => .int i
  | .str s => .str s
  | _ => .non
/-- what the head tells of the class c of errors -/
structure XFact (P : Program) (K : PySem.W.Frag) (mg : Str → Option Value) (xs : List XSig) (cls : Nat → Addr) (c : Nat) (s : XSig) : Prop where
  glo : mg s.x = some (.ref (cls c))
  exm : ∀ d t, xs[d]? = some t → PySem.W.exmOne K (.ref (cls d)) (.ref (cls c)) = some (c == 0 || c == d)
  kit : ∀ d t, xs[d]? = some t → PySem.W.kitOne K (.ref (cls d)) (.ref (cls c)) = some (c == 0 || c == d)
  kiv : PySem.W.kitOne K (.ref (cls c)) (.type "ValueError") = some true
  ec : L2.ExcC K (cls c)
  xf : XfC K (cls c)
  noat : PySem.W.findIn K (.ref (cls c)) s.f = some none
  made : c ≠ 0 → ∃ fI F q, XCls P K (cls c) fI F q s.f ∧ ∀ doc pm ctv, Binds K (NdefX.NF.fd F doc pm ctv) ["self", s.f] []
/-- the exceptions of a def: with no context (cl), any -/
def cxS (cl : Bool) (P : Program) (w : World) : CXT := if cl = true then L2N.CX P w else L2.CX P w
structure OkX (Γ : Gam) (n : Nat) (C : Calls) (X : Cx) (R : Fr0) (W : WXX) : Prop where
  N : X.N = Γ.N
  nd : X.N.Nodup
  sc : X.env.scope = Γ.sc
  fn : ∀ x, Γ.fn x = true → X.fn x = true
  calm : Γ.hot = false → X.calm = true
  K : R.G.K = X.K
  ms : R.ms = Γ.ms
  br : R.br = Γ.br
  pin : ∀ i, i ∉ Γ.pins → R.pin i = none
  gu : X.A.guards = some []
  n2 : 2 ≤ n
  un : X.A.units + 67 < cLine
  room : Γ.hot = false → Room n X.A
  tkn : L2N.Takes X W
  tk : Γ.cl = false → L2.Takes X W
  pa : Γ.tf = true → ∀ hd : Option Value, PassesOwnAt (model X.prog X.w) (X.A.mark hd) X.A X.env X.xe
  rm : L2H.RoomH n X.A
  blt : ∀ x ∈ bltNames, X.mg x = none
  cs : ∀ x p, Γ.cs.lookup x = some p → p.lf = true → ∃ u, X.mg x = some u ∧ RelV (vOf p) u
  xs : ∀ c s, Γ.xs[c]? = some s → XFact X.prog X.K X.mg Γ.xs R.cls c s ∧ R.G.fld c = s.f
  ex : ∀ a c d, R.G.ex = some (a, c, d) → (X.A.handled = some (.ref a) ∧ ∃ oe, (a, oe) ∈ X.pn ∧ Zc (.ref (R.cls c)) (some d) oe ∧ ∃ vs, oe.data = .fields vs) ∧ ∃ s, Γ.xs[c]? = some s
  exh : Γ.hot = true → ∃ e, R.G.ex = some e
  exn : Γ.hot = false → R.G.ex = none
  glo : ∀ k s, Γ.sigs[k]? = some s → X.mg s.x = some (.ref (R.G.fa k))
  call : Γ.hot = false → ∀ k s, Γ.sigs[k]? = some s → s.hot = false → (∃ fd ps, X.mg s.x = some (.ref (R.G.fa k)) ∧ PySem.W.keepIn X.K (.ref (R.G.fa k)) = true ∧ Binds X.K fd ps [] ∧ FnG X.prog X.w X.K X.mg X.base (cxS s.cl X.prog X.w) n (R.G.fa k) fd ps (spE R.G R.cls (C k) s.br s.fresh s.np)) ∧ ∀ args, C k args ≠ .fail → args.length = s.np
  hcall : ∀ k s, Γ.sigs[k]? = some s → s.hot = true → (∃ fd ps, X.mg s.x = some (.ref (R.G.fa k)) ∧ PySem.W.keepIn X.K (.ref (R.G.fa k)) = true ∧ Binds X.K fd ps [] ∧ FnX X.prog X.w X.K X.mg X.base n (R.G.fa k) fd ps R.cls (fun d => ∃ t, Γ.xs[d]? = some t) (fun ex => spE (R.G.on ex) R.cls (C k) false s.fresh s.np)) ∧ ∀ args, C k args ≠ .fail → args.length = s.np
section
variable {Γ : Gam} {n : Nat} {C : Calls} {X : Cx} {R : Fr0} {W : WXX}
theorem OkX.vis (o : OkX Γ n C X R W) {i : Nat} {x : Str} (h : visB Γ i x = true) : X.N[i]? = some x ∧ Vis X.env.scope x ∧ (x == ("__debug__" : Str)) = false ∧ (x == ("__classdict__" : Str)) = false := by
  unfold visB at h
  simp only [Bool.and_eq_true, decide_eq_true_eq, beq_iff_eq] at h
  obtain ⟨⟨⟨h1, h2⟩, h3⟩, h4⟩ := h
  refine ⟨by rw [o.N]; exact h1, ?_, h3, h4⟩
  unfold Vis
  rw [o.sc]
  split at h2 <;> first | (rename_i e; first | exact .inl e | exact .inr (.inl e) | exact .inr (.inr e)) | cases h2
theorem OkX.loc (o : OkX Γ n C X R W) {i : Nat} {x : Str} (h : locB Γ i x = true) : X.N[i]? = some x ∧ L2.Loc X.env.scope x ∧ (X.fn x = true ∨ X.env.scope.names.lookup x = some .local) := by
  unfold locB at h
  simp only [Bool.and_eq_true, decide_eq_true_eq] at h
  obtain ⟨h1, h2⟩ := h
  refine ⟨by rw [o.N]; exact h1, ?_⟩
  unfold L2.Loc
  rw [o.sc]
  split at h2
  · rename_i e; exact ⟨.inl e, .inr e⟩
  · rename_i e; exact ⟨.inr e, .inl (o.fn x h2)⟩
  · cases h2
theorem OkX.gl (o : OkX Γ n C X R W) {x : Str} (h : glB Γ x = true) : Gl X x ∧ (x == ("__debug__" : Str)) = false ∧ x ≠ "__name__" := by
  unfold glB at h
  simp only [Bool.and_eq_true, decide_eq_true_eq, beq_iff_eq] at h
  obtain ⟨⟨h1, h2⟩, h3⟩ := h
  refine ⟨?_, h2, h3⟩
  show X.env.scope.names.lookup x = _
  rw [o.sc]; exact h1
theorem OkX.pass (o : OkX Γ n C X R W) {cl : Bool} (h : (cl || !Γ.cl) = true) : ∀ σ, PassesAt (cxS cl X.prog X.w) X σ (WE W σ) := by
  cases cl with
  | true => exact L2N.passAt o.tkn
  | false => exact L2.passAt (o.tk (by simpa using h))
theorem OkX.units (o : OkX Γ n C X R W) : X.A.units + 67 < cLine := o.un
theorem pe_congr {e : Expr} {kd : Kd} {f g : Env → Res (PV × Env)} (h : PE X e (rdE R W kd f)) (e' : ∀ env, f env = g env) : PE X e (rdE R W kd g) := by
  have : f = g := funext e'
  rw [← this]; exact h
theorem ofC_flat {w : Const} {q : PV} (h : ofC w = some q) : True := trivial
theorem ev_c' {w : Const} {j : Nat} {p : PV} {pos : Pos} {kd : Kd} (h : ofC w = some p) : PE X (.Constant w j pos) (rdE R W kd fun env => .ok (p, env)) :=
  pe_congr (ev_c (c := w)) fun env => by rw [h]; rfl
theorem rep_vOf {p q : PV} (h : flatEq p q = true) (H : Hp) : RepF R.G H p (vOf p) [] := by
  cases p <;> cases q <;> simp_all [flatEq, RepF, vOf]
theorem flat_lf {p q : PV} (h : flatEq p q = true) : p.lf = true := by
  cases p <;> cases q <;> simp_all [flatEq, PV.lf]
theorem bin_op (hK : R.G.K = X.K) {op : Operator} (h : okBin op = true) : OpR X (binaryOp op) (rBin R.G op) := by
  cases op with
  | Add => exact op_addP hK
  | Sub => exact op_subP
  | Mult => exact op_mulP hK
  | FloorDiv => exact op_fdivP
  | Mod => exact op_modP
  | Pow => exact op_powP
  | LShift => exact op_shlP
  | RShift => exact op_shrP
  | BitAnd => exact op_andP
  | BitOr => exact op_orP
  | BitXor => exact op_xorP
  | _ => cases h
/-! ### the checker's word -/
def ChkOk (C : Calls) (X : Cx) (R : Fr0) (W : WXX) (a : E) (x : Expr) (r : Ck) : Prop :=
  (∀ kd, r.1 = some kd → PE X x (rdE R W kd (evalE C a))) ∧ ∀ m, r.2 = some m → PT X x (rdT R W m (evalE C a)) ∧ ∀ op es p, x = .BoolOp op es p → PW X x (rdT R W m (evalE C a))
theorem dfl_ok {a : E} {x : Expr} {k : Option Kd} (o : OkX Γ n C X R W) (h : ∀ kd, k = some kd → PE X x (rdE R W kd (evalE C a))) : ChkOk C X R W a x (dfl x k) := by
  refine ⟨h, fun m e => ?_⟩
  unfold dfl at e
  by_cases c : plainT x = true
  · simp only [c, if_true] at e
    cases hk : k with
    | none => rw [hk] at e; cases e
    | some kd =>
      rw [hk] at e
      cases e
      exact ⟨ev_tru o.K c (h kd hk), fun op es p ex => (by rw [ex] at c; cases c)⟩
  · simp only [c] at e
    cases e
theorem none_ok {a : E} {x : Expr} : ChkOk C X R W a x (none, none) := ⟨fun _ h => (nomatch h), fun _ h => (nomatch h)⟩
theorem pe_one {op : BoolOp} {y : Expr} {p : Pos} {t : TE} (h : PE X y t) : PE X (.BoolOp op [y] p) t := ⟨fun pins s σ H Q I q => h.run pins s σ H Q I q⟩
theorem vN (o : OkX Γ n C X R W) {i : Nat} (h : i ∉ Γ.ms) : i ∉ R.ms := by rw [o.ms]; exact h
theorem vNy (o : OkX Γ n C X R W) {i : Nat} (h : i ∈ Γ.ms) : i ∈ R.ms := by rw [o.ms]; exact h
theorem blt_of (o : OkX Γ n C X R W) (hh : Γ.hot = false) (b : Blt) : (∃ id, bootBuiltins (bltN b) = some (.builtin id) ∧ CallR X (.builtin id) (rBlt R.G b (bltTop b))) ∨ ∃ id, bootBuiltins (bltN b) = some (.type id) ∧ CallR X (.type id) (rBlt R.G b (bltTop b)) := by
  have u := o.units
  cases b with
  | len => exact .inl ⟨"len", by with_unfolding_all rfl, blt_len o.K⟩
  | tuple => exact .inr ⟨"tuple", by with_unfolding_all rfl, blt_tuple o.K⟩
  | list => exact .inr ⟨"list", by with_unfolding_all rfl, blt_list o.K⟩
  | sum => exact .inl ⟨"sum", by with_unfolding_all rfl, blt_sum o.K (o.calm hh)⟩
  | all => exact .inl ⟨"all", by with_unfolding_all rfl, blt_all o.K (o.calm hh)⟩
  | any => exact .inl ⟨"any", by with_unfolding_all rfl, blt_any o.K (o.calm hh)⟩
  | min => exact .inl ⟨"min", by with_unfolding_all rfl, blt_min o.K (o.calm hh) (by omega)⟩
  | max => exact .inl ⟨"max", by with_unfolding_all rfl, blt_max o.K (o.calm hh) (by omega)⟩
  | sorted => exact .inl ⟨"sorted", by with_unfolding_all rfl, blt_sorted o.K (by omega)⟩
  | abs => exact .inl ⟨"abs", by with_unfolding_all rfl, blt_abs⟩
  | int => exact .inr ⟨"int", by with_unfolding_all rfl, blt_int⟩
  | repr => exact .inl ⟨"repr", by with_unfolding_all rfl, blt_repr o.K o.gu (by omega)⟩
  | str => exact .inr ⟨"str", by with_unfolding_all rfl, blt_str⟩
  | bool => exact .inr ⟨"bool", by with_unfolding_all rfl, blt_bool⟩
theorem bltN_mem (b : Blt) : bltN b ∈ bltNames := by
  cases b <;> decide +kernel
theorem ty_of {t : Ty} {m : String} (h : tyN t = some m) : tyS t ∈ bltNames ∧ bootBuiltins (tyS t) = some (.type m) := by
  cases t <;> cases h
  · exact ⟨by decide +kernel, by with_unfolding_all rfl⟩
  · exact ⟨by decide +kernel, by with_unfolding_all rfl⟩
  · exact ⟨by decide +kernel, by with_unfolding_all rfl⟩
  · exact ⟨by decide +kernel, by with_unfolding_all rfl⟩
  · exact ⟨by decide +kernel, by with_unfolding_all rfl⟩
mutual
theorem chkG_ok {Γ : Gam} {n : Nat} {C : Calls} {X : Cx} {R : Fr0} {W : WXX} (o : OkX Γ n C X R W) : ∀ (t : T) (x : Expr), chkG Γ t x = true → PG X x (rdG R t) ∧ noStar x = true
  | .n i, x, h => by
    simp only [chkG] at h
    split at h
    · rename_i y e
      obtain ⟨p, rfl⟩ := asN_eq e
      obtain ⟨h1, h2⟩ := Bool.and_eq_true_iff.mp h
      obtain ⟨l1, l2, l3⟩ := o.loc h1
      exact ⟨tg_n o.nd l1 l2 l3 (vN o (of_decide_eq_true h2)), rfl⟩
    · cases h
  | .nil, x, h => by simp [chkG] at h
  | .cons a r, x, h => by
    simp only [chkG] at h
    split at h
    · rename_i e es e'
      obtain ⟨k, p, rfl⟩ := asTup_eq e'
      simp only [Bool.and_eq_true, Bool.not_eq_true'] at h
      obtain ⟨hh, ⟨h1, h2⟩, h3⟩ := h
      obtain ⟨g1, _⟩ := chkG_ok o a e h2
      obtain ⟨g2, sp, ln, st⟩ := chkGs_ok o r es h3
      exact ⟨tg_tup o.K (o.calm hh) (tgs_cons h1 g1 g2) sp (by rw [assignEach_cons h1, List.length_cons, ln]; rfl) (by rw [assignEach_cons h1, List.findIdx?_cons, st]; rfl), rfl⟩
    · cases h
theorem chkGs_ok {Γ : Gam} {n : Nat} {C : Calls} {X : Cx} {R : Fr0} {W : WXX} (o : OkX Γ n C X R W) : ∀ (t : T) (es : List Expr), chkGs Γ t es = true → PGs X es (rdGs R t) ∧ t.sp = true ∧ (∀ env, (assignEach es env).length = t.len) ∧ ∀ env, (assignEach es env).findIdx? (·.1) = none
  | .n _, _, h => by simp [chkGs] at h
  | .nil, es, h => by
    simp only [chkGs, List.isEmpty_iff] at h
    subst h
    exact ⟨tgs_nil, rfl, fun _ => rfl, fun _ => rfl⟩
  | .cons a r, [], h => by simp [chkGs] at h
  | .cons a r, e :: es, h => by
    simp only [chkGs, Bool.and_eq_true] at h
    obtain ⟨⟨h1, h2⟩, h3⟩ := h
    obtain ⟨g1, _⟩ := chkG_ok o a e h2
    obtain ⟨g2, sp, ln, st⟩ := chkGs_ok o r es h3
    refine ⟨tgs_cons h1 g1 g2, sp, fun env => ?_, fun env => ?_⟩
    · rw [assignEach_cons h1, List.length_cons, ln]; rfl
    · rw [assignEach_cons h1, List.findIdx?_cons, st]; rfl
end
end
end Ev

/-! EvC2: the checker's word on expressions holds. -/
namespace Ev
open PySem PySem.Spec PyProof.Rows L2
theorem map_some {α β : Type} {o : Option α} {f : α → β} {b : β} (h : o.map f = some b) : ∃ a, o = some a ∧ f a = b := by
  cases o with
  | none => cases h
  | some a => cases h; exact ⟨a, rfl, rfl⟩
theorem kBin_inv {a b : Option Kd} {k : Kd} (h : kBin a b = some k) : ∃ x y, a = some x ∧ b = some y ∧ (x.stb || y.nor) = true ∧ k = ⟨false, x.stb && y.stb, true, x.nor && y.nor⟩ := by
  unfold kBin at h
  split at h
  · split at h
    · cases h; exact ⟨_, _, rfl, rfl, ‹_›, rfl⟩
    · cases h
  · cases h
theorem kCmp_inv {a b : Option Kd} {k : Kd} (h : kCmp a b = some k) : ∃ x y, a = some x ∧ b = some y ∧ (x.stb || y.nor) = true ∧ k = ⟨true, true, true, x.nor && y.nor⟩ := by
  unfold kCmp at h
  split at h
  · split at h
    · cases h; exact ⟨_, _, rfl, rfl, ‹_›, rfl⟩
    · cases h
  · cases h
theorem kCmp2_inv {a b c : Option Kd} {k : Kd} (h : kCmp2 a b c = some k) : ∃ x y z, a = some x ∧ b = some y ∧ c = some z ∧ (x.stb || y.nor) = true ∧ (y.stb || z.nor) = true ∧ k = ⟨true, true, true, x.nor && y.nor && z.nor⟩ := by
  unfold kCmp2 at h
  split at h
  · split at h
    · rename_i e
      obtain ⟨e1, e2⟩ := Bool.and_eq_true_iff.mp e
      cases h; exact ⟨_, _, _, rfl, rfl, rfl, e1, e2, rfl⟩
    · cases h
  · cases h
theorem kAnd_inv {a b : Option Kd} {k : Kd} (h : kAnd a b = some k) : ∃ x y, a = some x ∧ b = some y ∧ k = ⟨false, x.stb && y.stb, false, x.nor && y.nor⟩ := by
  unfold kAnd at h
  split at h
  · cases h; exact ⟨_, _, rfl, rfl, rfl⟩
  · cases h
theorem tAnd_inv {a b : Option Bool} {k : Bool} (h : tAndB a b = some k) : ∃ x y, a = some x ∧ b = some y ∧ k = (x && y) := by
  unfold tAndB at h
  split at h
  · cases h; exact ⟨_, _, rfl, rfl, rfl⟩
  · cases h
theorem kIdx_inv {a b : Option Kd} {k : Kd} (h : kIdx a b = some k) : ∃ x y, a = some x ∧ b = some y ∧ (x.stb || y.nor) = true ∧ k = ⟨false, x.stb, false, x.nor && y.nor⟩ := by
  unfold kIdx at h
  split at h
  · split at h
    · cases h; exact ⟨_, _, rfl, rfl, ‹_›, rfl⟩
    · cases h
  · cases h
theorem kSl_inv {a : Option Kd} {b c : Option Bool} {k : Kd} (h : kSl a b c = some k) : ∃ x n1 n2, a = some x ∧ b = some n1 ∧ c = some n2 ∧ (x.stb || (n1 && n2)) = true ∧ k = ⟨false, x.stb, true, x.nor && (n1 && n2)⟩ := by
  unfold kSl at h
  split at h
  · split at h
    · cases h; exact ⟨_, _, _, rfl, rfl, rfl, ‹_›, rfl⟩
    · cases h
  · cases h
theorem kIf_inv {c : Option Bool} {a b : Option Kd} {k : Kd} (h : kIf c a b = some k) : ∃ m x y, c = some m ∧ a = some x ∧ b = some y ∧ k = ⟨x.own && y.own && m, x.stb && y.stb, x.top && y.top, m && x.nor && y.nor⟩ := by
  unfold kIf at h
  split at h
  · cases h; exact ⟨_, _, _, rfl, rfl, rfl, rfl⟩
  · cases h
theorem kCons_inv {a : Option Kd} {b : Option Ka} {k : Ka} (h : kCons a b = some k) : ∃ x y, a = some x ∧ b = some y ∧ (x.stb || y.nor) = true ∧ k = ⟨x.own && y.own, x.stb && y.stb, x.nor && y.nor, y.len + 1⟩ := by
  unfold kCons at h
  split at h
  · split at h
    · cases h; exact ⟨_, _, rfl, rfl, ‹_›, rfl⟩
    · cases h
  · cases h
theorem kComp_inv {stb nI nc : Bool} {k kd : Kd} (h : kComp stb nI nc k = some kd) : (k.stb || (nc && k.nor)) = true ∧ (stb || (nc && k.nor)) = true ∧ kd = ⟨k.own, k.stb, true, nI && (nc && k.nor)⟩ := by
  unfold kComp at h
  split at h
  · rename_i e
    obtain ⟨e1, e2⟩ := Bool.and_eq_true_iff.mp e
    cases h; exact ⟨e1, e2, rfl⟩
  · cases h
theorem ite_some {α : Type} {c : Bool} {a b : α} (h : (if c = true then some a else none) = some b) : c = true ∧ a = b := by
  by_cases e : c = true
  · rw [if_pos e] at h; cases h; exact ⟨e, rfl⟩
  · rw [if_neg e] at h; cases h
theorem tk0 {X : Cx} : L2.Takes X (fun _ _ _ _ => False) := fun _ _ x => by
  obtain ⟨_, _, _, _, _, _, _, _, _, _, _, _, _, _, _, _, z⟩ := x
  exact z.elim
def RowChk (C : Calls) (X : Cx) (R : Fr0) (W : WXX) (es : Es) (xs : List Expr) (r : Ka) : Prop :=
  PA X xs (rdA R W r.own r.stb r.nor (evalEs C es)) ∧ ∀ env q, evalEs C es env = .ok q → q.1.length = xs.length
theorem ownP_snd {Γ : Gam} {own : List Nat} : (ownP Γ own).map (·.2) = own := by
  unfold ownP
  rw [List.map_map]
  exact List.map_id' _
theorem OkX.blk {Γ : Gam} {n : Nat} {C : Calls} {X : Cx} {R : Fr0} {W : WXX} (o : OkX Γ n C X R W) (hh : Γ.hot = false) (D : Addr) (s : Shared) (H : Hp) (cc : Addr) (cl : List (Str × Addr)) (fp : List Addr) (scope : Scope) : OkX (Γ.blk scope) n C (X.blk s H scope (compEnvC scope cl cc X.env) fp) (R.hide D) (fun _ _ _ _ => False) where
  N := o.N
  nd := o.nd
  sc := by
    show relabel scope X.env = relabelS scope Γ.sc
    rw [← o.sc]; rfl
  fn := fun x h => h
  calm := o.calm
  K := o.K
  ms := o.ms
  br := o.br
  pin := o.pin
  gu := o.gu
  n2 := o.n2
  un := o.un
  room := o.room
  tkn := takes_n tk0
  tk := fun _ => tk0
  pa := fun z => Bool.noConfusion z
  rm := o.rm
  blt := o.blt
  cs := o.cs
  xs := o.xs
  ex := fun a c d e => by rw [show (R.hide D).G.ex = R.G.ex from rfl, o.exn hh] at e; cases e
  exh := o.exh
  exn := o.exn
  glo := o.glo
  call := o.call
  hcall := o.hcall
mutual
theorem chk_ok (C : Calls) : ∀ (a : E) {Γ : Gam} {n : Nat} {X : Cx} {R : Fr0} {W : WXX} (_ : OkX Γ n C X R W) (x : Expr), ChkOk C X R W a x (chk Γ a x)
  | .c p, Γ, n, X, R, W, o, x => by
    refine dfl_ok o fun kd h => ?_
    split at h
    · rename_i w e
      obtain ⟨j, ps, rfl⟩ := asC_eq e
      split at h
      · rename_i q e2
        split at h
        · rename_i f
          cases h
          rw [flatEq_eq f]
          exact ev_c' e2
        · cases h
      · cases h
    · cases h
  | .g y p, Γ, n, X, R, W, o, x => by
    refine dfl_ok o fun kd h => ?_
    split at h
    · rename_i z e
      obtain ⟨ps, rfl⟩ := asN_eq e
      obtain ⟨f, rfl⟩ := ite_some h
      simp only [Bool.and_eq_true, decide_eq_true_eq] at f
      obtain ⟨⟨rfl, f2⟩, f3⟩ := f
      split at f3
      · rename_i q e3
        obtain ⟨g1, g2, g3⟩ := o.gl f2
        have pq := flatEq_eq f3
        subst pq
        obtain ⟨u, hu, ru⟩ := o.cs y p e3 (flat_lf f3)
        exact ev_g g1 hu ru (rep_vOf f3) g2
      · cases f3
    · cases h
  | .fn k, Γ, n, X, R, W, o, x => by
    refine dfl_ok o fun kd h => ?_
    split at h
    · rename_i z e
      obtain ⟨p, rfl⟩ := asN_eq e
      split at h
      · rename_i sg es'
        split at h
        · rename_i f
          simp only [Bool.and_eq_true, decide_eq_true_eq] at f
          obtain ⟨rfl, f2⟩ := f
          cases h
          obtain ⟨g1, g2, g3⟩ := o.gl f2
          exact ev_g (p := .fn k) (v := .ref (R.G.fa k)) g1 (o.glo k sg es') rfl (fun _ => ⟨rfl, rfl⟩) g2
        · cases h
      · cases h
    · cases h
  | .v i, Γ, n, X, R, W, o, x => by
    refine dfl_ok o fun kd h => ?_
    split at h
    · rename_i z e
      obtain ⟨ps, rfl⟩ := asN_eq e
      split at h
      · rename_i f
        cases h
        obtain ⟨f1, f2⟩ := Bool.and_eq_true_iff.mp f
        obtain ⟨v1, v2, v3, v4⟩ := o.vis f1
        exact ev_v v1 v2 (vN o (of_decide_eq_true f2)) v3 v4
      · cases h
    · cases h
  | .m i, Γ, n, X, R, W, o, x => by
    refine dfl_ok o fun kd h => ?_
    split at h
    · rename_i z e
      obtain ⟨ps, rfl⟩ := asN_eq e
      split at h
      · rename_i f
        cases h
        obtain ⟨v1, v2, v3, v4⟩ := o.vis f
        exact ev_m v1 v2 v3 v4
      · cases h
    · cases h
  | .mv i, Γ, n, X, R, W, o, x => by
    refine dfl_ok o fun kd h => ?_
    split at h
    · rename_i z e
      obtain ⟨ps, rfl⟩ := asN_eq e
      split at h
      · rename_i f
        cases h
        simp only [Bool.and_eq_true, Bool.or_eq_true, decide_eq_true_eq, Bool.not_eq_true'] at f
        obtain ⟨⟨f1, f2⟩, f3⟩ := f
        obtain ⟨v1, v2, v3, v4⟩ := o.vis f1
        exact ev_mv v1 v2 (vNy o f2) (f3.imp id fun z => by rw [o.br]; exact z) v3 v4
      · cases h
    · cases h
  | .chk e, Γ, n, X, R, W, o, x => by
    refine dfl_ok o fun kd h => ?_
    obtain ⟨k, hk, rfl⟩ := map_some h
    exact ev_chk ((chk_ok C e o x).1 k hk)
  | .chk1 e, Γ, n, X, R, W, o, x => by
    refine dfl_ok o fun kd h => ?_
    split at h
    · rename_i k hk
      split at h
      · rename_i ht
        cases h
        exact ev_chk1 ht ((chk_ok C e o x).1 k hk)
      · cases h
    · cases h
  | .bin op a b, Γ, n, X, R, W, o, x => by
    refine dfl_ok o fun kd h => ?_
    split at h
    · rename_i y op' z e
      obtain ⟨ps, rfl⟩ := asBin_eq e
      split at h
      · rename_i f
        obtain ⟨f1, f2⟩ := Bool.and_eq_true_iff.mp f
        obtain rfl := of_decide_eq_true f1
        obtain ⟨k1, k2, h1, h2, hc, rfl⟩ := kBin_inv h
        exact ev_bin (bin_op o.K f2) ((chk_ok C a o y).1 k1 h1) ((chk_ok C b o z).1 k2 h2) hc
      · cases h
    · cases h
  | .neg a, Γ, n, X, R, W, o, x => by
    refine dfl_ok o fun kd h => ?_
    split at h
    · rename_i y e
      obtain ⟨ps, rfl⟩ := asUn_eq e
      obtain ⟨k, hk, rfl⟩ := map_some h
      exact ev_neg ((chk_ok C a o y).1 k hk)
    · cases h
  | .not a, Γ, n, X, R, W, o, x => by
    unfold chk
    split
    · rename_i y e
      obtain ⟨ps, rfl⟩ := asUn_eq e
      refine ⟨fun kd h => ?_, fun m h => ⟨ev_notT ((chk_ok C a o y).2 m h).1, fun op es p ex => (nomatch ex)⟩⟩
      obtain ⟨k, hk, rfl⟩ := map_some h
      exact ev_not o.K ((chk_ok C a o y).1 k hk)
    · exact none_ok
  | .and a b, Γ, n, X, R, W, o, x => by
    unfold chk
    split
    · rename_i y z p e
      have ex := asBool_eq e
      subst ex
      refine ⟨fun kd h => ?_, fun m h => ?_⟩
      · obtain ⟨k1, k2, h1, h2, rfl⟩ := kAnd_inv h
        exact ev_and o.K ((chk_ok C a o y).1 k1 h1) (pe_one ((chk_ok C b o z).1 k2 h2))
      · obtain ⟨m1, m2, h1, h2, rfl⟩ := tAnd_inv h
        have w := ev_andW ((chk_ok C a o y).2 m1 h1).1 (pw_and1 (pos := p) ((chk_ok C b o z).2 m2 h2).1)
        exact ⟨w.pt, fun op es p' ex => by cases ex; exact w⟩
    · rename_i y z r rs p e
      have ex := asBool_eq e
      subst ex
      refine ⟨fun kd h => ?_, fun m h => ?_⟩
      · obtain ⟨k1, k2, h1, h2, rfl⟩ := kAnd_inv h
        exact ev_and o.K ((chk_ok C a o y).1 k1 h1) ((chk_ok C b o _).1 k2 h2)
      · obtain ⟨m1, m2, h1, h2, rfl⟩ := tAnd_inv h
        have w := ev_andW ((chk_ok C a o y).2 m1 h1).1 (((chk_ok C b o _).2 m2 h2).2 _ _ _ rfl)
        exact ⟨w.pt, fun op es p' ex => by cases ex; exact w⟩
    · exact none_ok
  | .or a b, Γ, n, X, R, W, o, x => by
    unfold chk
    split
    · rename_i y z p e
      have ex := asBool_eq e
      subst ex
      refine ⟨fun kd h => ?_, fun m h => ?_⟩
      · obtain ⟨k1, k2, h1, h2, rfl⟩ := kAnd_inv h
        exact ev_or o.K ((chk_ok C a o y).1 k1 h1) (pe_one ((chk_ok C b o z).1 k2 h2))
      · obtain ⟨m1, m2, h1, h2, rfl⟩ := tAnd_inv h
        have w := ev_orW ((chk_ok C a o y).2 m1 h1).1 (pw_or1 (pos := p) ((chk_ok C b o z).2 m2 h2).1)
        exact ⟨w.pt, fun op es p' ex => by cases ex; exact w⟩
    · rename_i y z r rs p e
      have ex := asBool_eq e
      subst ex
      refine ⟨fun kd h => ?_, fun m h => ?_⟩
      · obtain ⟨k1, k2, h1, h2, rfl⟩ := kAnd_inv h
        exact ev_or o.K ((chk_ok C a o y).1 k1 h1) ((chk_ok C b o _).1 k2 h2)
      · obtain ⟨m1, m2, h1, h2, rfl⟩ := tAnd_inv h
        have w := ev_orW ((chk_ok C a o y).2 m1 h1).1 (((chk_ok C b o _).2 m2 h2).2 _ _ _ rfl)
        exact ⟨w.pt, fun op es p' ex => by cases ex; exact w⟩
    · exact none_ok
  | .cmp op a b, Γ, n, X, R, W, o, x => by
    unfold chk
    split
    · rename_i y op' z e
      obtain ⟨ps, rfl⟩ := asCmp_eq e
      split
      · rename_i f
        simp only [Bool.and_eq_true, decide_eq_true_eq, beq_iff_eq] at f
        obtain ⟨rfl, f2⟩ := f
        have u := o.units
        refine ⟨fun kd h => ?_, fun m h => ?_⟩
        · obtain ⟨k1, k2, h1, h2, hc, rfl⟩ := kCmp_inv h
          exact ev_cmp o.K (by omega) ((chk_ok C a o y).1 k1 h1) ((chk_ok C b o z).1 k2 h2) hc f2
        · obtain ⟨k, hk, rfl⟩ := map_some h
          obtain ⟨k1, k2, h1, h2, hc, rfl⟩ := kCmp_inv hk
          exact ⟨ev_cmpT o.K (by omega) ((chk_ok C a o y).1 k1 h1) ((chk_ok C b o z).1 k2 h2) hc f2, fun op es p ex => (nomatch ex)⟩
      · exact none_ok
    · exact none_ok
  | .cmp2 o1 o2 a b c, Γ, n, X, R, W, o, x => by
    unfold chk
    split
    · rename_i y p1 p2 z t e
      obtain ⟨ps, rfl⟩ := asCmp2_eq e
      split
      · rename_i f
        simp only [Bool.and_eq_true, decide_eq_true_eq, beq_iff_eq] at f
        obtain ⟨⟨rfl, rfl⟩, f2⟩ := f
        have u := o.units
        refine ⟨fun kd h => ?_, fun m h => ?_⟩
        · obtain ⟨k1, k2, k3, h1, h2, h3, hc, hd, rfl⟩ := kCmp2_inv h
          exact ev_cmp2 o.K (by omega) ((chk_ok C a o y).1 k1 h1) ((chk_ok C b o z).1 k2 h2) ((chk_ok C c o t).1 k3 h3) hc hd f2
        · obtain ⟨k, hk, rfl⟩ := map_some h
          obtain ⟨k1, k2, k3, h1, h2, h3, hc, hd, rfl⟩ := kCmp2_inv hk
          exact ⟨ev_cmp2T o.K (by omega) ((chk_ok C a o y).1 k1 h1) ((chk_ok C b o z).1 k2 h2) ((chk_ok C c o t).1 k3 h3) hc hd f2, fun op es p ex => (nomatch ex)⟩
      · exact none_ok
    · exact none_ok
  | .ife c a b, Γ, n, X, R, W, o, x => by
    unfold chk
    split
    · rename_i y z t e
      obtain ⟨ps, rfl⟩ := asIf_eq e
      refine ⟨fun kd h => ?_, fun m h => (nomatch h)⟩
      obtain ⟨m, k1, k2, h1, h2, h3, rfl⟩ := kIf_inv h
      exact ev_ife ((chk_ok C c o y).2 m h1).1 ((chk_ok C a o z).1 k1 h2) ((chk_ok C b o t).1 k2 h3)
    · exact none_ok
  | .call k es, Γ, n, X, R, W, o, x => by
    refine dfl_ok o fun kd h => ?_
    split at h
    · rename_i y xs e
      obtain ⟨p, q, rfl⟩ := asCall_eq e
      split at h
      · rename_i sg es'
        split at h
        · rename_i f
          simp only [Bool.and_eq_true, decide_eq_true_eq, Bool.not_eq_true'] at f
          obtain ⟨⟨⟨hq, hcl⟩, hne⟩, ⟨⟨rfl, f2⟩, f3⟩, f4⟩ := f
          have hq := beq_iff_eq.mp hq
          obtain ⟨r, hr, rfl⟩ := map_some h
          obtain ⟨g1, g2, g3⟩ := o.gl f2
          obtain ⟨ra, rl⟩ := chks_ok C es o xs r hr
          by_cases hh : Γ.hot = true
          · rw [hh] at hne hq
            simp only [Bool.not_true, Bool.false_or, Bool.and_eq_true, Bool.not_eq_true'] at hne
            obtain ⟨hne, hcf⟩ := hne
            obtain ⟨⟨a, d, dd⟩, hex⟩ := o.exh hh
            obtain ⟨⟨fd, pp, c1, c2, c3, c4⟩, c5⟩ := o.hcall k sg es' hq.symm
            obtain ⟨⟨hd, oe, hpn, hz, hdv⟩, hok⟩ := o.ex a d dd hex
            have hG : R.G = R.G.on (a, d, dd) := by
              show R.G = { R.G with ex := some (a, d, dd) }
              rw [← hex]
            cases xs with
            | nil => simp at hne
            | cons x xs =>
              have f4' : noStar x = true ∧ xs.all noStar = true := by simpa using f4
              exact ev_callX c5 hG c4 hok o.rm o.gu hd hpn hz hdv g1 c1 c2 c3 (o.tk hcf) ra f4'.1 f4'.2 g2
          have hh : Γ.hot = false := by simpa using hh
          rw [hh] at hq
          obtain ⟨⟨fd, pp, c1, c2, c3, c4⟩, c5⟩ := o.call hh k sg es' hq.symm
          rw [f3] at c4
          have ps := o.pass hcl
          cases xs with
          | nil =>
            cases es with
            | nil =>
              simp only [chks] at hr
              cases hr
              have := ev_call0 c5 c4 (o.room hh) o.gu g1 c1 c2 c3 ps (p := p) (pos := q) g2
              rw [show (sg.fresh || true) = true from Bool.or_true _]
              exact this
            | cons e es => simp [chks] at hr
          | cons x xs =>
            have f4' : noStar x = true ∧ xs.all noStar = true := by simpa using f4
            exact ev_call c5 c4 (o.room hh) o.gu g1 c1 c2 c3 ps ra f4'.1 f4'.2 g2
        · cases h
      · cases h
    · cases h
  | .callrm k i j, Γ, n, X, R, W, o, x => by
    refine dfl_ok o fun kd h => ?_
    split at h
    · rename_i y z u e
      obtain ⟨p, q, rfl⟩ := asCall_eq e
      split at h
      · rename_i sg w t es' ew et
        obtain ⟨p2, rfl⟩ := asN_eq ew
        obtain ⟨p3, rfl⟩ := asN_eq et
        split at h
        · rename_i f
          simp only [Bool.and_eq_true, decide_eq_true_eq, Bool.not_eq_true'] at f
          obtain ⟨⟨⟨hh, hsh⟩, hcl⟩, ⟨⟨⟨⟨⟨rfl, f2⟩, f3⟩, f5⟩, f6⟩, f7⟩, f8⟩ := f
          cases h
          obtain ⟨g1, g2, g3⟩ := o.gl f2
          obtain ⟨⟨fd, pp, c1, c2, c3, c4⟩, c5⟩ := o.call hh k sg es' hsh
          rw [f3] at c4
          obtain ⟨v1, v2, v3, v4⟩ := o.vis f5
          obtain ⟨u1, u2, u3, u4⟩ := o.vis f7
          exact ev_callrm c5 (vNy o f6) f8 c4 (o.room hh) o.gu g1 c1 c2 c3 (o.pass hcl) v1 v2 v3 v4 u1 u2 u3 u4 g2
        · cases h
      · cases h
    · cases h
  | .callr k i es, Γ, n, X, R, W, o, x => by
    refine dfl_ok o fun kd h => ?_
    split at h
    · rename_i y z xs e
      obtain ⟨p, q, rfl⟩ := asCall_eq e
      split at h
      · rename_i sg w es' ew
        obtain ⟨p2, rfl⟩ := asN_eq ew
        split at h
        · rename_i f
          simp only [Bool.and_eq_true, decide_eq_true_eq, Bool.not_eq_true'] at f
          obtain ⟨⟨⟨hh, hsh⟩, hcl⟩, ⟨⟨⟨⟨rfl, f2⟩, f3⟩, f4⟩, f5⟩, f6⟩ := f
          split at h
          · rename_i r hr
            split at h
            · rename_i hs
              cases h
              obtain ⟨g1, g2, g3⟩ := o.gl f2
              obtain ⟨⟨fd, pp, c1, c2, c3, c4⟩, c5⟩ := o.call hh k sg es' hsh
              rw [f3] at c4
              obtain ⟨v1, v2, v3, v4⟩ := o.vis f5
              obtain ⟨ra, rl⟩ := chks_ok C es o xs r hr
              rw [hs] at ra
              exact ev_callr c5 (vNy o f6) c4 (o.room hh) o.gu g1 c1 c2 c3 (o.pass hcl) v1 v2 v3 v4 ra f4 g2
            · cases h
          · cases h
        · cases h
      · cases h
    · cases h
  | .callv i ks es, Γ, n, X, R, W, o, x => by
    refine dfl_ok o fun kd h => ?_
    split at h
    · rename_i y xs e
      obtain ⟨p, q, rfl⟩ := asCall_eq e
      split at h
      · rename_i f
        simp only [Bool.and_eq_true, Bool.not_eq_true', List.all_eq_true] at f
        obtain ⟨⟨⟨⟨hh, f2⟩, f3⟩, f4⟩, f5⟩ := f
        obtain ⟨r, hr, rfl⟩ := map_some h
        obtain ⟨v1, v2, v3, v4⟩ := o.vis f2
        obtain ⟨ra, rl⟩ := chks_ok C es o xs r hr
        cases xs with
        | nil => simp at f4
        | cons x xs =>
          have f3' : noStar x = true ∧ xs.all noStar = true := ⟨f3 x (by simp), by rw [List.all_eq_true]; exact fun z hz => f3 z (by simp [hz])⟩
          refine ev_callv (fun k hk => ?_) (o.room hh) o.gu v1 v2 ra f3'.1 f3'.2 v3 v4
          have hs := f5 k hk
          split at hs
          · rename_i sg es'
            simp only [Bool.and_eq_true, Bool.not_eq_true'] at hs
            obtain ⟨⟨h1, h2⟩, h3⟩ := hs
            obtain ⟨⟨fd, pp, c1, c2, c3, c4⟩, c5⟩ := o.call hh k sg es' h2
            rw [h1] at c4
            exact ⟨_, _, _, fd, pp, c4, o.pass (by simpa using h3), c2, c3, c5⟩
          · cases hs
      · cases h
    · cases h
  | .blt b es, Γ, n, X, R, W, o, x => by
    refine dfl_ok o fun kd h => ?_
    split at h
    · rename_i y xs e
      obtain ⟨p, q, rfl⟩ := asCall_eq e
      split at h
      · rename_i f
        simp only [Bool.and_eq_true, decide_eq_true_eq, Bool.not_eq_true'] at f
        obtain ⟨hh, ⟨⟨rfl, f2⟩, f3⟩, f4⟩ := f
        obtain ⟨r, hr, rfl⟩ := map_some h
        obtain ⟨g1, g2, g3⟩ := o.gl f2
        obtain ⟨ra, rl⟩ := chks_ok C es o xs r hr
        cases xs with
        | nil => cases f4
        | cons x xs =>
          rcases blt_of o hh b with ⟨id, b1, b2⟩ | ⟨id, b1, b2⟩
          · exact ev_bltB b2 g1 (o.blt _ (bltN_mem b)) b1 f3 ra g3 g2
          · exact ev_bltT b2 g1 (o.blt _ (bltN_mem b)) b1 f3 ra g3 g2
      · cases h
    · cases h
  | .mth m a e, Γ, n, X, R, W, o, x => by
    refine dfl_ok o fun kd h => ?_
    split at h
    · rename_i z f v px ex
      obtain ⟨ap, cp, hl, rfl⟩ := asMth_eq ex
      split at h
      · rename_i f
        simp only [Bool.and_eq_true, decide_eq_true_eq] at f
        obtain ⟨rfl, f2⟩ := f
        split at h
        · rename_i ka kb h1 h2
          split at h
          · rename_i hs
            cases h
            exact ev_mth o.K (by have := o.un; omega) ((chk_ok C a o _).1 ka h1) ((chk_ok C e o v).1 kb h2) hs f2 hl
          · cases h
        · cases h
      · cases h
    · cases h
  | .isi a t, Γ, n, X, R, W, o, x => by
    refine dfl_ok o fun kd h => ?_
    split at h
    · rename_i y z u e
      obtain ⟨p, q, rfl⟩ := asCall_eq e
      split at h
      · rename_i w ew
        obtain ⟨p2, rfl⟩ := asN_eq ew
        split at h
        · rename_i f
          simp only [Bool.and_eq_true, decide_eq_true_eq] at f
          obtain ⟨⟨⟨⟨⟨rfl, f2⟩, rfl⟩, f4⟩, f5⟩, f6⟩ := f
          obtain ⟨k, hk, rfl⟩ := map_some h
          obtain ⟨m, hm⟩ := Option.isSome_iff_exists.mp f5
          obtain ⟨t1, t2⟩ := ty_of hm
          obtain ⟨g1, g2, g3⟩ := o.gl f2
          obtain ⟨j1, j2, j3⟩ := o.gl f4
          exact ev_isi o.K g1 (o.blt _ (show ("isinstance" : Str) ∈ bltNames by decide +kernel)) (by with_unfolding_all rfl) g3 g2 j1 (o.blt _ t1) t2 j3 j2 hm f6 ((chk_ok C a o z).1 k hk)
        · cases h
      · cases h
    · cases h
  | .attr _, Γ, n, X, R, W, o, x => none_ok
  | .tup es, Γ, n, X, R, W, o, x => by
    refine dfl_ok o fun kd h => ?_
    split at h
    · rename_i xs e
      obtain ⟨k, p, rfl⟩ := asTup_eq e
      split at h
      · rename_i f
        obtain ⟨r, hr, rfl⟩ := map_some h
        obtain ⟨ra, rl⟩ := chks_ok C es o xs r hr
        have f := of_decide_eq_true f
        exact ev_tup ra fun env q e => by rw [rl env q e]; exact Nat.le_trans f (by decide)
      · cases h
    · cases h
  | .lst es, Γ, n, X, R, W, o, x => by
    refine dfl_ok o fun kd h => ?_
    split at h
    · rename_i xs e
      obtain ⟨p, rfl⟩ := asLst_eq e
      split at h
      · rename_i f
        obtain ⟨r, hr, rfl⟩ := map_some h
        obtain ⟨ra, rl⟩ := chks_ok C es o xs r hr
        have f := of_decide_eq_true f
        exact ev_lst ra fun env q e => by rw [rl env q e]; exact Nat.le_trans f (by decide)
      · cases h
    · cases h
  | .idx a i, Γ, n, X, R, W, o, x => by
    refine dfl_ok o fun kd h => ?_
    split at h
    · rename_i y z e
      obtain ⟨p, rfl⟩ := asSub_eq e
      split at h
      · rename_i f
        obtain ⟨k1, k2, h1, h2, hc, rfl⟩ := kIdx_inv h
        exact ev_idx o.K ((chk_ok C a o y).1 k1 h1) ((chk_ok C i o z).1 k2 h2) hc (by simpa using f)
      · cases h
    · cases h
  | .sl a lo hi, Γ, n, X, R, W, o, x => by
    refine dfl_ok o fun kd h => ?_
    split at h
    · rename_i y l u e
      obtain ⟨p, q, rfl⟩ := asSl_eq e
      obtain ⟨k1, n1, n2, h1, h2, h3, hc, rfl⟩ := kSl_inv h
      exact ev_sl o.K ((chk_ok C a o y).1 k1 h1) (chko_ok C lo o l n1 h2) (chko_ok C hi o u n2 h3) hc
    · cases h
  | .rev a, Γ, n, X, R, W, o, x => by
    refine dfl_ok o fun kd h => ?_
    split at h
    · rename_i y e
      obtain ⟨k, p1, p2, p3, q, rfl⟩ := asRev_eq e
      obtain ⟨kk, hk, rfl⟩ := map_some h
      exact ev_rev o.K ((chk_ok C a o y).1 kk hk)
    · cases h
  | .comp own tg it c e, Γ, n, X, R, W, o, x => by
    refine dfl_ok o fun kd h => ?_
    split at h
    · rename_i elt tgE iter ifs sc ex
      obtain ⟨p, rfl⟩ := asComp_eq ex
      split at h
      · rename_i f
        simp only [Bool.and_eq_true, List.all_eq_true, decide_eq_true_eq, Bool.not_eq_true'] at f
        obtain ⟨hh, ⟨⟨⟨f1, f2⟩, f3⟩, f4⟩, f5⟩ := f
        split at h
        · rename_i stb nI nc k h1 h2 h3
          obtain ⟨c1, c2, rfl⟩ := kComp_inv h
          have hb : BlkOk X.N X.env.scope sc (ownP Γ own) := blkOk_by (by rw [o.N, o.sc]; exact f1)
          have := ev_comp (X := X) (R := R) (W := W) (WF := fun _ _ _ _ => False) (elt := elt) (tgE := tgE) (iter := iter) (ifs := ifs) (scope := sc) (ownP := ownP Γ own) (pos := p) (tg := tg) (kde := k) (nc := nc) (nI := nI) (stb := stb) (evI := evalI C it) (evC := evalC C c) (evE := evalE C e)
            (o.calm hh) o.nd (chki_ok C it o tgE iter _ h1) hb (fun i hi => vN o (by rw [ownP_snd] at hi; exact f2 i hi)) (fun i hi => by rw [ownP_snd]; exact f3 i hi) c1 c2
            (fun D s H cc cl fp => (chkG_ok (o.blk hh D s H cc cl fp sc) tg tgE f5).1) (fun D s H cc cl fp => chkc_ok C c (o.blk hh D s H cc cl fp sc) ifs nc h2) (fun D s H cc cl fp => (chk_ok C e (o.blk hh D s H cc cl fp sc) elt).1 k h3) f4
          rw [ownP_snd] at this
          exact this
        · cases h
      · cases h
    · cases h
  | .comp2 own tg it c own1 t1 it1 c1 e, Γ, n, X, R, W, o, x => by
    refine dfl_ok o fun kd h => ?_
    split at h
    · rename_i elt tgE iter ifs tgE1 iter1 ifs1 sc ex
      obtain ⟨p, rfl⟩ := asComp2_eq ex
      split at h
      · rename_i f
        simp only [Bool.and_eq_true, List.all_eq_true, decide_eq_true_eq, Bool.not_eq_true'] at f
        obtain ⟨hh, ⟨⟨⟨⟨⟨⟨⟨⟨f1, f2⟩, f3⟩, f4⟩, f5⟩, f6⟩, f7⟩, f8⟩, f9⟩⟩ := f
        split at h
        · rename_i nI nc nI1 nc1 k h1 h2 h3 h4 h5
          obtain ⟨c0, rfl⟩ := ite_some h
          have hb : BlkOk X.N X.env.scope sc (ownP Γ own) := blkOk_by (by rw [o.N, o.sc]; exact f1)
          have := ev_comp2 (X := X) (R := R) (W := W) (WF := fun _ _ _ _ => False) (WI := fun _ _ _ _ => False) (elt := elt) (tgE := tgE) (iter := iter) (ifs := ifs) (tgE1 := tgE1) (iter1 := iter1) (ifs1 := ifs1) (scope := sc) (ownP := ownP Γ own) (own1 := own1) (pos := p) (tg := tg) (t1 := t1) (kde := k) (nc := nc) (nc1 := nc1) (nI := nI) (nI1 := nI1) (evI := evalI C it) (evC := evalC C c) (evI1 := evalI C it1) (evC1 := evalC C c1) (evE := evalE C e)
            (o.calm hh) o.nd (chki_ok C it o tgE iter _ h1) hb (fun i hi => vN o (by rw [ownP_snd] at hi; exact f2 i hi)) (fun i hi => by rw [ownP_snd]; exact f3 i hi) (fun i hi => by rw [ownP_snd]; exact f4 i hi) (fun i hi => f5 i hi) c0
            (fun D s H cc cl fp => (chkG_ok (o.blk hh D s H cc cl fp sc) tg tgE f8).1) (fun D s H cc cl fp => chkc_ok C c (o.blk hh D s H cc cl fp sc) ifs nc h2)
            (fun D s H cc cl fp => chki_ok C it1 (o.blk hh D s H cc cl fp sc) tgE1 iter1 _ h3) (fun D s H cc cl fp => (chkG_ok (o.blk hh D s H cc cl fp sc) t1 tgE1 f9).1) (fun D s H cc cl fp => chkc_ok C c1 (o.blk hh D s H cc cl fp sc) ifs1 nc1 h4)
            (fun D s H cc cl fp => (chk_ok C e (o.blk hh D s H cc cl fp sc) elt).1 k h5) f6 f7
          rw [ownP_snd] at this
          exact this
        · cases h
      · cases h
    · cases h
  | .isx i c, Γ, n, X, R, W, o, x => by
    refine dfl_ok o fun kd h => ?_
    split at h
    · rename_i y z u e
      obtain ⟨p, q, rfl⟩ := asCall_eq e
      split at h
      · rename_i m w em ew
        obtain ⟨p1, rfl⟩ := asN_eq em
        obtain ⟨p2, rfl⟩ := asN_eq ew
        obtain ⟨f, rfl⟩ := ite_some h
        simp only [Bool.and_eq_true, decide_eq_true_eq] at f
        obtain ⟨⟨⟨⟨⟨f1, rfl⟩, f2⟩, f3⟩, f4⟩, f5⟩ := f
        obtain ⟨v1, v2, v3, v4⟩ := o.vis f3
        obtain ⟨g1, g2, g3⟩ := o.gl f2
        obtain ⟨j1, j2, j3⟩ := o.gl f4
        cases c with
        | none =>
          obtain rfl := of_decide_eq_true f5
          refine ev_isx (c := none) (cv := .type "ValueError") (wv := .ty "ValueError") (fun a d dd e => ?_) g1 (o.blt _ (show ("isinstance" : Str) ∈ bltNames by decide +kernel)) (by with_unfolding_all rfl) g3 g2 v1 v2 v3 v4
            (pe_bltn j1 (o.blt _ (show ("ValueError" : Str) ∈ bltNames by decide +kernel)) PyProof.Rows.Boot.«ValueError» rfl j3 j2) fun u r => r
          obtain ⟨⟨_, e1⟩, s, e2⟩ := o.ex a d dd e
          have F := (o.xs d s e2).1
          exact ⟨e1, F.ec, F.kiv⟩
        | some c =>
          dsimp only at f5
          split at f5
          · rename_i t et
            obtain rfl := of_decide_eq_true f5
            have T := (o.xs c t et).1
            refine ev_isx (c := some c) (cv := .ref (R.cls c)) (wv := .ref (R.cls c)) (fun a d dd e => ?_) g1 (o.blt _ (show ("isinstance" : Str) ∈ bltNames by decide +kernel)) (by with_unfolding_all rfl) g3 g2 v1 v2 v3 v4
              (pe_glob j1 T.glo rfl j2) fun u r => r
            obtain ⟨⟨_, e1⟩, s, e2⟩ := o.ex a d dd e
            exact ⟨e1, (o.xs d s e2).1.ec, T.kit d s e2⟩
          · cases f5
      · cases h
    · cases h
  | .fld i cs, Γ, n, X, R, W, o, x => by
    refine dfl_ok o fun kd h => ?_
    split at h
    · rename_i z f e
      obtain ⟨p, rfl⟩ := asAttr_eq e
      split at h
      · rename_i m em
        obtain ⟨p1, rfl⟩ := asN_eq em
        obtain ⟨f0, rfl⟩ := ite_some h
        simp only [Bool.and_eq_true, List.all_eq_true] at f0
        obtain ⟨⟨f1, f2⟩, f3⟩ := f0
        obtain ⟨v1, v2, v3, v4⟩ := o.vis f2
        refine ev_fld (fun a d dd e hd => ?_) v1 v2 v3 v4
        obtain ⟨⟨_, e1⟩, s, e2⟩ := o.ex a d dd e
        have f4 := f3 d hd
        rw [e2] at f4
        have f4 := of_decide_eq_true f4
        obtain ⟨F, ef⟩ := o.xs d s e2
        exact ⟨e1, F.xf, f4 ▸ F.noat, ef.trans f4⟩
      · cases h
    · cases h
theorem chks_ok (C : Calls) : ∀ (es : Es) {Γ : Gam} {n : Nat} {X : Cx} {R : Fr0} {W : WXX} (_ : OkX Γ n C X R W) (xs : List Expr) (r : Ka), chks Γ es xs = some r → RowChk C X R W es xs r
  | .nil, Γ, n, X, R, W, o, [], r, h => by
    simp only [chks] at h
    cases h
    exact ⟨ev_anil, fun env q e => by cases e; rfl⟩
  | .nil, Γ, n, X, R, W, o, x :: xs, r, h => by simp [chks] at h
  | .cons e es, Γ, n, X, R, W, o, [], r, h => by simp [chks] at h
  | .cons e es, Γ, n, X, R, W, o, x :: xs, r, h => by
    simp only [chks] at h
    split at h
    · rename_i f
      obtain ⟨k, r2, h1, h2, hc, rfl⟩ := kCons_inv h
      obtain ⟨ra, rl⟩ := chks_ok C es o xs r2 h2
      refine ⟨ev_acons f ((chk_ok C e o x).1 k h1) ra hc, fun env q eq => ?_⟩
      obtain ⟨a, e1, e2⟩ := Res.bind_ok eq
      obtain ⟨b, e3, e4⟩ := Res.bind_ok e2
      cases e4
      simp [rl _ _ e3]
    · cases h
theorem chko_ok (C : Calls) : ∀ (e : OE) {Γ : Gam} {n : Nat} {X : Cx} {R : Fr0} {W : WXX} (_ : OkX Γ n C X R W) (x : Option Expr) (m : Bool), chko Γ e x = some m → PO X x (rdO R W m (evalO C e))
  | .no, Γ, n, X, R, W, o, none, m, h => by
    simp only [chko] at h
    cases h
    exact ev_no
  | .no, Γ, n, X, R, W, o, some _, m, h => by simp [chko] at h
  | .so e, Γ, n, X, R, W, o, none, m, h => by simp [chko] at h
  | .so e, Γ, n, X, R, W, o, some x, m, h => by
    simp only [chko] at h
    obtain ⟨k, hk, rfl⟩ := map_some h
    exact ev_so ((chk_ok C e o x).1 k hk)
theorem chkc_ok (C : Calls) : ∀ (e : OE) {Γ : Gam} {n : Nat} {X : Cx} {R : Fr0} {W : WXX} (_ : OkX Γ n C X R W) (x : List Expr) (m : Bool), chkc Γ e x = some m → PTs X x (rdC R m (evalC C e))
  | .no, Γ, n, X, R, W, o, [], m, h => by
    simp only [chkc] at h
    cases h
    exact evc_no
  | .no, Γ, n, X, R, W, o, _ :: _, m, h => by simp [chkc] at h
  | .so e, Γ, n, X, R, W, o, [], m, h => by simp [chkc] at h
  | .so e, Γ, n, X, R, W, o, [y], m, h => by
    simp only [chkc] at h
    exact evc_so ((chk_ok C e o y).2 m h).1
  | .so e, Γ, n, X, R, W, o, _ :: _ :: _, m, h => by simp [chkc] at h
theorem chki_ok (C : Calls) : ∀ (it : It) {Γ : Gam} {n : Nat} {X : Cx} {R : Fr0} {W : WXX} (_ : OkX Γ n C X R W) (tg x : Expr) (m : Bool × Bool), chki Γ it tg x = some m → PI X tg x (rdI R W m.1 m.2 (evalI C it))
  | .e a, Γ, n, X, R, W, o, tg, x, m, h => by
    simp only [chki] at h
    split at h
    · rename_i k hk
      split at h
      · rename_i hs
        cases h
        exact evi_e o.K ((chk_ok C a o x).1 k hk) hs
      · cases h
    · cases h
  | .m a, Γ, n, X, R, W, o, tg, x, m, h => by
    simp only [chki] at h
    obtain ⟨k, hk, rfl⟩ := map_some h
    exact evi_m o.K ((chk_ok C a o x).1 k hk)
  | .rng es, Γ, n, X, R, W, o, tg, x, m, h => by
    simp only [chki] at h
    split at h
    · rename_i y xs e
      obtain ⟨p, q, rfl⟩ := asCall_eq e
      split at h
      · rename_i f
        simp only [Bool.and_eq_true, Bool.or_eq_true, decide_eq_true_eq] at f
        obtain ⟨⟨⟨rfl, f2⟩, f3⟩, f4⟩ := f
        obtain ⟨r, hr, rfl⟩ := map_some h
        obtain ⟨g1, g2, g3⟩ := o.gl f2
        obtain ⟨ra, rl⟩ := chks_ok C es o xs r hr
        have hb := o.blt "range" (by decide +kernel)
        match xs, f3, f4, ra, rl with
        | [a], f3, _, ra, rl => exact evi_rng1 g1 hb ra (fun env q e => rl env q e) (by simpa using f3)
        | [a, b], f3, _, ra, rl =>
          have f3' : noStar a = true ∧ noStar b = true := by simpa using f3
          exact evi_rng2 g1 hb ra (fun env q e => rl env q e) f3'.1 f3'.2
        | [a, b, c], f3, _, ra, rl =>
          have f3' : noStar a = true ∧ noStar b = true ∧ noStar c = true := by simpa using f3
          exact evi_rng3 g1 hb ra (fun env q e => rl env q e) f3'.1 f3'.2.1 f3'.2.2
        | [], _, f4, _, _ => simp at f4
        | _ :: _ :: _ :: _ :: _, _, f4, _, _ => simp at f4
      · cases h
    · cases h
  | .enum a, Γ, n, X, R, W, o, tg, x, m, h => by
    simp only [chki] at h
    split at h
    · rename_i y z ts e e2
      obtain ⟨p, q, rfl⟩ := asCall_eq e
      obtain ⟨k, p2, rfl⟩ := asTup_eq e2
      split at h
      · rename_i f
        simp only [Bool.and_eq_true, decide_eq_true_eq] at f
        obtain ⟨⟨rfl, f2⟩, f3⟩ := f
        split at h
        · rename_i r hr
          split at h
          · rename_i hs
            cases h
            obtain ⟨g1, g2, g3⟩ := o.gl f2
            have hb := o.blt "enumerate" (by decide +kernel)
            exact evi_enum o.K g1 hb ((chk_ok C a o z).1 r hr) hs f3
          · cases h
        · cases h
      · cases h
    · cases h
  | .zip es, Γ, n, X, R, W, o, tg, x, m, h => by
    simp only [chki] at h
    split at h
    · rename_i y xs ts e e2
      obtain ⟨p, q, rfl⟩ := asCall_eq e
      obtain ⟨k, p2, rfl⟩ := asTup_eq e2
      split at h
      · rename_i f
        simp only [Bool.and_eq_true, decide_eq_true_eq] at f
        obtain ⟨⟨⟨rfl, f2⟩, f3⟩, f4⟩ := f
        split at h
        · rename_i r hr
          split at h
          · rename_i hs
            cases h
            obtain ⟨g1, g2, g3⟩ := o.gl f2
            obtain ⟨ra, rl⟩ := chks_ok C es o xs r hr
            rw [hs] at ra
            have hb := o.blt "zip" (by decide +kernel)
            match xs, f3, f4, ra with
            | [a, b], f3, _, ra =>
              have f3' : noStar a = true ∧ noStar b = true := by simpa using f3
              exact evi_zip o.K g1 hb ra f3'.1 f3'.2
            | [], _, f4, _ => simp at f4
            | [_], _, f4, _ => simp at f4
            | _ :: _ :: _ :: _, _, f4, _ => simp at f4
          · cases h
        · cases h
      · cases h
    · cases h
end
end Ev

/-! EvC3: the checker on statements. -/
namespace Ev
open PySem PySem.Spec PyProof.Rows L2
theorem bk_fun {env : PySem.Env} (h : env.scope.kind = .function) : (env.blockKind == .function) = true := by
  unfold Env.blockKind
  rw [h]; rfl
theorem sw2 {env : PySem.Env} {x y : Str} {a b : Expr} {px py pt pt2 : Pos} {kt k2 : Nat} (hk : env.scope.kind = .function) (hx : env.scope.names.lookup x = some .local) (hy : env.scope.names.lookup y = some .local) (hl : (py.line == px.line) = true) (hne : (y == x) = false)
    (ha : noStar a = true) (hb : noStar b = true) (hf : (foldedForSure 8 a && foldedForSure 8 b) = false) (hc : (constantsAlone 8 a && constantsAlone 8 b) = false) :
    swappedStores [.Tuple [.Name x px, .Name y py] kt pt] (.Tuple [a, b] k2 pt2) env = pure (some [x, y]) := by
  have kx : (env.kindOf x == some NameKind.local) = true := by
    show (env.scope.names.lookup x == some NameKind.local) = true
    rw [hx]; rfl
  have ky : (env.kindOf y == some NameKind.local) = true := by
    show (env.scope.names.lookup y == some NameKind.local) = true
    rw [hy]; rfl
  have sa : ∀ c : Expr, noStar c = true → (match c with | .Starred .. => true | _ => false) = false := fun c h => by
    cases c <;> first | rfl | cases h
  have hbk := bk_fun hk
  unfold swappedStores
  have e2 : ([a, b].any fun | .Starred .. => true | _ => false) = false := by
    simp only [List.any_cons, List.any_nil, sa a ha, sa b hb, Bool.or_self]
  have e3 : ([x, y].eraseDups).length = 2 := by
    simp [List.eraseDups, List.eraseDupsBy, List.eraseDupsBy.loop, hne]
  have e4 : ([a, b].all (foldedForSure 8)) = false := by simpa using hf
  have e5 : ([a, b].all (constantsAlone 8)) = false := by simpa using hc
  simp only [List.head?_cons, Option.map_some, Option.getD_some, Expr.pos, e2, e4, e5, hbk, List.filterMap_cons, List.filterMap_nil, kx, ky, hl, beq_self_eq_true, Bool.and_self, if_true, e3]
  simp [hbk, bne]
  intro h
  exfalso
  rcases h with h | h
  · split at h
    · simp [noStar] at ha
    · cases h
  · split at h
    · simp [noStar] at hb
    · cases h
theorem sw3 {env : PySem.Env} {x y z : Str} {a b c : Expr} {px py pz pt pt2 : Pos} {kt k2 : Nat} (hk : env.scope.kind = .function) (hx : env.scope.names.lookup x = some .local) (hy : env.scope.names.lookup y = some .local) (hz : env.scope.names.lookup z = some .local) (hl : (py.line == px.line) = true) (hl2 : (pz.line == px.line) = true)
    (hne : (y == x) = false) (hne2 : (z == x) = false) (hne3 : (z == y) = false)
    (ha : noStar a = true) (hb : noStar b = true) (hcc : noStar c = true) (hf : (foldedForSure 8 a && (foldedForSure 8 b && foldedForSure 8 c)) = false) (hc : (constantsAlone 8 a && (constantsAlone 8 b && constantsAlone 8 c)) = false) :
    swappedStores [.Tuple [.Name x px, .Name y py, .Name z pz] kt pt] (.Tuple [a, b, c] k2 pt2) env = pure (some [x, y, z]) := by
  have kx : (env.kindOf x == some NameKind.local) = true := by
    show (env.scope.names.lookup x == some NameKind.local) = true
    rw [hx]; rfl
  have ky : (env.kindOf y == some NameKind.local) = true := by
    show (env.scope.names.lookup y == some NameKind.local) = true
    rw [hy]; rfl
  have kz : (env.kindOf z == some NameKind.local) = true := by
    show (env.scope.names.lookup z == some NameKind.local) = true
    rw [hz]; rfl
  have hbk := bk_fun hk
  unfold swappedStores
  have e3 : ([x, y, z].eraseDups).length = 3 := by
    simp [List.eraseDups, List.eraseDupsBy, List.eraseDupsBy.loop, hne, hne2, hne3]
  have e4 : ([a, b, c].all (foldedForSure 8)) = false := by simpa using hf
  have e5 : ([a, b, c].all (constantsAlone 8)) = false := by simpa using hc
  simp only [List.head?_cons, Option.map_some, Option.getD_some, Expr.pos, e4, e5, hbk, List.filterMap_cons, List.filterMap_nil, kx, ky, kz, hl, hl2, beq_self_eq_true, Bool.and_self, if_true, e3]
  simp [hbk, bne]
  intro h
  exfalso
  rcases h with h | h | h
  · split at h
    · simp [noStar] at ha
    · cases h
  · split at h
    · simp [noStar] at hb
    · cases h
  · split at h
    · simp [noStar] at hcc
    · cases h
/-- no stores from the right -/
theorem sw0 {tg v : Expr} {env : PySem.Env} (h : (asTup v).isSome = false) : swappedStores [tg] v env = pure none := by
  unfold swappedStores
  cases v <;> first | (simp [asTup] at h; done) | (cases tg <;> rfl)
theorem swL {ts vs : List Expr} {k k2 : Nat} {p p2 : Pos} {env : PySem.Env} (h : (vs.length == ts.length && (ts.length == 2 || ts.length == 3)) = false) : swappedStores [.Tuple ts k p] (.Tuple vs k2 p2) env = pure none := by
  unfold swappedStores
  have e : (!(ts.length == 2 || ts.length == 3) || vs.length != ts.length || env.blockKind != .function) = true := by
    cases h1 : (ts.length == 2 || ts.length == 3) <;> cases h2 : (vs.length == ts.length) <;> simp_all [bne]
  simp only [e, if_true]
theorem fml {α β : Type} {f : α → Option β} : ∀ {l : List α}, (∃ x ∈ l, f x = none) → (l.filterMap f).length < l.length
  | [], ⟨x, h, _⟩ => by cases h
  | a :: l, ⟨x, h, e⟩ => by
    rw [List.filterMap_cons]
    rcases List.mem_cons.mp h with rfl | h
    · rw [e]
      have := List.length_filterMap_le f l
      simp only [List.length_cons]; omega
    · have := fml ⟨x, h, e⟩
      cases f a <;> simp only [List.length_cons] <;> omega
/-- a target that is no plain local name -/
def notLoc (sc : Scope) : Expr → Bool
  | .Name x _ => decide (sc.names.lookup x ≠ some .local)
  | _ => true
theorem swC {ts vs : List Expr} {k k2 : Nat} {p p2 : Pos} {env : PySem.Env} {sc : Scope} (hs : env.scope = sc) (h : ts.any (notLoc sc) = true) : swappedStores [.Tuple ts k p] (.Tuple vs k2 p2) env = pure none := by
  subst hs
  unfold swappedStores
  dsimp only
  by_cases c1 : (!(ts.length == 2 || ts.length == 3) || vs.length != ts.length || env.blockKind != .function) = true
  · rw [if_pos c1]
  · rw [if_neg c1]
    split
    · rfl
    · rw [if_pos]
      obtain ⟨x, hx, e⟩ := List.any_eq_true.mp h
      refine Bool.or_eq_true_iff.mpr (.inl ?_)
      rw [bne_iff_ne]
      refine Nat.ne_of_lt (fml ⟨x, hx, ?_⟩)
      cases x <;> first | rfl | skip
      rename_i id pos
      have e : env.scope.names.lookup id ≠ some .local := of_decide_eq_true e
      have : (env.kindOf id == some NameKind.local) = false := by
        unfold PySem.Env.kindOf
        simpa using e
      simp only [this, Bool.false_and, Bool.false_eq_true, if_false]
/-- is a comprehension stored at once? -/
def swN (Γ : Gam) (v : Expr) (x : Str) (p : Pos) : Bool := match v with
  | .ListComp _ _ s vp => decide (Γ.sc.names.lookup x = some .local) && p.line == vp.line && !(s.names.any fun (n, k) => n == x && (k == .local || k == .cell))
  | _ => false
def lcOnly : Expr → Bool
  | .SetComp _ _ _ _ => false
  | .DictComp _ _ _ _ _ => false
  | _ => true
theorem sw_is {Γ : Gam} {v : Expr} {x : Str} {p : Pos} {l : Nat} {env : PySem.Env} (hs : env.scope = Γ.sc) (hk : Γ.sc.kind = .function) (h : lcOnly v = true) : swapsWith v (some (.Name x p)) l env = pure (swN Γ v x p) := by
  cases v with
  | SetComp => cases h
  | DictComp => cases h
  | ListComp e g s vp =>
    have hb := bk_fun (env := env) (by rw [hs]; exact hk)
    have hx : (env.kindOf x == some NameKind.local) = decide (Γ.sc.names.lookup x = some .local) := by
      show (env.scope.names.lookup x == some NameKind.local) = _
      rw [hs]
      cases Γ.sc.names.lookup x with
      | none => rfl
      | some k => cases k <;> rfl
    show (pure (env.blockKind == .function && env.kindOf x == some .local && p.line == vp.line && !(s.names.any fun (n, k) => n == x && (k == .local || k == .cell))) : Sem Bool) = _
    rw [hb, hx, Bool.true_and]
    rfl
  | _ => rfl
section
variable {Γ : Gam} {n : Nat} {C : Calls} {X : Cx} {R : Fr0} {W : WXX}
theorem comp_set (o : OkX Γ n C X R W) {own : List Nat} {tg : T} {it : It} {c : OE} {e : E} {v : Expr} {kd : Kd} (h : (chk Γ (.comp own tg it c e) v).1 = some kd) {i : Nat} {y : Str} {py spos : Pos} (hy : X.N[i]? = some y) (hyl : X.env.scope.names.lookup y = some .local)
    (hsw : swapsWith v (some (.Name y py)) spos.line X.env = pure true) : ∃ te, PS X (.Assign [.Name y py] v spos) (tAsg te (gName i)) ∧ ∀ σ H F env Q, EnvOk R σ H F env → okR R W kd σ H F env Q (evalE C (.comp own tg it c e) env) → te σ H Q := by
  unfold chk dfl at h
  dsimp only at h
  split at h
  · rename_i elt tgE iter ifs sc ex
    obtain ⟨p, rfl⟩ := asComp_eq ex
    split at h
    · rename_i f
      simp only [Bool.and_eq_true, List.all_eq_true, decide_eq_true_eq, Bool.not_eq_true'] at f
      obtain ⟨hh, ⟨⟨⟨f1, f2⟩, f3⟩, f4⟩, f5⟩ := f
      split at h
      · rename_i stb nI nc k h1 h2 h3
        obtain ⟨c1, c2, rfl⟩ := kComp_inv h
        have hb : BlkOk X.N X.env.scope sc (ownP Γ own) := blkOk_by (by rw [o.N, o.sc]; exact f1)
        have ps := ps_setLc (X := X) (elt := elt) (tg := tgE) (iter := iter) (ifs := ifs) (scope := sc) (own := ownP Γ own) (pos := p) (spos := spos) (py := py) (o.calm hh) o.nd hy hyl hsw (chki_ok C it o tgE iter _ h1) hb
          (fun s H cc cl fp => PG.any fun D => (chkG_ok (o.blk hh D s H cc cl fp sc) tg tgE f5).1) (fun s H cc cl fp => PTs.any fun D => chkc_ok C c (o.blk hh D s H cc cl fp sc) ifs nc h2) (fun s H cc cl fp => PE.any fun D => (chk_ok C e (o.blk hh D s H cc cl fp sc) elt).1 k h3) (fold_pure f4)
        refine ⟨_, ps, fun σ H F env Q ko hr => ?_⟩
        rw [ownP_snd]
        exact comp_law (WF := fun _ _ _ _ => False) (fun i hi => vN o (f2 i hi)) (fun i hi => f3 i hi) c1 c2 ko hr
      · cases h
    · cases h
  · cases h
theorem comp_set2 (o : OkX Γ n C X R W) {own : List Nat} {tg : T} {it : It} {c : OE} {own1 : List Nat} {t1 : T} {it1 : It} {cc1 : OE} {e : E} {v : Expr} {kd : Kd} (h : (chk Γ (.comp2 own tg it c own1 t1 it1 cc1 e) v).1 = some kd) {i : Nat} {y : Str} {py spos : Pos} (hy : X.N[i]? = some y) (hyl : X.env.scope.names.lookup y = some .local)
    (hsw : swapsWith v (some (.Name y py)) spos.line X.env = pure true) : ∃ te, PS X (.Assign [.Name y py] v spos) (tAsg te (gName i)) ∧ ∀ σ H F env Q, EnvOk R σ H F env → okR R W kd σ H F env Q (evalE C (.comp2 own tg it c own1 t1 it1 cc1 e) env) → te σ H Q := by
  unfold chk dfl at h
  dsimp only at h
  split at h
  · rename_i elt tgE iter ifs tgE1 iter1 ifs1 sc ex
    obtain ⟨p, rfl⟩ := asComp2_eq ex
    split at h
    · rename_i f
      simp only [Bool.and_eq_true, List.all_eq_true, decide_eq_true_eq, Bool.not_eq_true'] at f
      obtain ⟨hh, ⟨⟨⟨⟨⟨⟨⟨⟨f1, f2⟩, f3⟩, f4⟩, f5⟩, f6⟩, f7⟩, f8⟩, f9⟩⟩ := f
      split at h
      · rename_i nI nc nI1 nc1 k h1 h2 h3 h4 h5
        obtain ⟨c0, rfl⟩ := ite_some h
        have hb : BlkOk X.N X.env.scope sc (ownP Γ own) := blkOk_by (by rw [o.N, o.sc]; exact f1)
        have ps := ps_setLc2 (X := X) (elt := elt) (tg := tgE) (iter := iter) (ifs := ifs) (tg1 := tgE1) (iter1 := iter1) (ifs1 := ifs1) (scope := sc) (own := ownP Γ own) (vs1 := own1) (pos := p) (spos := spos) (py := py) (o.calm hh) o.nd hy hyl hsw (chki_ok C it o tgE iter _ h1) hb (fun i hi => by rw [ownP_snd]; exact f3 i hi)
          (fun s H cc cl fp => PG.any fun D => (chkG_ok (o.blk hh D s H cc cl fp sc) tg tgE f8).1) (fun s H cc cl fp => PTs.any fun D => chkc_ok C c (o.blk hh D s H cc cl fp sc) ifs nc h2)
          (fun s H cc cl fp => PI.any fun D => chki_ok C it1 (o.blk hh D s H cc cl fp sc) tgE1 iter1 _ h3) (fun s H cc cl fp => PG.any fun D => (chkG_ok (o.blk hh D s H cc cl fp sc) t1 tgE1 f9).1) (fun s H cc cl fp => PTs.any fun D => chkc_ok C cc1 (o.blk hh D s H cc cl fp sc) ifs1 nc1 h4)
          (fun s H cc cl fp => PE.any fun D => (chk_ok C e (o.blk hh D s H cc cl fp sc) elt).1 k h5) (fold_pure f6) (fun env => fold_pure f7)
        refine ⟨_, ps, fun σ H F env Q ko hr => ?_⟩
        rw [ownP_snd]
        exact comp2_law (WF := fun _ _ _ _ => False) (WI := fun _ _ _ _ => False) (fun i hi => vN o (f2 i hi)) (fun i hi => f3 i hi) (fun i hi => f4 i hi) (fun i hi => f5 i hi) c0 ko hr
      · cases h
    · cases h
  · cases h
end
end Ev

/-! EvC4: the checker on statements. -/
namespace Ev
open PySem PySem.Spec PyProof.Rows L2
def asAsg : Stmt → Option (Expr × Expr × Pos)
  | .Assign [tg] v p => some (tg, v, p)
  | _ => none
theorem asAsg_eq {s : Stmt} {r} (h : asAsg s = some r) : s = .Assign [r.1] r.2.1 r.2.2 := by
  unfold asAsg at h; split at h <;> cases h; rfl
def asNP : Expr → Option (Str × Pos)
  | .Name x p => some (x, p)
  | _ => none
theorem asNP_eq {x : Expr} {r} (h : asNP x = some r) : x = .Name r.1 r.2 := by
  unfold asNP at h; split at h <;> cases h; rfl
def asEx : Stmt → Option Expr
  | .Expr e _ => some e
  | _ => none
theorem asEx_eq {s : Stmt} {r} (h : asEx s = some r) : ∃ p, s = .Expr r p := by
  unfold asEx at h; split at h <;> cases h; exact ⟨_, rfl⟩
/-- x.append(e) -/
def asApp : Stmt → Option (Str × Expr)
  | .Expr (.Call (.Attribute (.Name x _) m ap) [e] [] cp) _ => if (decide (m = "append") && ap.endLine == cp.line) = true then some (x, e) else none
  | _ => none
theorem asApp_eq {s : Stmt} {r} (h : asApp s = some r) : ∃ p1 ap cp p, (ap.endLine == cp.line) = true ∧ s = .Expr (.Call (.Attribute (.Name r.1 p1) "append" ap) [r.2] [] cp) p := by
  unfold asApp at h
  split at h
  · rename_i x _ m ap e cp p
    obtain ⟨f, rfl⟩ := ite_some h
    obtain ⟨f1, f2⟩ := Bool.and_eq_true_iff.mp f
    obtain rfl := of_decide_eq_true f1
    exact ⟨_, _, _, _, f2, rfl⟩
  · cases h
def asAug : Stmt → Option (Str × Operator × Expr)
  | .AugAssign (.Name x _) op e _ => some (x, op, e)
  | _ => none
theorem asAug_eq {s : Stmt} {r} (h : asAug s = some r) : ∃ p q, s = .AugAssign (.Name r.1 p) r.2.1 r.2.2 q := by
  unfold asAug at h; split at h <;> cases h; exact ⟨_, _, rfl⟩
def asRet : Stmt → Option (Option Expr)
  | .Return e _ => some e
  | _ => none
theorem asRet_eq {s : Stmt} {r} (h : asRet s = some r) : ∃ p, s = .Return r p := by
  unfold asRet at h; split at h <;> cases h; exact ⟨_, rfl⟩
def asIfS : Stmt → Option (Expr × List Stmt × List Stmt)
  | .If c a b _ => some (c, a, b)
  | _ => none
theorem asIfS_eq {s : Stmt} {r} (h : asIfS s = some r) : ∃ p, s = .If r.1 r.2.1 r.2.2 p := by
  unfold asIfS at h; split at h <;> cases h; exact ⟨_, rfl⟩
def asFor : Stmt → Option (Expr × Expr × List Stmt)
  | .For tg it b [] _ => some (tg, it, b)
  | _ => none
theorem asFor_eq {s : Stmt} {r} (h : asFor s = some r) : ∃ p, s = .For r.1 r.2.1 r.2.2 [] p := by
  unfold asFor at h; split at h <;> cases h; exact ⟨_, rfl⟩
def asWhl : Stmt → Option (Expr × List Stmt)
  | .While c b [] _ => some (c, b)
  | _ => none
theorem asWhl_eq {s : Stmt} {r} (h : asWhl s = some r) : ∃ p, s = .While r.1 r.2 [] p := by
  unfold asWhl at h; split at h <;> cases h; exact ⟨_, rfl⟩
/-- raise x(v) -/
def asRaise : Stmt → Option (Str × Expr)
  | .Raise (some (.Call (.Name x _) [e] [] _)) none _ => some (x, e)
  | _ => none
theorem asRaise_eq {s : Stmt} {r} (h : asRaise s = some r) : ∃ p q w, s = .Raise (some (.Call (.Name r.1 p) [r.2] [] q)) none w := by
  unfold asRaise at h; split at h <;> cases h; exact ⟨_, _, _, rfl⟩
/-- try: .. except x as n: b .. -/
def asTry : Stmt → Option (List Stmt × Str × Str × Stmt × List Stmt)
  | .Try body [.ExceptHandler (some (.Name x _)) (some n) (b :: r) _] [] [] _ => some (body, x, n, b, r)
  | _ => none
theorem asTry_eq {s : Stmt} {r} (h : asTry s = some r) : ∃ p q w, s = .Try r.1 [.ExceptHandler (some (.Name r.2.1 p)) (some r.2.2.1) (r.2.2.2.1 :: r.2.2.2.2) q] [] [] w := by
  unfold asTry at h; split at h <;> cases h; exact ⟨_, _, _, rfl⟩
/-- try: .. except x: raise y(v) from None -/
def asTryF : Stmt → Option (List Stmt × Str × Str × Expr)
  | .Try body [.ExceptHandler (some (.Name x _)) none [.Raise (some (.Call (.Name y _) [v] [] _)) (some (.Constant .none _ _)) _] _] [] [] _ => some (body, x, y, v)
  | _ => none
theorem asTryF_eq {s : Stmt} {r} (h : asTryF s = some r) : ∃ p1 p2 p3 j p4 p5 p6 p7, s = .Try r.1 [.ExceptHandler (some (.Name r.2.1 p1)) none [.Raise (some (.Call (.Name r.2.2.1 p2) [r.2.2.2] [] p3)) (some (.Constant .none j p4)) p5] p6] [] [] p7 := by
  unfold asTryF at h; split at h <;> cases h; exact ⟨_, _, _, _, _, _, _, _, rfl⟩
def isPass : Stmt → Bool
  | .Pass _ => true
  | _ => false
def isBrk : Stmt → Bool
  | .Break _ => true
  | _ => false
def isCont : Stmt → Bool
  | .Continue _ => true
  | _ => false
def isCompE : E → Bool
  | .comp _ _ _ _ _ => true
  | .comp2 _ _ _ _ _ _ _ _ _ => true
  | _ => false
def par2C (Γ : Gam) (i j : Nat) (es : Es) (tg v : Expr) : Bool := match tg, v with
  | .Tuple [.Name x px, .Name y py] _ _, .Tuple [a, b] _ _ => (match chks Γ es [a, b] with
    | some r => r.stb
    | none => false) && decide (Γ.sc.kind = .function) && decide (Γ.N[i]? = some x) && decide (Γ.N[j]? = some y) && decide (i ≠ j) && decide (i ∉ Γ.ms) && decide (j ∉ Γ.ms) && decide (Γ.sc.names.lookup x = some .local) && decide (Γ.sc.names.lookup y = some .local) &&
      (py.line == px.line) && (y == x) == false && noStar a && noStar b && (foldedForSure 8 a && foldedForSure 8 b) == false && (constantsAlone 8 a && constantsAlone 8 b) == false
  | _, _ => false
def par3C (Γ : Gam) (i j l : Nat) (es : Es) (tg v : Expr) : Bool := match tg, v with
  | .Tuple [.Name x px, .Name y py, .Name z pz] _ _, .Tuple [a, b, c] _ _ => (match chks Γ es [a, b, c] with
    | some r => r.stb
    | none => false) && decide (Γ.sc.kind = .function) && decide (Γ.N[i]? = some x) && decide (Γ.N[j]? = some y) && decide (Γ.N[l]? = some z) && decide (i ≠ j) && decide (i ≠ l) && decide (j ≠ l) && decide (i ∉ Γ.ms) && decide (j ∉ Γ.ms) && decide (l ∉ Γ.ms) &&
      decide (Γ.sc.names.lookup x = some .local) && decide (Γ.sc.names.lookup y = some .local) && decide (Γ.sc.names.lookup z = some .local) &&
      (py.line == px.line) && (pz.line == px.line) && (y == x) == false && (z == x) == false && (z == y) == false && noStar a && noStar b && noStar c && (foldedForSure 8 a && (foldedForSure 8 b && foldedForSure 8 c)) == false && (constantsAlone 8 a && (constantsAlone 8 b && constantsAlone 8 c)) == false
  | _, _ => false
/-- name = e -/
def asgN (Γ : Gam) (i : Nat) (e : E) (tg v : Expr) : Bool := match asNP tg with
  | some (x, p) => lcOnly v && decide (Γ.sc.kind = .function) && (if swN Γ v x p = true then decide (Γ.N[i]? = some x) && isCompE e else locB Γ i x)
  | none => false
def asgT (Γ : Gam) (t : T) (tg v : Expr) : Bool := chkG Γ t tg && !isComp v && (match asTup v, asTup tg with
  | none, _ => true
  | some vs, some ts => !(vs.length == ts.length && (ts.length == 2 || ts.length == 3)) || ts.any (notLoc Γ.sc)
  | _, _ => false)
def par (Γ : Gam) : T → E → Expr → Expr → Bool
  | .cons (.n i) (.cons (.n j) .nil), .tup es, tg, v => !Γ.hot && par2C Γ i j es tg v
  | .cons (.n i) (.cons (.n j) (.cons (.n l) .nil)), .tup es, tg, v => !Γ.hot && par3C Γ i j l es tg v
  | _, _, _, _ => false
def asg1 (Γ : Gam) : T → E → Expr → Expr → Bool
  | .n i, e, tg, v => decide (i ∉ Γ.ms) && asgN Γ i e tg v
  | t, _, tg, v => asgT Γ t tg v
mutual
def chkS (Γ : Gam) : S → Stmt → Bool
  | .asg t e, s => match asAsg s with
    | some (tg, v, _) => (match (chk Γ e v).1 with
      | some k => k.stb && asg1 Γ t e tg v
      | none => false) || par Γ t e tg v
    | none => false
  | .masg i e, s => match asAsg s with
    | some (tg, v, _) => match (chk Γ e v).1 with
      | some k => k.own && decide (i ∉ Γ.pins) && asgN Γ i e tg v
      | none => false
    | none => false
  | .aug i op e, s => match asAug s with
    | some (x, o, v) => decide (op = o) && locB Γ i x && decide (i ∉ Γ.ms) && (match (chk Γ e v).1 with
      | some k => k.stb
      | none => false)
    | none => false
  | .app i e, s => match asApp s with
    | some (x, v) => visB Γ i x && decide (i ∈ Γ.ms) && noStar v && (match (chk Γ e v).1 with
      | some k => k.own
      | none => false)
    | none => false
  | .set i p e, s => match asAsg s with
    | some (tg, v, _) => match asSub tg with
      | some (y, z) => match asN y with
        | some x => visB Γ i x && decide (i ∈ Γ.ms) && plainIx z && !isComp v && (asTup v).isSome == false && (match (chk Γ e v).1, (chk Γ p z).1 with
          | some k1, some k2 => k1.own && k2.nor
          | _, _ => false)
        | none => false
      | none => false
    | none => false
  | .augs _ _ _ _, _ => false
  | .ex e, s => match asEx s with
    | some v => !isComp v && (chk Γ e v).1.isSome
    | none => false
  | .ret e, s => match asRet s with
    | some (some v) => match (chk Γ e v).1 with
      | some k => k.stb && (!Γ.fresh || k.own)
      | none => false
    | _ => false
  | .retn, s => match asRet s with
    | some none => true
    | _ => false
  | .ite c a b, s => match asIfS s with
    | some (x, y, z) => (chk Γ c x).2.isSome && chkSs Γ a y && chkSs Γ b z
    | none => false
  | .for t it b, s => match asFor s with
    | some (tg, i, y) => !Γ.hot && notSet i && chkG Γ t tg && (match chki Γ it tg i with
      | some r => r.1
      | none => false) && chkSs Γ b y
    | none => false
  | .form t i b, s => match asFor s with
    | some (tg, it, y) => match asN it with
      | some x => !Γ.hot && visB Γ i x && decide (i ∈ Γ.ms) && chkG { Γ with pins := i :: Γ.pins } t tg && chkSs { Γ with pins := i :: Γ.pins } b y
      | none => false
    | none => false
  | .whl c b, s => match asWhl s with
    | some (x, y) => (chk Γ c x).2.isSome && chkSs Γ b y
    | none => false
  | .raise c e, s => match asRaise s with
    | some (x, v) => !Γ.hot && noStar v && glB Γ x && (match Γ.xs[c]? with
      | some t => decide (t.x = x) && decide (c ≠ 0) && (t.f == ("__debug__" : Str)) == false && (t.f == ("__classdict__" : Str)) == false
      | none => false) && (chk Γ e v).1.isSome
    | none => false
  | .try b c i cs h, s => match asTry s with
    | some (body, x, m, s0, suite) => !Γ.hot && glB Γ x && decide (Γ.N[i]? = some m) && decide (Γ.sc.names.lookup m = some .local) && decide (i ∉ Γ.ms) && (match Γ.xs[c]? with
      | some t => decide (t.x = x)
      | none => false) && (cs.all fun d => decide (d < Γ.xs.length)) && chkSs { Γ with tf := false } b body && !Γ.cl && chkSs { Γ with hot := true, tf := false } h (s0 :: suite)
    | none => false
  | .tryf b c cs d p, s => match asTryF s with
    | some (body, x, y, v) => !Γ.hot && !Γ.cl && Γ.tf && glB Γ x && (match Γ.xs[c]? with
      | some t => decide (t.x = x)
      | none => false) && (cs.all fun d => decide (d < Γ.xs.length)) && chkSs { Γ with tf := false, cl := true } b body && glB Γ y && (match Γ.xs[d]? with
      | some t => decide (t.x = y) && decide (d ≠ 0) && (t.f == ("__debug__" : Str)) == false && (t.f == ("__classdict__" : Str)) == false
      | none => false) && (match asC v with
      | some w => (match ofC w with
        | some q => flatEq p q
        | none => false)
      | none => false)
    | none => false
  | .brk, s => isBrk s
  | .cont, s => isCont s
  | .pass, s => isPass s
  | .bad, _ => true
def chkSs (Γ : Gam) : Ss → List Stmt → Bool
  | .nil, l => l.isEmpty
  | .cons s ss, l => match l with
    | x :: xs => chkS Γ s x && chkSs Γ ss xs
    | [] => false
end
section
variable {Γ : Gam} {n : Nat} {C : Calls} {X : Cx} {R : Fr0} {W : WXX} {Wf : Nat}
theorem locB_of {i : Nat} {x : Str} (h1 : Γ.N[i]? = some x) (h2 : Γ.sc.names.lookup x = some .local) : locB Γ i x = true := by
  unfold locB
  rw [h2, h1]; simp
theorem swN_local {v : Expr} {x : Str} {p : Pos} (h : swN Γ v x p = true) : Γ.sc.names.lookup x = some .local := by
  unfold swN at h
  split at h
  · simp only [Bool.and_eq_true, decide_eq_true_eq] at h
    exact h.1.1
  · cases h
/-- name = e: into a slot that owns nothing -/
theorem asgN_ok (o : OkX Γ n C X R W) {i : Nat} {e : E} {tg v : Expr} {pos : Pos} {k : Kd} (hm : i ∉ Γ.ms) (hk : (chk Γ e v).1 = some k) (hs : k.stb = true) (h : asgN Γ i e tg v = true) :
    PS X (.Assign [tg] v pos) (rdS R W Γ.fresh fun env => (evalE C e env).out fun r => (ofO (Ev.assign (.n i) r.1 r.2)).out fun en => .nx en) := by
  unfold asgN at h
  split at h
  · rename_i x p ex
    have ex := asNP_eq ex
    subst ex
    simp only [Bool.and_eq_true, decide_eq_true_eq] at h
    obtain ⟨⟨h1, h2⟩, h3⟩ := h
    have sw := sw_is (p := p) (x := x) (l := pos.line) o.sc h2 h1
    by_cases c : swN Γ v x p = true
    · rw [if_pos c] at h3
      rw [c] at sw
      obtain ⟨h5, h4⟩ := Bool.and_eq_true_iff.mp h3
      have h5 := of_decide_eq_true h5
      cases e with
      | comp own t it cc ee =>
        have hl := swN_local c
        obtain ⟨te, ps, hte⟩ := comp_set o hk (i := i) (y := x) (py := p) (spos := pos) (by rw [o.N]; exact h5) (by rw [o.sc]; exact hl) sw
        exact asg_of ps hte (vN o hm) hs
      | comp2 own t it cc own1 t1 it1 cc1 ee =>
        have hl := swN_local c
        obtain ⟨te, ps, hte⟩ := comp_set2 o hk (i := i) (y := x) (py := p) (spos := pos) (by rw [o.N]; exact h5) (by rw [o.sc]; exact hl) sw
        exact asg_of ps hte (vN o hm) hs
      | _ => cases h4
    · rw [if_neg c] at h3
      have c' : swN Γ v x p = false := by simpa using c
      rw [c'] at sw
      obtain ⟨l1, l2, l3⟩ := o.loc h3
      exact es_asgN o.nd l1 l2 l3 (vN o hm) ((chk_ok C e o v).1 k hk) hs sw
  · cases h
theorem masgN_ok (o : OkX Γ n C X R W) {i : Nat} {e : E} {tg v : Expr} {pos : Pos} {k : Kd} (hp : i ∉ Γ.pins) (hk : (chk Γ e v).1 = some k) (ho : k.own = true) (h : asgN Γ i e tg v = true) :
    PS X (.Assign [tg] v pos) (rdS R W Γ.fresh fun env => (evalE C e env).out fun r => .nx (r.2.set i r.1)) := by
  unfold asgN at h
  split at h
  · rename_i x p ex
    have ex := asNP_eq ex
    subst ex
    simp only [Bool.and_eq_true, decide_eq_true_eq] at h
    obtain ⟨⟨h1, h2⟩, h3⟩ := h
    have sw := sw_is (p := p) (x := x) (l := pos.line) o.sc h2 h1
    by_cases c : swN Γ v x p = true
    · rw [if_pos c] at h3
      rw [c] at sw
      obtain ⟨h5, h4⟩ := Bool.and_eq_true_iff.mp h3
      have h5 := of_decide_eq_true h5
      cases e with
      | comp own t it cc ee =>
        have hl := swN_local c
        obtain ⟨te, ps, hte⟩ := comp_set o hk (i := i) (y := x) (py := p) (spos := pos) (by rw [o.N]; exact h5) (by rw [o.sc]; exact hl) sw
        exact masg_of ps hte (o.pin i hp) ho
      | comp2 own t it cc own1 t1 it1 cc1 ee =>
        have hl := swN_local c
        obtain ⟨te, ps, hte⟩ := comp_set2 o hk (i := i) (y := x) (py := p) (spos := pos) (by rw [o.N]; exact h5) (by rw [o.sc]; exact hl) sw
        exact masg_of ps hte (o.pin i hp) ho
      | _ => cases h4
    · rw [if_neg c] at h3
      have c' : swN Γ v x p = false := by simpa using c
      rw [c'] at sw
      obtain ⟨l1, l2, l3⟩ := o.loc h3
      exact es_masg o.nd l1 l2 l3 (o.pin i hp) ((chk_ok C e o v).1 k hk) ho sw
  · cases h
theorem asgT_ok (o : OkX Γ n C X R W) {t : T} {e : E} {tg v : Expr} {pos : Pos} {k : Kd} (hk : (chk Γ e v).1 = some k) (hs : k.stb = true) (h : asgT Γ t tg v = true) :
    PS X (.Assign [tg] v pos) (rdS R W Γ.fresh fun env => (evalE C e env).out fun r => (ofO (Ev.assign t r.1 r.2)).out fun en => .nx en) := by
  unfold asgT at h
  simp only [Bool.and_eq_true, Bool.not_eq_true'] at h
  obtain ⟨⟨h1, h2⟩, h3⟩ := h
  obtain ⟨g, ns⟩ := chkG_ok o t tg h1
  refine es_asg ((chk_ok C e o v).1 k hk) hs g h2 ?_ ns
  split at h3
  · rename_i e1
    exact sw0 (by rw [e1]; rfl)
  · rename_i vs ts e1 e2
    obtain ⟨k1, p1, rfl⟩ := asTup_eq e1
    obtain ⟨k2, p2, rfl⟩ := asTup_eq e2
    rcases Bool.or_eq_true_iff.mp h3 with h3 | h3
    · exact swL (by rw [Bool.not_eq_true'] at h3; exact h3)
    · exact swC o.sc h3
  · cases h3
theorem par_ok (o : OkX Γ n C X R W) {t : T} {e : E} {tg v : Expr} {pos : Pos} (h : par Γ t e tg v = true) :
    PS X (.Assign [tg] v pos) (rdS R W Γ.fresh fun env => (evalE C e env).out fun r => (ofO (Ev.assign t r.1 r.2)).out fun en => .nx en) := by
  unfold par at h
  split at h
  · rename_i i j es
    rw [Bool.and_eq_true] at h
    obtain ⟨h0, h⟩ := h
    have hh : Γ.hot = false := by simpa using h0
    unfold par2C at h
    split at h
    · rename_i x px y py kt pt a b k2 pt2
      simp only [Bool.and_eq_true, decide_eq_true_eq, beq_iff_eq] at h
      obtain ⟨⟨⟨⟨⟨⟨⟨⟨⟨⟨⟨⟨⟨⟨h1, h2⟩, h3⟩, h4⟩, h5⟩, h6⟩, h7⟩, h8⟩, h9⟩, h10⟩, h11⟩, h12⟩, h13⟩, h14⟩, h15⟩ := h
      split at h1
      · rename_i r hr
        have ra := (chks_ok C es o [a, b] r hr).1
        rw [h1] at ra
        exact es_par (o.calm hh) o.nd (by rw [o.N]; exact h3) (by rw [o.N]; exact h4) h5 (vN o h6) (vN o h7) (by rw [o.sc]; exact h8) (by rw [o.sc]; exact h9) ra
          (sw2 (by rw [o.sc]; exact h2) (by rw [o.sc]; exact h8) (by rw [o.sc]; exact h9) (by simpa using h10) h11 h12 h13 h14 h15)
      · cases h1
    · cases h
  · rename_i i j l es
    rw [Bool.and_eq_true] at h
    obtain ⟨h0, h⟩ := h
    have hh : Γ.hot = false := by simpa using h0
    unfold par3C at h
    split at h
    · rename_i x px y py z pz kt pt a b c k2 pt2
      simp only [Bool.and_eq_true, decide_eq_true_eq, beq_iff_eq] at h
      obtain ⟨⟨⟨⟨⟨⟨⟨⟨⟨⟨⟨⟨⟨⟨⟨⟨⟨⟨⟨⟨⟨⟨⟨h1, h2⟩, h3⟩, h4⟩, hz4⟩, h5⟩, hz5⟩, hy5⟩, h6⟩, h7⟩, hz7⟩, h8⟩, h9⟩, hz9⟩, h10⟩, hz10⟩, h11⟩, hz11⟩, hy11⟩, h12⟩, h13⟩, hz13⟩, h14⟩, h15⟩ := h
      split at h1
      · rename_i r hr
        have ra := (chks_ok C es o [a, b, c] r hr).1
        rw [h1] at ra
        exact es_par3 (o.calm hh) o.nd (by rw [o.N]; exact h3) (by rw [o.N]; exact h4) (by rw [o.N]; exact hz4) h5 hz5 hy5 (vN o h6) (vN o h7) (vN o hz7) (by rw [o.sc]; exact h8) (by rw [o.sc]; exact h9) (by rw [o.sc]; exact hz9) ra
          (sw3 (by rw [o.sc]; exact h2) (by rw [o.sc]; exact h8) (by rw [o.sc]; exact h9) (by rw [o.sc]; exact hz9) (by simpa using h10) (by simpa using hz10) h11 hz11 hy11 h12 h13 hz13 h14 h15)
      · cases h1
    · cases h
  · cases h
theorem OkX.tr (o : OkX Γ n C X R W) (hh : Γ.hot = false) {W' : WXX} (pn : List (Addr × Obj)) (xe : Value → Shared → Prop) (cl : Bool) (tkn : L2N.Takes (X.tr pn xe) W') (tk : cl = false → L2.Takes (X.tr pn xe) W') : OkX { Γ with tf := false, cl := cl } n C (X.tr pn xe) R W' :=
  { N := o.N, nd := o.nd, sc := o.sc, fn := o.fn, calm := o.calm, K := o.K, ms := o.ms, br := o.br, pin := o.pin, gu := o.gu, n2 := o.n2, un := o.un, room := o.room, tkn := tkn, tk := tk, pa := fun z => Bool.noConfusion z, rm := o.rm, blt := o.blt, cs := o.cs, xs := o.xs,
    ex := fun a c d e => by rw [o.exn hh] at e; cases e
    exh := o.exh, exn := o.exn, glo := o.glo, call := o.call, hcall := o.hcall }
theorem OkX.suite (o : OkX Γ n C X R W) {a : Addr} {oe : Obj} {d : Nat} {dd : Addr} (pn : List (Addr × Obj)) (hz : Zc (.ref (R.cls d)) (some dd) oe) (hv : ∃ vs, oe.data = .fields vs) (hs : ∃ s, Γ.xs[d]? = some s) :
    OkX { Γ with hot := true, tf := false } n C (X.suite a ((a, oe) :: pn)) (R.on (a, d, dd)) (fun _ _ _ _ => False) :=
  { N := o.N, nd := o.nd, sc := o.sc, fn := o.fn, calm := fun z => Bool.noConfusion z, K := o.K, ms := o.ms, br := o.br, pin := o.pin, gu := o.gu, n2 := o.n2, un := o.un, room := fun z => Bool.noConfusion z, tkn := takes_n tk0, tk := fun _ => tk0, pa := fun z => Bool.noConfusion z, rm := ⟨o.rm.dp, o.rm.un⟩, blt := o.blt, cs := o.cs, xs := o.xs,
    ex := fun a2 c2 d2 e => by
      cases e
      exact ⟨⟨rfl, oe, List.mem_cons_self, hz, hv⟩, hs⟩
    exh := fun _ => ⟨_, rfl⟩
    exn := fun z => Bool.noConfusion z, glo := o.glo, call := fun z => Bool.noConfusion z, hcall := o.hcall }
theorem OkX.pinAt (o : OkX Γ n C X R W) (i : Nat) (v : V) : OkX { Γ with pins := i :: Γ.pins } n C X (R.pinAt i v) W where
  N := o.N
  nd := o.nd
  sc := o.sc
  fn := o.fn
  calm := o.calm
  K := o.K
  ms := o.ms
  br := o.br
  pin := fun j hj => by
    have c : j ≠ i := fun e => hj (by rw [e]; exact List.mem_cons_self)
    exact (if_neg c).trans (o.pin j fun z => hj (List.mem_cons_of_mem _ z))
  gu := o.gu
  n2 := o.n2
  un := o.un
  room := o.room
  tkn := o.tkn
  tk := o.tk
  pa := o.pa
  rm := o.rm
  blt := o.blt
  cs := o.cs
  xs := o.xs
  ex := o.ex
  exh := o.exh
  exn := o.exn
  glo := o.glo
  call := o.call
  hcall := o.hcall
mutual
theorem chkS_ok {C : Calls} {Wf : Nat} : ∀ (s : S) {Γ : Gam} {n : Nat} {X : Cx} {R : Fr0} {W : WXX} (_ : OkX Γ n C X R W) (_ : PassesOwn (model X.prog X.w) X.A X.env X.xe) (_ : X.stack = X.env :: X.outer ∧ X.env.frame = some X.env.locals) (x : Stmt), chkS Γ s x = true → PS X x (rdS R W Γ.fresh (evalS C Wf s))
  | .asg t e, Γ, n, X, R, W, o, hp, hst, x, h => by
    simp only [chkS] at h
    split at h
    · rename_i tg v pos ex
      have ex := asAsg_eq ex
      subst ex
      rcases Bool.or_eq_true_iff.mp h with h | h
      · split at h
        · rename_i k hk
          obtain ⟨h1, h2⟩ := Bool.and_eq_true_iff.mp h
          unfold asg1 at h2
          split at h2
          · obtain ⟨h2, h3⟩ := Bool.and_eq_true_iff.mp h2
            exact asgN_ok o (of_decide_eq_true h2) hk h1 h3
          · exact asgT_ok o hk h1 h2
        · cases h
      · exact par_ok o h
    · cases h
  | .masg i e, Γ, n, X, R, W, o, hp, hst, x, h => by
    simp only [chkS] at h
    split at h
    · rename_i tg v pos ex
      have ex := asAsg_eq ex
      subst ex
      split at h
      · rename_i k hk
        simp only [Bool.and_eq_true, decide_eq_true_eq] at h
        obtain ⟨⟨h1, h2⟩, h3⟩ := h
        exact masgN_ok o h2 hk h1 h3
      · cases h
    · cases h
  | .aug i op e, Γ, n, X, R, W, o, hp, hst, x, h => by
    simp only [chkS] at h
    split at h
    · rename_i y op' v ex
      obtain ⟨p, q, rfl⟩ := asAug_eq ex
      simp only [Bool.and_eq_true, decide_eq_true_eq] at h
      obtain ⟨⟨⟨rfl, h2⟩, h3⟩, h4⟩ := h
      split at h4
      · rename_i k hk
        obtain ⟨l1, l2, l3⟩ := o.loc h2
        exact es_aug o.K h4 (vN o h3) o.nd l1 l2 l3 ((chk_ok C e o v).1 k hk)
      · cases h4
    · cases h
  | .app i e, Γ, n, X, R, W, o, hp, hst, x, h => by
    simp only [chkS] at h
    split at h
    · rename_i y v ex
      obtain ⟨p1, ap, cp, p, hl, rfl⟩ := asApp_eq ex
      simp only [Bool.and_eq_true, decide_eq_true_eq] at h
      obtain ⟨⟨⟨h1, h2⟩, h3⟩, h4⟩ := h
      split at h4
      · rename_i k hk
        obtain ⟨v1, v2, v3, v4⟩ := o.vis h1
        exact es_app (vNy o h2) v1 v2 v3 v4 ((chk_ok C e o v).1 k hk) h4 h3 hl
      · cases h4
    · cases h
  | .set i p e, Γ, n, X, R, W, o, hp, hst, x, h => by
    simp only [chkS] at h
    split at h
    · rename_i tg v pos ex
      have ex := asAsg_eq ex
      subst ex
      split at h
      · rename_i y z e2
        obtain ⟨sp, rfl⟩ := asSub_eq e2
        split at h
        · rename_i w e3
          obtain ⟨px, rfl⟩ := asN_eq e3
          simp only [Bool.and_eq_true, decide_eq_true_eq, Bool.not_eq_true', beq_iff_eq] at h
          obtain ⟨⟨⟨⟨⟨h1, h2⟩, h3⟩, h4⟩, h5⟩, h6⟩ := h
          split at h6
          · rename_i k1 k2 hk1 hk2
            obtain ⟨h6, h7⟩ := Bool.and_eq_true_iff.mp h6
            obtain ⟨v1, v2, v3, v4⟩ := o.vis h1
            exact es_set (vNy o h2) v1 v2 v3 v4 ((chk_ok C e o v).1 k1 hk1) h6 ((chk_ok C p o z).1 k2 hk2) h7 h3 h4 (sw0 h5)
          · cases h6
        · cases h
      · cases h
    · cases h
  | .augs _ _ _ _, Γ, n, X, R, W, o, hp, hst, x, h => by simp [chkS] at h
  | .ex e, Γ, n, X, R, W, o, hp, hst, x, h => by
    simp only [chkS] at h
    split at h
    · rename_i v ex
      obtain ⟨p, rfl⟩ := asEx_eq ex
      simp only [Bool.and_eq_true, Bool.not_eq_true'] at h
      obtain ⟨h1, h2⟩ := h
      obtain ⟨k, hk⟩ := Option.isSome_iff_exists.mp h2
      exact es_ex ((chk_ok C e o v).1 k hk) h1
    · cases h
  | .ret e, Γ, n, X, R, W, o, hp, hst, x, h => by
    simp only [chkS] at h
    split at h
    · rename_i v ex
      obtain ⟨p, rfl⟩ := asRet_eq ex
      split at h
      · rename_i k hk
        obtain ⟨h1, h2⟩ := Bool.and_eq_true_iff.mp h
        exact es_ret ((chk_ok C e o v).1 k hk) h1 fun c => by rw [c] at h2; simpa using h2
      · cases h
    · cases h
  | .retn, Γ, n, X, R, W, o, hp, hst, x, h => by
    simp only [chkS] at h
    split at h
    · rename_i ex
      obtain ⟨p, rfl⟩ := asRet_eq ex
      exact es_retN
    · cases h
  | .ite c a b, Γ, n, X, R, W, o, hp, hst, x, h => by
    simp only [chkS] at h
    split at h
    · rename_i y z u ex
      obtain ⟨p, rfl⟩ := asIfS_eq ex
      simp only [Bool.and_eq_true] at h
      obtain ⟨⟨h1, h2⟩, h3⟩ := h
      obtain ⟨m, hm⟩ := Option.isSome_iff_exists.mp h1
      exact es_ite ((chk_ok C c o y).2 m hm).1 (chkSs_ok a o hp hst z h2) (chkSs_ok b o hp hst u h3)
    · cases h
  | .for t it b, Γ, n, X, R, W, o, hp, hst, x, h => by
    simp only [chkS] at h
    split at h
    · rename_i tg i y ex
      obtain ⟨p, rfl⟩ := asFor_eq ex
      simp only [Bool.and_eq_true, Bool.not_eq_true'] at h
      obtain ⟨⟨⟨⟨hh, h1⟩, h2⟩, h3⟩, h4⟩ := h
      split at h3
      · rename_i r hr
        have ri := chki_ok C it o tg i r hr
        rw [h3] at ri
        exact es_for hp (o.calm hh) ri (chkG_ok o t tg h2).1 (chkSs_ok b o hp hst y h4) h1
      · cases h3
    · cases h
  | .form t i b, Γ, n, X, R, W, o, hp, hst, x, h => by
    simp only [chkS] at h
    split at h
    · rename_i tg it y ex
      obtain ⟨p, rfl⟩ := asFor_eq ex
      split at h
      · rename_i z e2
        obtain ⟨px, rfl⟩ := asN_eq e2
        simp only [Bool.and_eq_true, Bool.not_eq_true', decide_eq_true_eq] at h
        obtain ⟨⟨⟨⟨hh, h1⟩, h2⟩, h3⟩, h4⟩ := h
        obtain ⟨v1, v2, v3, v4⟩ := o.vis h1
        exact es_form hp (o.calm hh) o.K (vNy o h2) v1 v2 v3 v4 (fun v => (chkG_ok (o.pinAt i v) t tg h3).1) (fun v => chkSs_ok b (o.pinAt i v) hp hst y h4)
      · cases h
    · cases h
  | .whl c b, Γ, n, X, R, W, o, hp, hst, x, h => by
    simp only [chkS] at h
    split at h
    · rename_i y z ex
      obtain ⟨p, rfl⟩ := asWhl_eq ex
      simp only [Bool.and_eq_true] at h
      obtain ⟨h1, h2⟩ := h
      obtain ⟨m, hm⟩ := Option.isSome_iff_exists.mp h1
      exact es_whl hp ((chk_ok C c o y).2 m hm).1 (chkSs_ok b o hp hst z h2)
    · cases h
  | .raise c e, Γ, n, X, R, W, o, hp, hst, x, h => by
    simp only [chkS] at h
    split at h
    · rename_i y v ex
      obtain ⟨p, q, w, rfl⟩ := asRaise_eq ex
      simp only [Bool.and_eq_true, Bool.not_eq_true'] at h
      obtain ⟨⟨⟨⟨hh, h1⟩, h2⟩, h3⟩, h4⟩ := h
      obtain ⟨k, hk⟩ := Option.isSome_iff_exists.mp h4
      split at h3
      · rename_i t et
        simp only [Bool.and_eq_true, decide_eq_true_eq, beq_iff_eq] at h3
        obtain ⟨⟨⟨rfl, h5⟩, h6⟩, h7⟩ := h3
        obtain ⟨T, ef⟩ := o.xs c t et
        obtain ⟨fI, Fn, q2, XC, hb⟩ := T.made h5
        obtain ⟨g1, g2, g3⟩ := o.gl h2
        exact es_raise (o.calm hh) o.tkn ((o.room hh).mono o.n2) XC ef o.K (o.blt _ (show ("super" : Str) ∈ bltNames by decide +kernel)) h6 h7 hb g1 T.glo g2 ((chk_ok C e o v).1 k hk) h1
      · cases h3
    · cases h
  | .try b c i cs hd, Γ, n, X, R, W, o, hp, hst, x, h => by
    simp only [chkS] at h
    split at h
    · rename_i body y m s0 suite ex
      obtain ⟨p, q, w, rfl⟩ := asTry_eq ex
      simp only [Bool.and_eq_true, Bool.not_eq_true', decide_eq_true_eq, List.all_eq_true] at h
      obtain ⟨⟨⟨⟨⟨⟨⟨⟨⟨hh, h1⟩, h2⟩, h3⟩, h4⟩, h5⟩, h6⟩, h7⟩, hcl⟩, h8⟩ := h
      split at h5
      · rename_i t et
        obtain rfl := of_decide_eq_true h5
        obtain ⟨T, ef⟩ := o.xs c t et
        obtain ⟨g1, g2, g3⟩ := o.gl h1
        have at_ : ∀ d ∈ cs, ∃ s, Γ.xs[d]? = some s := fun d hd => ⟨_, List.getElem?_eq_getElem (h6 d hd)⟩
        exact es_try hst.1 hst.2 o.nd (by rw [o.N]; exact h2) (by show X.env.scope.names.lookup m = _; rw [o.sc]; exact h3) ⟨g1, g2, .inl T.glo⟩ (o.tk hcl) (o.exn hh) (vN o h4)
          (fun d hd => let ⟨s, es⟩ := at_ d hd; T.exm d s es)
          (fun W' pn xe tk' pa => chkSs_ok b (o.tr hh pn xe Γ.cl (takes_n tk') (fun _ => tk')) pa hst body h7)
          (fun a oe d dd pn hdc hz hv => chkSs_ok hd (o.suite pn hz hv (at_ d hdc)) PassesOwn.never hst _ h8)
      · cases h5
    · cases h
  | .tryf b c cs d p, Γ, n, X, R, W, o, hp, hst, x, h => by
    simp only [chkS] at h
    split at h
    · rename_i body y z v ex
      obtain ⟨p1, p2, p3, j, p4, p5, p6, p7, rfl⟩ := asTryF_eq ex
      simp only [Bool.and_eq_true, Bool.not_eq_true', List.all_eq_true, decide_eq_true_eq] at h
      obtain ⟨⟨⟨⟨⟨⟨⟨⟨⟨hh, hcl⟩, htf⟩, h1⟩, h5⟩, h6⟩, h7⟩, h8⟩, h9⟩, h10⟩ := h
      split at h5
      · rename_i t et
        obtain rfl := of_decide_eq_true h5
        obtain ⟨T, ef⟩ := o.xs c t et
        obtain ⟨g1, g2, g3⟩ := o.gl h1
        split at h9
        · rename_i t2 et2
          simp only [Bool.and_eq_true, decide_eq_true_eq, beq_iff_eq] at h9
          obtain ⟨⟨⟨rfl, h11⟩, h12⟩, h13⟩ := h9
          obtain ⟨T2, ef2⟩ := o.xs d t2 et2
          obtain ⟨fI, Fn, q2, XC, hb⟩ := T2.made h11
          obtain ⟨k1, k2, k3⟩ := o.gl h8
          split at h10
          · rename_i w ew
            obtain ⟨jj, pp, rfl⟩ := asC_eq ew
            split at h10
            · rename_i q eq
              have pq := flatEq_eq h10
              subst pq
              have at_ : ∀ d ∈ cs, ∃ s, Γ.xs[d]? = some s := fun d hd => ⟨_, List.getElem?_eq_getElem (h6 d hd)⟩
              exact es_tryf (evh := fun env => (Res.ok (p, env)).out fun r => if xarg r.1 = true then .raise d r.1 r.2 else .fail) hst.1 hst.2 ⟨g1, g2, .inl T.glo⟩ (o.pa htf) (o.tk hcl)
                (fun d hd => let ⟨s, es⟩ := at_ d hd; T.exm d s es)
                (fun W' pn xe tk' pa => chkSs_ok b (o.tr hh pn xe true tk' nofun) pa hst body h7)
                (fun a pn tkS hot => es_raiseN (X := L2H.suiteX X a pn) hot tkS (⟨(o.rm.mono o.n2).dp, (o.rm.mono o.n2).un⟩) XC ef2 (o.blt _ (show ("super" : Str) ∈ bltNames by decide +kernel)) h12 h13 hb k1 T2.glo k2 (ev_c' (kd := kC) eq) rfl)
            · cases h10
          · cases h10
        · cases h9
      · cases h5
    · cases h
  | .brk, Γ, n, X, R, W, o, hp, hst, x, h => by
    cases x <;> first | (simp [chkS, isBrk] at h; done) | exact es_brk
  | .cont, Γ, n, X, R, W, o, hp, hst, x, h => by
    cases x <;> first | (simp [chkS, isCont] at h; done) | exact es_cont
  | .pass, Γ, n, X, R, W, o, hp, hst, x, h => by
    cases x <;> first | (simp [chkS, isPass] at h; done) | exact es_pass
  | .bad, Γ, n, X, R, W, o, hp, hst, x, h => es_never
theorem chkSs_ok {C : Calls} {Wf : Nat} : ∀ (s : Ss) {Γ : Gam} {n : Nat} {X : Cx} {R : Fr0} {W : WXX} (_ : OkX Γ n C X R W) (_ : PassesOwn (model X.prog X.w) X.A X.env X.xe) (_ : X.stack = X.env :: X.outer ∧ X.env.frame = some X.env.locals) (x : List Stmt), chkSs Γ s x = true → PSs X x (rdS R W Γ.fresh (evalSs C Wf s))
  | .nil, Γ, n, X, R, W, o, hp, hst, x, h => by
    simp only [chkSs, List.isEmpty_iff] at h
    subst h
    exact es_nil
  | .cons s ss, Γ, n, X, R, W, o, hp, hst, [], h => by simp [chkSs] at h
  | .cons s ss, Γ, n, X, R, W, o, hp, hst, x :: xs, h => by
    simp only [chkSs, Bool.and_eq_true] at h
    exact es_cons (chkS_ok s o hp hst x h.1) (chkSs_ok ss o hp hst xs h.2)
end
end
end Ev

/-! EvX4: what the head tells of the classes of errors. -/
namespace Ev
open PySem PySem.Spec PyProof.Rows L2 NdefX
/-- a class of errors by its text: its name, the field, its __init__ -/
structure XD where
  x : Str
  f : Str
  name : Str
  qual : Str
  params : Arguments
  scope : Scope
  q : XPos
abbrev XW : Type := Option (Str × Str × Arguments × FuncBody × Scope × Addr × List Str × Addr)
/-- the words of a class statement's first def -/
def clsDef (s : Stmt) : Stmt := match s with
  | .ClassDef _ _ _ (d :: _) _ _ _ _ _ _ _ => d
  | s => s
def posOf (b : List Stmt) : XPos := match b with
  | [.Expr (.Call (.Attribute (.Call (.Name _ p0) _ _ p1) _ p2) [.JoinedStr [.Constant (.str pre) j p3, .FormattedValue (.Name _ pa) _ _ pb] p4] _ p5) p6, .Assign [.Attribute (.Name _ p7) _ p8] (.Name _ p9) pc] =>
    ⟨p0, p1, p2, p3, p4, p5, p6, p7, p8, p9, pa, pb, pc, j, pre⟩
  | _ => let z : Pos := ⟨0, 0, 0, 0⟩; ⟨z, z, z, z, z, z, z, z, z, z, z, z, z, 0, ""⟩
def XD.body (d : XD) : List Stmt := xBody d.q d.f
def XD.val (d : XD) : XW := some (d.name, d.qual, d.params, .stmts d.body, d.scope, mainGlobals, ["__class__"], builtinsNs)
def xInit (K : PySem.W.Frag) (x : Str) : Addr := He.ma K (He.ga K x) "__init__"
def xW (K : PySem.W.Frag) (x : Str) : XW := match K.lookup (xInit K x) with
  | some ⟨_, _, .func fd, _⟩ => some (fd.name, fd.qualname, fd.params, fd.body, fd.scope, fd.globals, fd.closure.map (·.1), fd.builtins)
  | _ => none
def eqB (a b : Option Bool) : Bool := decide (a = b)
def eqV (a b : Option Value) : Bool := decide (a = b)
def oexB (K : PySem.W.Frag) (C : Addr) : Bool := match K.lookup C with
  | some ⟨.type "type", _, .cls cd, sl⟩ => (match cd.mro, sl.toList with
    | .ref D :: bm, [_, _, _, _, some (.builtin n), _] => D == C && n == "ValueError.__new__" && !cd.hasDel && cd.hasDict && PySem.HandSPX.refsVE bm
    | _, _ => false)
  | _ => false
theorem oexB_ok {K : PySem.W.Frag} {C : Addr} (h : oexB K C = true) :
    ∃ n1 n2 N bs bm s1 s2 ab co dd k0 k1 k2 k3 k5, K.lookup C = some (excClassObj n1 n2 C N bs bm true s1 s2 ab co dd k0 k1 k2 k3 k5 "ValueError.__new__") ∧ PySem.HandSPX.refsVE bm = true := by
  unfold oexB at h
  split at h
  · rename_i dd cd sl ho
    split at h
    · rename_i D bm k0 k1 k2 k3 n k5 hm hs
      simp only [Bool.and_eq_true, beq_iff_eq, Bool.not_eq_true'] at h
      obtain ⟨⟨⟨⟨rfl, rfl⟩, h1⟩, h2⟩, h3⟩ := h
      obtain ⟨n1, bs, mro, N, n2, hd, s1, s2, ab, co, dl⟩ := cd
      dsimp only at hm h1 h2
      subst hm h1 h2
      have e : sl = #[k0, k1, k2, k3, some (.builtin "ValueError.__new__"), k5] := by
        obtain ⟨l⟩ := sl
        simp only at hs
        rw [hs]
      subst e
      exact ⟨n1, n2, N, bs, bm, s1, s2, ab, co, dd, k0, k1, k2, k3, k5, ho, h3⟩
    · cases h
  · cases h
/-- the function object of an __init__ -/
def xFn (P : Program) (K : PySem.W.Frag) (C fI : Addr) : Bool := match K.lookup fI with
  | some ⟨_, _, .func fd, _⟩ => decide (fd.defaults = .none) && decide (fd.kwdefaults = .none) && decide (fd.annotations = none) && PySem.W.codeIn K fd.code fd.qualname && (match fd.code with
    | .ref c => (match K.lookup c with
      | some ⟨_, _, .fields vs, _⟩ => (match (vs[2]? : Option Value) with
        | some (Value.str file _) => (P.main.file : Str) == file
        | _ => false)
      | _ => false)
    | _ => false) && (match fd.closure with
    | [(_, cc)] => (match K.lookup cc with
      | some ⟨_, _, .cell (some (.ref D)), _⟩ => decide (D = C)
      | _ => false)
    | _ => false)
  | _ => false
/-- what is decided of the class's text alone -/
def xdB (P : Program) (d : XD) : Bool :=
  nscB ["self", d.f, "__class__"] ["self", d.f] ["__class__"] d.scope && decide (d.scope.names.lookup ("super" : Str) = some .globalImplicit) && d.params.posonlyargs.isEmpty && (match d.params.args with
    | a :: _ => decide (a.arg = "self")
    | _ => false) && (P.main.scope.names.lookup ("super" : Str)).isNone && decide (d.q.pre.length ≤ 1000) && (d.q.p2.endLine == d.q.p5.line)
/-- .. of the class c of the base (c = 0) or of the class with the text d -/
def xcB (P : Program) (K : PySem.W.Frag) (xs : List XSig) (c : Nat) (x f : Str) : Bool :=
  He.eqO (PySem.W.nsIn K mainGlobals x) (some (some (.ref (He.ga K x)))) && ((List.range xs.length).all fun d => match xs[d]? with
    | some t => eqB (PySem.W.exmOne K (.ref (He.ga K t.x)) (.ref (He.ga K x))) (some (c == 0 || c == d)) && eqB (PySem.W.kitOne K (.ref (He.ga K t.x)) (.ref (He.ga K x))) (some (c == 0 || c == d))
    | none => true) && eqB (PySem.W.kitOne K (.ref (He.ga K x)) (.type "ValueError")) (some true) &&
  (He.eqO (PySem.W.findIn K (.ref (He.ga K x)) "__getattribute__") (some (some (.builtin "BaseException.__getattribute__"))) && He.eqO (PySem.W.findIn K (.ref (He.ga K x)) "__getattr__") (some none) && eqB (PySem.W.subIn K (.ref (He.ga K x)) (.type "BaseException")) (some true) && PySem.W.hasDictIn K (He.ga K x) &&
    He.eqO (PySem.W.findIn K (.ref (He.ga K x)) "__class__") (some (some (.builtin "object.__class__"))) && He.eqO (PySem.W.specialIn K (.builtin "object.__class__") "__get__") (some (some (.builtin "getset_descriptor.__get__"))) && eqB (PySem.W.takesIn K (.builtin "object.__class__")) (some true) && eqB (PySem.W.mroIn K (He.ga K x) (.type "object")) (some true)) &&
  He.eqO (PySem.W.findIn K (.ref (He.ga K x)) f) (some none)
def xmB (P : Program) (K : PySem.W.Frag) (x : Str) : Bool :=
  oexB K (He.ga K x) && He.eqO (PySem.W.findIn K (.ref (He.ga K x)) "__setattr__") (some (some (.builtin "object.__setattr__"))) && eqB (PySem.W.subIn K (.ref (He.ga K x)) (.type "BaseException")) (some true) && eqV (PySem.W.typeIn K (.ref (He.ga K x))) (some (.type "type")) && PySem.W.keepIn K (.ref (He.ga K x)) &&
  He.eqO (PySem.W.findIn K (.ref (He.ga K x)) "__init__") (some (some (.ref (xInit K x)))) && eqV (PySem.W.typeIn K (.ref (xInit K x))) (some (.type "function")) && xFn P K (He.ga K x) (xInit K x) && eqB (PySem.W.mroIn K (He.ga K x) (.ref (He.ga K x))) (some true) && eqB (PySem.W.subIn K (.ref (He.ga K x)) (.type "ValueError")) (some true) &&
  He.eqO (PySem.W.nsIn K cStatics "thirdparty.any") (some none) && He.eqO (PySem.W.ks_superIn K (He.ga K x) (He.ga K x) "__init__") (some (some (.builtin "ValueError.__init__")))
theorem eqB_ok {a b : Option Bool} (h : eqB a b = true) : a = b := of_decide_eq_true h
theorem eqV_ok {a b : Option Value} (h : eqV a b = true) : a = b := of_decide_eq_true h
theorem xcls_of {P : Program} {K : PySem.W.Frag} {d : XD} (hw : xW K d.x = d.val) (h : xmB P K d.x = true) (hd : xdB P d = true) (nf : PySem.W.findIn K (.ref (He.ga K d.x)) d.f = some none) :
    ∃ (cc c : Addr), XCls P K (He.ga K d.x) (xInit K d.x) ⟨d.name, d.qual, d.params, d.body, d.scope, [("__class__", cc)], c⟩ d.q d.f := by
  unfold xmB at h
  simp only [Bool.and_eq_true] at h
  obtain ⟨⟨⟨⟨⟨⟨⟨⟨⟨⟨⟨m1, m2⟩, m3⟩, m4⟩, m5⟩, m6⟩, m7⟩, m8⟩, m9⟩, m10⟩, m11⟩, m12⟩ := h
  unfold xdB at hd
  simp only [Bool.and_eq_true, decide_eq_true_eq, List.isEmpty_iff] at hd
  obtain ⟨⟨⟨⟨⟨⟨d1, d2⟩, d3⟩, d4⟩, d5⟩, d6⟩, d7⟩ := hd
  unfold xW XD.val at hw
  unfold xFn at m8
  split at m8
  · rename_i oc od fd osl lk
    simp only [Bool.and_eq_true, decide_eq_true_eq] at m8
    obtain ⟨⟨⟨⟨⟨e1, e2⟩, e3⟩, e4⟩, e5⟩, e6⟩ := m8
    rw [lk] at hw
    obtain ⟨n1, n2, n3, n4, n5, n6, n7, n8, n9, n10, n11, n12, n13, n14, n15⟩ := fd
    dsimp only at hw e1 e2 e3 e4 e5 e6
    simp only [Option.some.injEq, Prod.mk.injEq] at hw
    obtain ⟨h1, h2, h3, h4, h5, h6, h7, h8⟩ := hw
    subst h1 h2 h3 h4 h5 h6 h8 e1 e2 e3
    split at e5
    · rename_i c
      split at e6
      · rename_i y cc
        have hy : y = "__class__" := by simpa using h7
        subst hy
        refine ⟨cc, c, ?_⟩
        obtain ⟨z1, z2⟩ : (∃ o1 o2 vs sl file tk, K.lookup c = some ⟨o1, o2, .fields vs, sl⟩ ∧ vs[2]? = some (.str file tk) ∧ ((P.main.file : Str) == file) = true) ∧ ∃ o3 o4 o5, K.lookup cc = some ⟨o3, o4, .cell (some (.ref (He.ga K d.x))), o5⟩ := by
          constructor
          · split at e5
            · rename_i o1 o2 vs sl hl
              split at e5
              · rename_i file tk hv
                exact ⟨o1, o2, vs, sl, file, tk, hl, hv, e5⟩
              · cases e5
            · cases e5
          · split at e6
            · rename_i o3 o4 D o5 hl
              obtain rfl := of_decide_eq_true e6
              exact ⟨o3, o4, o5, hl⟩
            · cases e6
        have pa : ∃ a1 r, d.params.args = a1 :: r ∧ a1.arg = "self" := by
          cases ea : d.params.args with
          | nil => rw [ea] at d4; cases d4
          | cons a r =>
            rw [ea] at d4
            exact ⟨a, r, rfl, of_decide_eq_true d4⟩
        exact ⟨⟨oexB_ok m1, He.eqO_ok m2, eqB_ok m3, eqV_ok m4, m5⟩, He.eqO_ok m6, eqV_ok m7, ⟨_, _, _, _, _, _, lk⟩, e4, rfl, nscope_by d1, d2, ⟨d3, pa⟩, ⟨cc, rfl, z2⟩, z1, by simpa using d5, eqB_ok m9, eqB_ok m10, He.eqO_ok m11, He.eqO_ok m12, nf, d6, d7⟩
      · cases e6
    · cases e5
  · cases m8
/-- the classes of errors: the base first -/
abbrev XC : Type := XSig × Option XD
def sgs (DX : List XC) : List XSig := DX.map (·.1)
def xAll (P : Program) (DX : List XC) (K : PySem.W.Frag) : Bool := (List.range DX.length).all fun c => match DX[c]? with
  | some (s, o) => xcB P K (sgs DX) c s.x s.f && (match o with
    | none => decide (c = 0)
    | some d => xmB P K d.x && decide (d.x = s.x) && decide (d.f = s.f))
  | none => true
def xdAll (P : Program) (DX : List XC) : Bool := DX.all fun p => match p.2 with
  | none => true
  | some d => xdB P d
def clsOf (K : PySem.W.Frag) (DX : List XC) (c : Nat) : Addr := match DX[c]? with
  | some (s, _) => He.ga K s.x
  | none => 0
def fldOf (DX : List XC) (c : Nat) : Str := match DX[c]? with
  | some (s, _) => s.f
  | none => Str.empty
theorem sgs_get {DX : List XC} {c : Nat} {s : XSig} (h : (sgs DX)[c]? = some s) : ∃ o, DX[c]? = some (s, o) := by
  unfold sgs at h
  rw [List.getElem?_map] at h
  cases e : DX[c]? with
  | none => rw [e] at h; cases h
  | some p =>
    rw [e] at h
    have h2 : p.1 = s := Option.some.inj h
    exact ⟨p.2, by rw [← h2]⟩
theorem xfact_of {P : Program} {K : PySem.W.Frag} {mg : Str → Option Value} {h : Heap} {DX : List XC} (KX : K.In h) (G : h.Ns mainGlobals mg) (hx : xAll P DX K = true) (hd : xdAll P DX = true) (hw : ∀ d ∈ DX.filterMap (·.2), xW K d.x = d.val)
    (hb : ∀ d ∈ DX.filterMap (·.2), ∀ (cc c : Addr) (doc pm ctv : Value), Binds K (NF.fd ⟨d.name, d.qual, d.params, d.body, d.scope, [("__class__", cc)], c⟩ doc pm ctv) ["self", d.f] []) (c : Nat) (s : XSig) (e : (sgs DX)[c]? = some s) :
    XFact P K mg (sgs DX) (clsOf K DX) c s ∧ fldOf DX c = s.f := by
  obtain ⟨o, ec⟩ := sgs_get e
  have hc : c < DX.length := by
    rcases Nat.lt_or_ge c DX.length with z | z
    · exact z
    · rw [List.getElem?_eq_none z] at ec; cases ec
  have x := List.all_eq_true.mp hx c (List.mem_range.mpr hc)
  rw [ec] at x
  dsimp only at x
  obtain ⟨x1, x2⟩ := Bool.and_eq_true_iff.mp x
  have ea : clsOf K DX c = He.ga K s.x := by unfold clsOf; rw [ec]
  have eo : ∀ d t, (sgs DX)[d]? = some t → clsOf K DX d = He.ga K t.x ∧ d < (sgs DX).length := fun d t h => by
    obtain ⟨o', ed⟩ := sgs_get h
    refine ⟨by unfold clsOf; rw [ed], ?_⟩
    rcases Nat.lt_or_ge d (sgs DX).length with z | z
    · exact z
    · rw [List.getElem?_eq_none z] at h; cases h
  refine ⟨?_, by unfold fldOf; rw [ec]⟩
  unfold xcB at x1
  simp only [Bool.and_eq_true] at x1
  obtain ⟨⟨⟨⟨a1, a2⟩, a3⟩, ⟨⟨⟨⟨⟨⟨b1, b2⟩, b3⟩, b4⟩, b5⟩, b6⟩, b7⟩, b8⟩, a4⟩ := x1
  have pair : ∀ d t, (sgs DX)[d]? = some t → PySem.W.exmOne K (.ref (He.ga K t.x)) (.ref (He.ga K s.x)) = some (c == 0 || c == d) ∧ PySem.W.kitOne K (.ref (He.ga K t.x)) (.ref (He.ga K s.x)) = some (c == 0 || c == d) := fun d t h => by
    have z := List.all_eq_true.mp a2 d (List.mem_range.mpr (eo d t h).2)
    rw [h] at z
    dsimp only at z
    obtain ⟨z1, z2⟩ := Bool.and_eq_true_iff.mp z
    exact ⟨eqB_ok z1, eqB_ok z2⟩
  refine { glo := ?_, exm := fun d t h => ?_, kit := fun d t h => ?_, kiv := ?_, ec := ?_, xf := ?_, noat := ?_, made := fun h0 => ?_ }
  · rw [ea]; exact PySem.W.mg_of KX G (He.eqO_ok a1)
  · rw [ea, (eo d t h).1]; exact (pair d t h).1
  · rw [ea, (eo d t h).1]; exact (pair d t h).2
  · rw [ea]; exact eqB_ok a3
  · rw [ea]; exact ⟨He.eqO_ok b1, He.eqO_ok b2, eqB_ok b3, b4, He.eqO_ok b5, He.eqO_ok b6, eqB_ok b7, eqB_ok b8⟩
  · rw [ea]; exact ⟨He.eqO_ok b1, He.eqO_ok b2, eqB_ok b3, b4⟩
  · rw [ea]; exact He.eqO_ok a4
  · cases o with
    | none => exact absurd (of_decide_eq_true x2) h0
    | some d =>
      dsimp only at x2
      simp only [Bool.and_eq_true, decide_eq_true_eq] at x2
      obtain ⟨⟨x3, x4⟩, x5⟩ := x2
      have mem : d ∈ DX.filterMap (·.2) := List.mem_filterMap.mpr ⟨(s, some d), List.mem_of_getElem? ec, rfl⟩
      have xd := List.all_eq_true.mp hd _ (List.mem_of_getElem? ec)
      obtain ⟨cc, cd, T⟩ := xcls_of (P := P) (hw d mem) x3 xd (by rw [x4, x5]; exact He.eqO_ok a4)
      rw [ea, ← x4]
      exact ⟨_, _, _, x5 ▸ T, x5 ▸ hb d mem cc cd⟩
end Ev

/-! EvP: a program's defs keep their promises; the law's end. -/
namespace Ev
open PySem PySem.Spec PyProof.Rows L2
/-- one def: as the head tells it, its AST, its names, its parameters -/
structure DefI where
  he : He.DefD
  d : Def
  N : List Str
  ps : List Str
  hot : Bool := false
  cl : Bool := false
def DefI.sig (D : DefI) : Sig := ⟨D.he.name, D.d.np, D.d.br, D.d.fresh, D.hot, D.cl⟩
def gamOf (sg : List Sig) (cs : List (Str × PV)) (xs : List XSig) (D : DefI) : Gam := { xs := xs, N := D.N, sc := D.he.scope, fn := fun _ => true, ms := D.d.ms, pins := if D.d.br = true then [0] else [], br := D.d.br, fresh := D.d.fresh, sigs := sg, cs := cs, hot := D.hot, cl := D.cl }
def chkD (sg : List Sig) (cs : List (Str × PV)) (xs : List XSig) (D : DefI) : Bool :=
  C8.scC D.N D.ps D.he.scope && defOk D.d && decide (D.N.length = D.d.n) && decide (D.ps.length = D.d.np) && decide (D.d.np ≤ D.d.n) && (!D.hot || (!D.cl && !D.d.br)) && chkSs (gamOf sg cs xs D) D.d.body D.he.body
section
variable {P : Program} {w : World} {K : PySem.W.Frag} {mg : Str → Option Value} {base : Heap}
theorem callN_len {Wf : Nat} {P : List Def} {n k : Nat} {d : Def} (hk : P[k]? = some d) {args : List PV} (h : callN Wf P n k args ≠ .fail) : args.length = d.np := by
  cases n with
  | zero => exact absurd rfl h
  | succ m =>
    have e1 : callN Wf P (m + 1) k args = if args.length = d.np then finish d (evalSs (callN Wf P m) Wf d.body (Ev.start d args)) else .fail := by
      show (match P[k]? with
        | none => CR.fail
        | some d => if args.length = d.np then finish d (evalSs (callN Wf P m) Wf d.body (Ev.start d args)) else .fail) = _
      rw [hk]
    by_cases cl : args.length = d.np
    · exact cl
    · rw [e1, if_neg cl] at h
      exact absurd rfl h
theorem callN_fin {Wf : Nat} {P : List Def} {n k : Nat} {d : Def} (hk : P[k]? = some d) {args : List PV} (h : args.length = d.np) : callN Wf P (n + 1) k args = finish d (evalSs (callN Wf P n) Wf d.body (Ev.start d args)) := by
  show (match P[k]? with
    | none => CR.fail
    | some d => if args.length = d.np then finish d (evalSs (callN Wf P n) Wf d.body (Ev.start d args)) else .fail) = _
  rw [hk]
  show (if args.length = d.np then _ else _) = _
  rw [if_pos h]
theorem prog_ok {DI : List DefI} {cs : List (Str × PV)} {xs : List XSig} {fa cls : Nat → Addr} {fld : Nat → Str} {Wf : Nat} (hchk : DI.all (chkD (DI.map DefI.sig) cs xs) = true) (fd : Nat → FuncData)
    (hf : ∀ k D, DI[k]? = some D → FunD K D.he.name D.he.qual D.he.params D.he.body D.he.scope [] [] (fa k) (fd k)) (hmg : ∀ k D, DI[k]? = some D → mg D.he.name = some (.ref (fa k)))
    (hb : ∀ k D, DI[k]? = some D → Binds K (fd k) D.ps []) (hblt : ∀ x ∈ bltNames, mg x = none) (hcs : ∀ x p, cs.lookup x = some p → p.lf = true → ∃ u, mg x = some u ∧ RelV (vOf p) u)
    (hxs : ∀ c s, xs[c]? = some s → XFact P K mg xs cls c s ∧ fld c = s.f) :
    ∀ (n k : Nat) (D : DefI), DI[k]? = some D → (D.hot = false → FnG P w K mg base (cxS D.cl P w) (n + 2) (fa k) (fd k) D.ps (spE ⟨K, fa, none, fld⟩ cls (callN Wf (DI.map DefI.d) n k) D.d.br D.d.fresh D.d.np)) ∧
      (D.hot = true → FnX P w K mg base (n + 2) (fa k) (fd k) D.ps cls (fun d => ∃ t, xs[d]? = some t) (fun ex => spE ((⟨K, fa, none, fld⟩ : Gl0).on ex) cls (callN Wf (DI.map DefI.d) n k) false D.d.fresh D.d.np)) := by
  have chk : ∀ {k : Nat} {D : DefI}, DI[k]? = some D → chkD (DI.map DefI.sig) cs xs D = true := fun {k D} h => List.all_eq_true.mp hchk D (List.mem_of_getElem? h)
  have psl : ∀ {k : Nat} {D : DefI}, DI[k]? = some D → D.ps.length = D.d.np := fun {k D} h => by
    have c := chk h
    unfold chkD at c
    simp only [Bool.and_eq_true, decide_eq_true_eq] at c
    exact c.1.1.1.2
  have dsg : ∀ {k : Nat} {sg : Sig}, (DI.map DefI.sig)[k]? = some sg → ∃ D, DI[k]? = some D ∧ D.sig = sg ∧ (DI.map DefI.d)[k]? = some D.d := fun {k sg} h => by
    rw [List.getElem?_map] at h
    obtain ⟨D', hD', rfl⟩ := map_some h
    exact ⟨D', hD', rfl, by rw [List.getElem?_map, hD']; rfl⟩
  intro n
  induction n with
  | zero =>
    intro k D hD
    refine ⟨fun _ => ⟨fun vs H Q E h => by rw [spE_len h, psl hD], fun A outer s H args us vs Q E _ _ _ _ _ h => ?_⟩, fun _ => ⟨fun e vs H Q E h => by rw [spE_len h, psl hD], fun A outer s H args us vs Q E a oe d dd _ _ _ _ _ _ _ _ _ _ h => ?_⟩⟩
    · obtain ⟨args, fs, _, h⟩ := h
      exact h.elim
    · obtain ⟨args, fs, _, h⟩ := h
      exact h.elim
  | succ n ih =>
    intro k D hD
    have c := chk hD
    unfold chkD at c
    simp only [Bool.and_eq_true, decide_eq_true_eq] at c
    obtain ⟨⟨⟨⟨⟨⟨c1, c2⟩, c3⟩, c4⟩, c5⟩, c7⟩, c6⟩ := c
    obtain ⟨oc, od, dV, kV, doc, pm, an, cdv, ct, osl, efd, lk, hcd, _, _⟩ := (hf k D hD).ex
    have S := C8.fnScope_by c1
    have eD : (DI.map DefI.d)[k]? = some D.d := by rw [List.getElem?_map, hD]; rfl
    have hcall : ∀ k' sg, (DI.map DefI.sig)[k']? = some sg → sg.hot = true → (∃ fdk ps, mg sg.x = some (.ref (fa k')) ∧ PySem.W.keepIn K (.ref (fa k')) = true ∧ Binds K fdk ps [] ∧ FnX P w K mg base (n + 2) (fa k') fdk ps cls (fun d => ∃ t, xs[d]? = some t) (fun ex => spE ((⟨K, fa, none, fld⟩ : Gl0).on ex) cls (callN Wf (DI.map DefI.d) n k') false sg.fresh sg.np)) ∧ ∀ args, callN Wf (DI.map DefI.d) n k' args ≠ .fail → args.length = sg.np := fun k' sg hs hh => by
      obtain ⟨D', hD', rfl, eD'⟩ := dsg hs
      exact ⟨⟨fd k', D'.ps, hmg k' D' hD', (hf k' D' hD').kp, hb k' D' hD', (ih k' D' hD').2 hh⟩, fun ar ha => callN_len eD' ha⟩
    have glo : ∀ k' sg, (DI.map DefI.sig)[k']? = some sg → mg sg.x = some (.ref (fa k')) := fun k' sg hs => by
      obtain ⟨D', hD', rfl, eD'⟩ := dsg hs
      exact hmg k' D' hD'
    rw [efd] at lk ⊢
    refine ⟨fun hh => ?_, fun hh => ?_⟩
    · refine fn_ofG lk hcd S (fun vs H Q E h => by rw [spE_len h, c4]) fun A outer s H vs Q E hr hgu hsp => ?_
      obtain ⟨args, fs, ao, h⟩ := hsp
      rw [callN_fin eD ao.len] at h
      have un0 : (A.deeper (envOfC D.he.qual D.he.scope s.heap.objs.size (fa k) cdv)).units + 67 < cLine := by have := hr.un; omega
      have tkn : L2N.Takes (cxOf (cxS D.cl P w) P w K mg base D.N D.he.qual D.he.scope (fa k) cdv A outer s H E) (fun c x _ H => E c x H) ∧ (D.cl = false → L2.Takes (cxOf (cxS D.cl P w) P w K mg base D.N D.he.qual D.he.scope (fa k) cdv A outer s H E) (fun c x _ H => E c x H)) := by
        cases hc : D.cl with
        | true => exact ⟨L2N.takes_of rfl rfl rfl rfl, nofun⟩
        | false =>
          have t : L2.Takes (cxOf (cxS false P w) P w K mg base D.N D.he.qual D.he.scope (fa k) cdv A outer s H E) (fun c x _ H => E c x H) := L2.takes_of rfl rfl rfl rfl
          exact ⟨takes_n t, fun _ => t⟩
      have o : OkX (gamOf (DI.map DefI.sig) cs xs D) (n + 2) (callN Wf (DI.map DefI.d) n) (cxOf (cxS D.cl P w) P w K mg base D.N D.he.qual D.he.scope (fa k) cdv A outer s H E) (frOf ⟨K, fa, none, fld⟩ cls D.d H vs fs) (fun c x _ H => E c x H) := by
        refine ⟨rfl, S.nd, rfl, fun _ _ => rfl, fun _ => rfl, rfl, rfl, rfl, fun i hi => ?_, hgu, by omega, un0, fun _ => hr, tkn.1, tkn.2, fun _ => L2H.passesAt_of rfl, L2H.roomH_of hr, hblt, hcs, hxs, fun _ _ _ e => (nomatch e), fun z => absurd (hh.symm.trans z) (by decide), fun _ => rfl, glo, fun _ k' sg hs hhs => ?_, hcall⟩
        · show (if D.d.br = true ∧ i = 0 then vs[0]? else none) = none
          refine if_neg fun z => hi ?_
          show i ∈ (if D.d.br = true then [0] else [])
          rw [if_pos z.1, z.2]; simp
        · obtain ⟨D', hD', rfl, eD'⟩ := dsg hs
          exact ⟨⟨fd k', D'.ps, hmg k' D' hD', (hf k' D' hD').kp, hb k' D' hD', (ih k' D' hD').1 hhs⟩, fun ar ha => callN_len eD' ha⟩
      refine ⟨_, chkSs_ok (Wf := Wf) D.d.body o (passes_of rfl) ⟨rfl, rfl⟩ D.he.body c6, ?_⟩
      exact ⟨_, _, env_start c2 c3 c5 ao, fin_law c2 c3 c5 ao h⟩
    · have c7' : D.cl = false ∧ D.d.br = false := by simpa [hh] using c7
      refine fn_ofX lk hcd S (fun e vs H Q E h => by rw [spE_len h, c4]) fun A outer s H vs Q E a oe d dd hok hr hgu hhd hz hdv hsp => ?_
      obtain ⟨args, fs, ao, h⟩ := hsp
      rw [callN_fin eD ao.len] at h
      have un0 : (A.deeper (envOfC D.he.qual D.he.scope s.heap.objs.size (fa k) cdv)).units + 67 < cLine := by have := hr.un; omega
      have t : L2.Takes (L2H.cxH (L2.CX P w) P w K mg base D.N D.he.qual D.he.scope (fa k) cdv A outer s H E (a, oe)) (fun c x _ H => E c x H) := L2.takes_of rfl rfl rfl rfl
      have o : OkX (gamOf (DI.map DefI.sig) cs xs D) (n + 2) (callN Wf (DI.map DefI.d) n) (L2H.cxH (L2.CX P w) P w K mg base D.N D.he.qual D.he.scope (fa k) cdv A outer s H E (a, oe)) (frOf ((⟨K, fa, none, fld⟩ : Gl0).on (a, d, dd)) cls D.d H vs fs) (fun c x _ H => E c x H) := by
        refine ⟨rfl, S.nd, rfl, fun _ _ => rfl, fun z => absurd (hh.symm.trans z) (by decide), rfl, rfl, rfl, fun i hi => ?_, hgu, by omega, un0, fun z => absurd (hh.symm.trans z) (by decide), takes_n t, fun _ => t, fun _ => L2H.passesAt_of rfl, hr, hblt, hcs, hxs, fun a2 c2 d2 e => ?_, fun _ => ⟨_, rfl⟩, fun z => absurd (hh.symm.trans z) (by decide), glo, fun z => absurd (hh.symm.trans z) (by decide), hcall⟩
        · show (if D.d.br = true ∧ i = 0 then vs[0]? else none) = none
          rw [c7'.2]
          simp
        · cases e
          exact ⟨⟨hhd, oe, List.mem_cons_self, hz, hdv⟩, hok⟩
      refine ⟨_, chkSs_ok (Wf := Wf) D.d.body o (passes_of rfl) ⟨rfl, rfl⟩ D.he.body c6, ?_⟩
      have ao' : ArgsOk ((⟨K, fa, none, fld⟩ : Gl0).on (a, d, dd)) D.d.br D.d.np H args vs fs := by rw [c7'.2]; exact ao
      have h' : match finish D.d (evalSs (callN Wf (DI.map DefI.d) n) Wf D.d.body (Ev.start D.d args)) with
        | .ok p b => ∀ z H' fz f0, After ((⟨K, fa, none, fld⟩ : Gl0).on (a, d, dd)) D.d.br H fs vs[0]? b H' f0 → Back ((⟨K, fa, none, fld⟩ : Gl0).on (a, d, dd)) D.d.br D.d.fresh H fs H' f0 p z fz → Q z H'
        | .raise c x b => ∀ dc y H' f0, After ((⟨K, fa, none, fld⟩ : Gl0).on (a, d, dd)) D.d.br H fs vs[0]? b H' f0 → H' dc = some (.xd [(fld c, y)]) → RepF ((⟨K, fa, none, fld⟩ : Gl0).on (a, d, dd)) H' x y [] → E (.ref (cls c)) (some dc) H'
        | .fail => False := by rw [c7'.2]; exact h
      exact ⟨_, _, env_start c2 c3 c5 ao', fin_law c2 c3 c5 ao' h'⟩
end
end Ev

/-! EvH: from the evaluator's word to the law's call. -/
namespace Ev
open PySem PySem.Spec PyProof.Rows L2
theorem lenOk_of {P : Program} {w : World} {K : PySem.W.Frag} {H : Hp} {h : Heap} (x : HOk P w H h) : LenOk K H := by
  refine ⟨fun a xs s => ?_, fun a xs s => ?_⟩
  · rcases s with (s | ⟨o, s⟩) | s
    · exact (x a _ s).1
    · exact (x a _ s).2.1
    · obtain ⟨o, its, n, _, _, _, _, hz, r⟩ := s
      have e := r.length
      have e2 : its.toList.length = its.size := Array.length_toList
      omega
  · rcases s with (s | ⟨o, s⟩) | s
    · exact (x a _ s).1
    · exact (x a _ s).2.1
    · obtain ⟨o, its, n, _, _, _, hz, r⟩ := s
      have e := r.length
      have e2 : its.toList.length = its.size := Array.length_toList
      omega
/-- what is tracked at the law's entry: the script, where it is no object of the text -/
def scrH (K : PySem.W.Frag) (a : Addr) (o : Obj) (xs : List V) : Hp := fun b => if b = a ∧ K.lookup a = none then some (.frz o (.lst xs)) else none
theorem law_callG {P : Program} {w : World} {K : PySem.W.Frag} {mg mb : Str → Option Value} {k : Nat} {fa a : Addr} {fd : FuncData} {x : Str} {sp : Sp} {s₁ : Shared} {vs : List Value} {ns : List Int}
    (KX : K.In s₁.heap) (hns : s₁.heap.Ns mainGlobals mg) (hb : s₁.heap.Ns builtinsNs mb) (hbb : ∀ x : Str, x ≠ "__name__" → mb x = bootBuiltins x) (hlim : s₁.heap.NoLimit) (hg : s₁.gens = #[])
    (ha : s₁.heap.get? a = some { cls := .type "list", data := .seq vs.toArray }) (hi : IntsAre vs ns) (hl : ns.length ≤ sizeLine) (hr : Room k callerA)
    (F : ∀ base : Heap, K.In base → base.Ns mainGlobals mg → FnG P w K mg base (L2.CX P w) k fa fd [x] sp) (hbind : ∀ (s : Shared) (u : Value), BindsTo s fd ⟨[u], []⟩ [(x, u)])
    (hsp : ∀ H : Hp, LenOk K H → ((∃ o, H a = some (.frz o (.lst (ns.map V.int)))) ∨ KLst K a (ns.map V.int)) → sp [.ref a] H (fun v _ => v = .bl true) fun _ _ _ => False) :
    codeAny (model P w) callerA (.call (.ref fa) ⟨[.ref a], []⟩) (fun r s' => r = .ok (.ret (.bool true)) ∧ OldK s₁.heap s'.heap ∧ s'.os = s₁.os ∧ AllBare s'.gens) s₁ := by
  have rv := vals_ints hi
  have lenV := hi.length
  generalize hH : scrH K a { cls := .type "list", data := .seq vs.toArray } (ns.map V.int) = H
  have at_ : ∀ {b u}, H b = some u → b = a ∧ K.lookup a = none ∧ u = .frz { cls := .type "list", data := .seq vs.toArray } (.lst (ns.map V.int)) := fun {b u} e => by
    rw [← hH] at e
    unfold scrH at e
    split at e
    · rename_i c; cases e; exact ⟨c.1, c.2, rfl⟩
    · cases e
  have hok : HOk P w H s₁.heap := fun b u e => by
    obtain ⟨rfl, _, rfl⟩ := at_ e
    exact ⟨ha, by rw [List.length_map]; exact hl, vs, _, rv, ha⟩
  have off : ∀ {b : Addr} {o : Obj}, s₁.heap.get? b = some o → (∀ ws n, o.data ≠ .seq ws n) ∨ (∃ o', K.lookup b = some o') → (hidT s₁.heap H).get? b = some o := fun {b o} e c => hidT_get e (by
    cases q : H b with
    | none => rfl
    | some u =>
      obtain ⟨rfl, n, _⟩ := at_ q
      rcases c with c | ⟨o', c⟩
      · rw [ha] at e; cases e; exact absurd rfl (c _ _)
      · rw [n] at c; cases c)
  have nsK : ∀ {b : Addr} {m : Str → Option Value}, s₁.heap.Ns b m → (hidT s₁.heap H).Ns b m := fun {b m} ⟨o, es, ep, e, d, r⟩ => ⟨o, es, ep, off e (.inl fun ws n z => by rw [d] at z; cases z), d, r⟩
  have hKb : K.In (hidT s₁.heap H) := fun b o e => off (KX b o e) (.inr ⟨o, e⟩)
  have hM : Mod K mg (hidT s₁.heap H) := ⟨hKb, nsK hns, ⟨mb, nsK hb, hbb⟩, let ⟨mc, h1, h2⟩ := hlim; ⟨mc, nsK h1, h2⟩⟩
  have e0 : Env0 P w K mg (hidT s₁.heap H) callerA [] s₁ H := ⟨rfl, hM, fun b o e => of_hidT e, Nat.le_of_eq (hidT_size _ _), trivial, fun b z => absurd (show b ∈ ([] : List Addr) from z) (by simp), hok, .of_eq hg⟩
  have hS : (∃ o, H a = some (.frz o (.lst (ns.map V.int)))) ∨ KLst K a (ns.map V.int) := by
    cases hk : K.lookup a with
    | none =>
      refine .inl ⟨{ cls := .type "list", data := .seq vs.toArray }, ?_⟩
      rw [← hH]
      exact if_pos ⟨rfl, hk⟩
    | some o =>
      have e := KX a o hk
      rw [ha] at e
      cases e
      exact .inr ⟨_, vs.toArray, _, hk, rfl, rfl, rfl, by rw [List.size_toArray, lenV]; exact hl, by simpa using rv⟩
  refine codeAny_mono ((F _ hKb (nsK hns)).run callerA [] s₁ H ⟨[.ref a], []⟩ [.ref a] [.ref a] (fun v _ => v = .bl true) (fun _ _ _ => False) hr rfl e0 (hbind s₁ (.ref a)) (.cons rfl .nil) (hsp H (lenOk_of hok) hS)) fun r s' h => ?_
  cases r with
  | error e =>
    obtain ⟨_, _, _, _, _, _, _, _, _, _, _, _, z⟩ := h
    exact z.elim
  | ok fl =>
    cases fl with
    | next => exact False.elim h
    | brk => exact False.elim h
    | cont => exact False.elim h
    | ret u =>
      obtain ⟨v, H', os, bare, un, hok', r', q⟩ := h
      have q' : v = .bl true := q
      subst q'
      obtain rfl : u = Value.bool true := r'
      refine ⟨rfl, OldK.of_keep fun b o e => ?_, os, bare⟩
      cases q : H b with
      | none => exact un.keep b o e q (by intro z; exact absurd (show b ∈ ([] : List Addr) from z) (by simp)) (by simp)
      | some u =>
        obtain ⟨rfl, _, rfl⟩ := at_ q
        have z2 := un.frzs _ _ _ q
        obtain ⟨e2, _⟩ := hok' _ _ z2
        rw [ha] at e
        cases e
        exact e2
theorem ints_repL {G : Gl0} {H : Hp} : ∀ ns : List Int, RepL G H (ns.map PV.int) (ns.map V.int) []
  | [] => RepL.nil
  | n :: ns => ⟨.int n, ns.map V.int, [], [], rfl, rfl, ⟨rfl, rfl⟩, ints_repL ns⟩
/-- the law: what the evaluator says of the last def at every script -/
theorem walk_ev {l : PySem.W.OpenLaw} {n k : Nat} {q : Program} {loose : List Str} {XP : (Str → Option Value) → Heap → Prop} {YP : World → Heap → Prop} {d : DefRec} {x : Str} {C : List PV → CR} {fa' : Nat → Addr} {cls : Nat → Addr} {fld : Nat → Str}
    (hn : l.most = some n) (hn2 : n ≤ sizeLine) (hdf : d.params.defaults = []) (hr : Room k callerA)
    (F : ∀ (w : World) (mg : Str → Option Value) (fa : Addr) (h : Heap), YP w h → h.Ns mainGlobals mg → mg d.name = some (.ref fa) →
      ∃ (K : PySem.W.Frag) (fd : FuncData) (G : Gl0) (cls : Nat → Addr), K.In h ∧ G.K = K ∧ (∀ (s : Shared) (u : Value), BindsTo s fd ⟨[u], []⟩ [(x, u)]) ∧
        ∀ base : Heap, K.In base → base.Ns mainGlobals mg → FnG l.prog w K mg base (L2.CX l.prog w) k fa fd [x] (spE G cls C false false 1))
    (hC : ∀ ns : List Int, ns.length ≤ n → (∀ z ∈ ns, Builtin.Int.intBits z ≤ 1048576) → ∃ b, C [.scr (ns.map PV.int)] = .ok (.bl true) b) :
    PySem.W.WalkO q loose XP YP l.row.toRowW d [] (fun f vs => PySem.call f vs) := by
  refine Att.attach_callB hn hdf fun w s₀ s₁ mg mb fa o pm cd doc a vs ns G Y ho hd hcd hmg hobj hints hlen hbits hg => ?_
  obtain ⟨K, fd, G0, cls, KX, hGK, hb, hF⟩ := F w mg fa _ Y G.T.g hmg
  refine law_callG KX G.T.g G.T.b G.T.builtins G.T.nolimit hg hobj hints (Nat.le_trans hlen hn2) hr hF hb fun H lok hS => ?_
  obtain ⟨b, hc⟩ := hC ns hlen hbits
  refine ⟨[.scr (ns.map PV.int)], [[]], ⟨.cons ⟨a, ns.map V.int, rfl, by rw [hGK]; exact hS, ints_repL ns, rfl⟩ .nil, rfl, by rw [hGK]; exact lok, List.nodup_nil, fun a z => by simp [refd] at z, nofun⟩, ?_⟩
  rw [hc]
  intro z H' fz f0 af bk
  exact bk.rep.1
/-- the facts that the head is to tell -/
def facOf (DI : List DefI) (cs : List (Str × PV)) : List He.Fa := DI.map (fun D => He.Fa.glo D.he.name) ++ (bltNames.map He.Fa.free ++ cs.filterMap fun p => match p.2 with
  | .int i => some (He.Fa.int p.1 i)
  | .str z => some (He.Fa.str p.1 z)
  | _ => none)
/-! ### the Hook: facts, defs, classes of errors -/
abbrev AlX : Type := Bool × List He.FnW × List XW
def obsX (P : Program) (DX : List XC) (fa : List He.Fa) (fn : List He.DefD) (K : PySem.W.Frag) : AlX := ((fa.all fun f => f.ok K) && (fn.all fun d => d.ok K) && xAll P DX K, fn.map (fun d => He.fnW K d.at_), (DX.filterMap (·.2)).map fun d => xW K d.x)
def valX (DX : List XC) (fn : List He.DefD) : AlX := (true, fn.map He.DefD.val, (DX.filterMap (·.2)).map XD.val)
def obsXG (n : Nat) (P : Program) (DX : List XC) (fa : List He.Fa) (fn : List He.DefD) (g : Addr → Option Obj) : AlX := obsX P DX fa fn (He.frG g (cStatics :: He.asD g n))
def hookX (n : Nat) (P : Program) (DX : List XC) (fa : List He.Fa) (fn : List He.DefD) : PySem.W.Hook where
  α := AlX
  obs := fun s => obsXG n P DX fa fn s.heap.get?
  val := fun _ => valX DX fn
  says := fun _ h => ∃ K : PySem.W.Frag, K.In h ∧ obsX P DX fa fn K = valX DX fn
  of := fun _ _ e => ⟨_, He.frG_in, e⟩
  keeps := fun _ _ _ ⟨K, hK, c⟩ k => ⟨K, PySem.W.Frag.In.keeps hK k, c⟩
theorem obsXG_eq {n : Nat} {P : Program} {DX : List XC} {fa : List He.Fa} {fn : List He.DefD} {g : Addr → Option Obj} {s : Shared} (h : ∀ a, g a = s.heap.get? a) : obsXG n P DX fa fn g = (hookX n P DX fa fn).obs s := by
  have e : g = s.heap.get? := funext h
  rw [e]
  rfl
theorem map_eq_at {α β : Type} {f g : α → β} : ∀ {l : List α}, l.map f = l.map g → ∀ x ∈ l, f x = g x
  | [], _, _, h => nomatch h
  | y :: l, e, x, h => by
    rw [List.map_cons, List.map_cons] at e
    injection e with e1 e2
    rcases List.mem_cons.mp h with rfl | h
    · exact e1
    · exact map_eq_at e2 x h
def csOk (cs : List (Str × PV)) : Bool := cs.all fun p => match p.2 with
  | .int _ => true
  | .str _ => true
  | _ => false
def plainD (D : DefI) : Bool := D.he.dfl.isEmpty && D.he.kwd.isEmpty && decide (D.he.at_ = (D.he.name, none))
theorem mem_of_lookup' {cs : List (Str × PV)} {x : Str} {p : PV} (h : cs.lookup x = some p) : (x, p) ∈ cs := by
  induction cs with
  | nil => cases h
  | cons q cs ih =>
    obtain ⟨y, r⟩ := q
    rw [List.lookup_cons] at h
    cases e : x == y with
    | true =>
      rw [e] at h
      cases h
      rw [beq_iff_eq.mp e]
      exact List.mem_cons_self
    | false =>
      rw [e] at h
      exact List.mem_cons_of_mem _ (ih h)
theorem walk_prog {l : PySem.W.OpenLaw} {q : Program} {loose : List Str} {XP : (Str → Option Value) → Heap → Prop} {d : DefRec} {DI : List DefI} {DX : List XC} {cs : List (Str × PV)} {m Wf depth kL : Nat} {DL : DefI} {x : Str}
    (hn : l.most = some 63) (hdf : d.params.defaults = []) (hdn : d.name = DL.he.name) (hL : DI[kL]? = some DL) (hps : DL.ps = [x]) (hbr : DL.d.br = false) (hfr : DL.d.fresh = false) (hnp : DL.d.np = 1) (hht : DL.hot = false) (hcl : DL.cl = false)
    (hchk : DI.all (chkD (DI.map DefI.sig) cs (sgs DX)) = true) (hxd : xdAll l.prog DX = true) (hxb : ∀ d ∈ DX.filterMap (·.2), ∀ (K : PySem.W.Frag) (cc c : Addr) (doc pm ctv : Value), Binds K (NdefX.NF.fd ⟨d.name, d.qual, d.params, d.body, d.scope, [("__class__", cc)], c⟩ doc pm ctv) ["self", d.f] []) (hnd : DI.all plainD = true) (hcs : csOk cs = true)
    (hbi : ∀ (k : Nat) (D : DefI) (K : PySem.W.Frag) (f : Addr) (fd : FuncData), DI[k]? = some D → FunD K D.he.name D.he.qual D.he.params D.he.body D.he.scope [] [] f fd → Binds K fd D.ps [])
    (hbL : ∀ (K : PySem.W.Frag) (f : Addr) (fd : FuncData), FunD K DL.he.name DL.he.qual DL.he.params DL.he.body DL.he.scope [] [] f fd → ∀ (s : Shared) (u : Value), BindsTo s fd ⟨[u], []⟩ [(x, u)])
    (hr : Room (depth + 2) callerA) (hC : ∀ ns : List Int, ns.length ≤ 63 → (∀ z ∈ ns, Builtin.Int.intBits z ≤ 1048576) → ∃ b, callN Wf (DI.map DefI.d) depth kL [.scr (ns.map PV.int)] = .ok (.bl true) b) :
    PySem.W.WalkO q loose XP (hookX m l.prog DX (facOf DI cs) (DI.map DefI.he)).says l.row.toRowW d [] (fun f vs => PySem.call f vs) := by
  refine walk_ev (x := x) (k := depth + 2) (cls := fun _ => 0) (fa' := fun _ => 0) (fld := fun _ => Str.empty) (C := callN Wf (DI.map DefI.d) depth kL) hn (by decide) hdf hr (fun w mg fa h Y G hmg => ?_) hC
  obtain ⟨K, KX, c⟩ := Y
  have c0 : (((facOf DI cs).all fun f => f.ok K) = true ∧ ((DI.map DefI.he).all fun d => d.ok K) = true) ∧ xAll l.prog DX K = true := by
    have z : ((((facOf DI cs).all fun f => f.ok K) && ((DI.map DefI.he).all fun d => d.ok K)) && xAll l.prog DX K) = true := congrArg (fun z : AlX => z.1) c
    obtain ⟨z1, z2⟩ := Bool.and_eq_true_iff.mp z
    obtain ⟨z3, z4⟩ := Bool.and_eq_true_iff.mp z1
    exact ⟨⟨z3, z4⟩, z2⟩
  have c1 : (DI.map DefI.he).map (fun d => He.fnW K d.at_) = (DI.map DefI.he).map He.DefD.val := congrArg (fun z : AlX => z.2.1) c
  have c2 : (DX.filterMap (·.2)).map (fun d => xW K d.x) = (DX.filterMap (·.2)).map XD.val := congrArg (fun z : AlX => z.2.2) c
  have fact : ∀ f ∈ facOf DI cs, f.ok K = true := fun f hf => by
    exact List.all_eq_true.mp c0.1.1 f hf
  have pl : ∀ {k : Nat} {D : DefI}, DI[k]? = some D → D.he.dfl = [] ∧ D.he.kwd = [] ∧ D.he.at_ = (D.he.name, none) := fun {k D} h => by
    have z := List.all_eq_true.mp hnd D (List.mem_of_getElem? h)
    unfold plainD at z
    simp only [Bool.and_eq_true, List.isEmpty_iff, decide_eq_true_eq] at z
    exact ⟨z.1.1, z.1.2, z.2⟩
  have fun_ : ∀ (k : Nat) (D : DefI), DI[k]? = some D → ∃ fd, FunD K D.he.name D.he.qual D.he.params D.he.body D.he.scope [] [] (He.ga K D.he.name) fd := fun k D h => by
    obtain ⟨p1, p2, p3⟩ := pl h
    have mem : D.he ∈ DI.map DefI.he := List.mem_map.mpr ⟨D, List.mem_of_getElem? h, rfl⟩
    obtain ⟨fd, F⟩ := He.DefD.funD (map_eq_at c1 D.he mem) (List.all_eq_true.mp c0.1.2 D.he mem)
    have e1 : D.he.dvs K = [] := by unfold He.DefD.dvs; rw [p1]; rfl
    have e2 : D.he.kws K = [] := by unfold He.DefD.kws; rw [p2]; rfl
    have e3 : He.fAd K D.he.at_ = He.ga K D.he.name := by rw [p3]; rfl
    rw [e1, e2, e3] at F
    exact ⟨fd, F⟩
  have glo : ∀ {k : Nat} {D : DefI}, DI[k]? = some D → mg D.he.name = some (.ref (He.ga K D.he.name)) := fun {k D} h =>
    He.glo_ok KX G (fact _ (List.mem_append_left _ (List.mem_map.mpr ⟨D, List.mem_of_getElem? h, rfl⟩)))
  let fas : Nat → Addr := fun k => match DI[k]? with
    | some D => He.ga K D.he.name
    | none => 0
  have fasE : ∀ {k : Nat} {D : DefI}, DI[k]? = some D → fas k = He.ga K D.he.name := fun {k D} h => by
    show (match DI[k]? with | some D => He.ga K D.he.name | none => 0) = _
    rw [h]
  have pick : ∀ k, ∃ fd, ∀ D, DI[k]? = some D → FunD K D.he.name D.he.qual D.he.params D.he.body D.he.scope [] [] (fas k) fd := fun k => by
    cases e : DI[k]? with
    | none => exact ⟨default, fun D h => nomatch h⟩
    | some D =>
      obtain ⟨fd, F⟩ := fun_ k D e
      refine ⟨fd, fun D' h => ?_⟩
      cases h
      rw [fasE e]
      exact F
  obtain ⟨fds, fdE⟩ : ∃ fds : Nat → FuncData, ∀ (k : Nat) (D : DefI), DI[k]? = some D → FunD K D.he.name D.he.qual D.he.params D.he.body D.he.scope [] [] (fas k) (fds k) :=
    ⟨fun k => Classical.choose (pick k), fun k => Classical.choose_spec (pick k)⟩
  have eL : fa = fas kL := by
    have z := glo hL
    rw [show mg DL.he.name = some (.ref fa) from hdn ▸ hmg] at z
    rw [fasE hL]
    exact Value.ref.inj (Option.some.inj z)
  refine ⟨K, fds kL, ⟨K, fas, none, fldOf DX⟩, clsOf K DX, KX, rfl, hbL K _ _ (fdE kL DL hL), fun base KB GB => ?_⟩
  have z := (prog_ok (P := l.prog) (w := w) (K := K) (mg := mg) (base := base) (cls := clsOf K DX) (fld := fldOf DX) (Wf := Wf) hchk fds fdE (fun k D h => by rw [fasE h]; exact glo h) (fun k D h => hbi k D K _ _ h (fdE k D h))
    (fun x hx => He.free_ok KX G (fact _ (List.mem_append_right _ (List.mem_append_left _ (List.mem_map.mpr ⟨x, hx, rfl⟩))))) (fun x p e _ => by
      have mem := mem_of_lookup' e
      have ok := List.all_eq_true.mp hcs _ mem
      cases p with
      | int i =>
        obtain ⟨t, ht⟩ := He.int_ok (x := x) (i := i) KX G (fact _ (List.mem_append_right _ (List.mem_append_right _ (List.mem_filterMap.mpr ⟨_, mem, rfl⟩))))
        exact ⟨_, ht, t, rfl⟩
      | str z =>
        obtain ⟨t, ht⟩ := He.str_ok (x := x) (z := z) KX G (fact _ (List.mem_append_right _ (List.mem_append_right _ (List.mem_filterMap.mpr ⟨_, mem, rfl⟩))))
        exact ⟨_, ht, t, rfl⟩
      | _ => cases ok) (fun c s e => xfact_of KX G c0.2 hxd (fun d hd => map_eq_at c2 d hd) (fun d hd cc c doc pm ctv => hxb d hd K cc c doc pm ctv) c s e) depth kL DL hL).1 hht
  rw [hbr, hfr, hnp, hps, hcl] at z
  rw [eL]
  exact z
end Ev

/-! EvM: plain lemmas about the evaluator. -/
namespace Ev
open PySem
theorem callN_succ {W : Nat} {P : List Def} {n k : Nat} {d : Def} {args : List PV} (h : P[k]? = some d) (hl : args.length = d.np) : callN W P (n + 1) k args = finish d (evalSs (callN W P n) W d.body (start d args)) := by
  show (match P[k]? with
    | none => CR.fail
    | some d => if args.length = d.np then finish d (evalSs (callN W P n) W d.body (start d args)) else .fail) = _
  rw [h]
  exact if_pos hl
theorem compGo_ok {f : PV → Env → Res (Option PV × Env)} {g : PV → Option PV} {env : Env} : ∀ {l : List PV}, (∀ x ∈ l, f x env = .ok (g x, env)) → compGo f l env = .ok (l.filterMap g, env)
  | [], _ => rfl
  | x :: l, h => by
    unfold compGo
    rw [h x (by simp)]
    show (compGo f l env).bind _ = _
    rw [compGo_ok fun y hy => h y (by simp [hy])]
    cases e : g x with
    | none => simp [Res.bind, List.filterMap_cons, e]
    | some y => simp [Res.bind, List.filterMap_cons, e]
/-- all items give one -/
theorem compGo_map {α : Type} {f : PV → Env → Res (Option PV × Env)} {i : α → PV} {g : α → PV} {env : Env} {l : List α} (h : ∀ x ∈ l, f (i x) env = .ok (some (g x), env)) : compGo f (l.map i) env = .ok (l.map g, env) := by
  induction l with
  | nil => rfl
  | cons x l ih =>
    rw [List.map_cons]
    unfold compGo
    rw [h x (by simp)]
    show (compGo f (l.map i) env).bind _ = _
    rw [ih fun y hy => h y (by simp [hy])]
    rfl
theorem compGo_filter {α : Type} {f : PV → Env → Res (Option PV × Env)} {i : α → PV} {g : α → Option PV} {env : Env} {l : List α} (h : ∀ x ∈ l, f (i x) env = .ok (g x, env)) : compGo f (l.map i) env = .ok (l.filterMap g, env) := by
  induction l with
  | nil => rfl
  | cons x l ih =>
    rw [List.map_cons]
    unfold compGo
    rw [h x (by simp)]
    show (compGo f (l.map i) env).bind _ = _
    rw [ih fun y hy => h y (by simp [hy])]
    cases e : g x with
    | none => simp [Res.bind, List.filterMap_cons, e]
    | some y => simp [Res.bind, List.filterMap_cons, e]
@[simp] theorem Res.bind_ok' {α β : Type} {a : α} {f : α → Res β} : (Res.ok a).bind f = f a := rfl
@[simp] theorem Res.out_ok {α : Type} {a : α} {f : α → Out} : (Res.ok a).out f = f a := rfl
@[simp] theorem ofO_some {α : Type} {a : α} : ofO (some a) = Res.ok a := rfl
@[simp] theorem Out.seq_nx {e : Env} {f : Env → Out} : (Out.nx e).seq f = f e := rfl
@[simp] theorem Out.seq_rt {v : PV} {e : Env} {f : Env → Out} : (Out.rt v e).seq f = .rt v e := rfl
@[simp] theorem Out.seq_ct {e : Env} {f : Env → Out} : (Out.ct e).seq f = .ct e := rfl
@[simp] theorem Out.seq_bk {e : Env} {f : Env → Out} : (Out.bk e).seq f = .bk e := rfl
@[simp] theorem truth_bl {b : Bool} : truth (.bl b) = some b := rfl
@[simp] theorem truth_int {i : Int} : truth (.int i) = some (i != 0) := rfl
@[simp] theorem truth_lst {l : List PV} : truth (.lst l) = some (!l.isEmpty) := rfl
@[simp] theorem truth_tup {l : List PV} : truth (.tup l) = some (!l.isEmpty) := rfl
@[simp] theorem truth_non : truth .non = some false := rfl
@[simp] theorem Res.nr_ok' {α : Type} {a : α} : (Res.ok a).nr = Res.ok a := rfl
@[simp] theorem runCall_ok {v b : PV} {env : Env} : runCall (.ok v b) env = .ok (v, env) := rfl
@[simp] theorem runCallR_ok {v b : PV} {i : Nat} {env : Env} : runCallR (.ok v b) i env = .ok (v, env.set i b) := rfl
theorem asIntsP_map (l : List Int) : asIntsP (l.map PV.int) = some l := by
  induction l with
  | nil => rfl
  | cons x l ih => simp [asIntsP, ih]
theorem asBlsP_map (l : List Bool) : asBlsP (l.map PV.bl) = some l := by
  induction l with
  | nil => rfl
  | cons x l ih => simp [asBlsP, ih]
theorem lfs_ints (l : List Int) : PV.lfs (l.map PV.int) = true := by
  induction l with
  | nil => rfl
  | cons x l ih => simp [PV.lfs, PV.lf, ih]
@[simp] theorem eE_c {C : Calls} {env : Env} {p : PV} : evalE C (.c p) env = .ok (p, env) := rfl
@[simp] theorem eE_g {C : Calls} {env : Env} {x : Str} {p : PV} : evalE C (.g x p) env = .ok (p, env) := rfl
@[simp] theorem eE_v {C : Calls} {env : Env} {i : Nat} : evalE C (.v i) env = Ev.get env i := rfl
@[simp] theorem eE_m {C : Calls} {env : Env} {i : Nat} : evalE C (.m i) env = Ev.get env i := rfl
@[simp] theorem eE_mv {C : Calls} {env : Env} {i : Nat} : evalE C (.mv i) env = (Ev.get env i).bind fun r => .ok (r.1, env.set i .undef) := rfl
@[simp] theorem eE_chk {C : Calls} {env : Env} {e : E} : evalE C (.chk e) env = (evalE C e env).bind fun r => if r.1.lf = true then .ok r else .fail := rfl
@[simp] theorem eE_bin {C : Calls} {env : Env} {op : Operator} {a b : E} : evalE C (.bin op a b) env = (evalE C a env).bind fun r => (evalE C b r.2).bind fun q => (ofO (binop op r.1 q.1)).bind fun x => .ok (x, q.2) := rfl
@[simp] theorem eE_not {C : Calls} {env : Env} {a : E} : evalE C (.not a) env = (evalE C a env).bind fun r => (ofO (truth r.1)).bind fun b => .ok (.bl (!b), r.2) := rfl
@[simp] theorem eE_and {C : Calls} {env : Env} {a b : E} : evalE C (.and a b) env = (evalE C a env).bind fun r => (ofO (truth r.1)).bind fun t => if t = true then evalE C b r.2 else .ok r := rfl
@[simp] theorem eE_or {C : Calls} {env : Env} {a b : E} : evalE C (.or a b) env = (evalE C a env).bind fun r => (ofO (truth r.1)).bind fun t => if t = true then .ok r else evalE C b r.2 := rfl
@[simp] theorem eE_cmp {C : Calls} {env : Env} {op : CmpOp} {a b : E} : evalE C (.cmp op a b) env = (evalE C a env).bind fun r => (evalE C b r.2).bind fun q => (ofO (cmpop op r.1 q.1)).bind fun x => .ok (.bl x, q.2) := rfl
@[simp] theorem eE_cmp2 {C : Calls} {env : Env} {o1 o2 : CmpOp} {a b c : E} : evalE C (.cmp2 o1 o2 a b c) env = (evalE C a env).bind fun r => (evalE C b r.2).bind fun q => (ofO (cmpop o1 r.1 q.1)).bind fun x =>
      if x = true then (evalE C c q.2).bind fun p => (ofO (cmpop o2 q.1 p.1)).bind fun y => .ok (.bl y, p.2) else .ok (.bl false, q.2) := rfl
@[simp] theorem eE_ife {C : Calls} {env : Env} {c a b : E} : evalE C (.ife c a b) env = (evalE C c env).bind fun r => (ofO (truth r.1)).bind fun t => if t = true then evalE C a r.2 else evalE C b r.2 := rfl
@[simp] theorem eE_call {C : Calls} {env : Env} {k : Nat} {es : Es} : evalE C (.call k es) env = (evalEs C es env).bind fun r => runCall (C k r.1) r.2 := rfl
@[simp] theorem eE_callr {C : Calls} {env : Env} {k i : Nat} {es : Es} : evalE C (.callr k i es) env = (Ev.get env i).bind fun _ => (evalEs C es env).bind fun r => (Ev.get r.2 i).bind fun s => runCallR (C k (s.1 :: r.1)) i r.2 := rfl
@[simp] theorem eE_blt {C : Calls} {env : Env} {b : Blt} {es : Es} : evalE C (.blt b es) env = (evalEs C es env).bind fun r => (ofO (evalB b r.1)).bind fun x => .ok (x, r.2) := rfl
@[simp] theorem eE_isi {C : Calls} {env : Env} {a : E} {t : Ty} : evalE C (.isi a t) env = (evalE C a env).bind fun r => (ofO (isinst r.1 t)).bind fun b => .ok (.bl b, r.2) := rfl
@[simp] theorem eE_tup {C : Calls} {env : Env} {es : Es} : evalE C (.tup es) env = (evalEs C es env).bind fun r => .ok (.tup r.1, r.2) := rfl
@[simp] theorem eE_lst {C : Calls} {env : Env} {es : Es} : evalE C (.lst es) env = (evalEs C es env).bind fun r => .ok (.lst r.1, r.2) := rfl
@[simp] theorem eE_idx {C : Calls} {env : Env} {a i : E} : evalE C (.idx a i) env = (evalE C a env).bind fun r => (evalE C i r.2).bind fun q => (ofO (index r.1 q.1)).bind fun x => .ok (x, q.2) := rfl
@[simp] theorem eE_sl {C : Calls} {env : Env} {a : E} {lo hi : OE} : evalE C (.sl a lo hi) env = (evalE C a env).bind fun r => (evalO C lo r.2).bind fun p => (evalO C hi p.2).bind fun q => (ofO (slice r.1 p.1 q.1)).bind fun x => .ok (x, q.2) := rfl
theorem eE_comp {C : Calls} {env : Env} {own : List Nat} {tg : T} {it : It} {c : OE} {e : E} : evalE C (.comp own tg it c e) env = (evalI C it env).bind fun r =>
      (compGo (fun x en => ((ofO (assign tg x en)).bind fun en1 => (evalC C c en1).bind fun t => if t.1 = true then (evalE C e t.2).bind fun q => .ok (some q.1, wipe own q.2) else .ok (none, wipe own t.2)).nr)
        r.1 (wipe own r.2)).bind fun q => if q.1.length ≤ sizeLine then .ok (.lst q.1, restore own r.2 q.2) else .fail := rfl
@[simp] theorem eC_no {C : Calls} {env : Env} : evalC C .no env = .ok (true, env) := rfl
@[simp] theorem eC_so {C : Calls} {env : Env} {e : E} : evalC C (.so e) env = (evalE C e env).bind fun p => (ofO (truth p.1)).bind fun t => .ok (t, p.2) := rfl
@[simp] theorem eO_no {C : Calls} {env : Env} : evalO C .no env = .ok (none, env) := rfl
@[simp] theorem eA_nil {C : Calls} {env : Env} : evalEs C .nil env = .ok ([], env) := rfl
@[simp] theorem eA_cons {C : Calls} {env : Env} {e : E} {es : Es} : evalEs C (.cons e es) env = (evalE C e env).bind fun r => (evalEs C es r.2).bind fun q => .ok (r.1 :: q.1, q.2) := rfl
@[simp] theorem eI_e {C : Calls} {env : Env} {a : E} : evalI C (.e a) env = (evalE C a env).bind fun r => (ofO (seqOf r.1)).bind fun l => .ok (l, r.2) := rfl
@[simp] theorem eI_rng {C : Calls} {env : Env} {es : Es} : evalI C (.rng es) env = (evalEs C es env).bind fun r => (ofO (ranges r.1)).bind fun l => .ok (l, r.2) := rfl
@[simp] theorem eS_asg {C : Calls} {W : Nat} {env : Env} {t : T} {e : E} : evalS C W (.asg t e) env = (evalE C e env).out fun r => (ofO (assign t r.1 r.2)).out fun en => .nx en := rfl
@[simp] theorem eS_masg {C : Calls} {W : Nat} {env : Env} {i : Nat} {e : E} : evalS C W (.masg i e) env = (evalE C e env).out fun r => .nx (r.2.set i r.1) := rfl
@[simp] theorem eS_aug {C : Calls} {W : Nat} {env : Env} {i : Nat} {op : Operator} {e : E} : evalS C W (.aug i op e) env = (Ev.get env i).out fun x => (evalE C e env).out fun r => (ofO (augop op x.1 r.1)).out fun z => .nx (r.2.set i z) := rfl
@[simp] theorem eS_app {C : Calls} {W : Nat} {env : Env} {i : Nat} {e : E} : evalS C W (.app i e) env = (getL env i).out fun _ => (evalE C e env).out fun r => (getL r.2 i).out fun l => (ofO (pushP r.1 l.1)).out fun z => .nx (r.2.set i z) := rfl
@[simp] theorem eS_set {C : Calls} {W : Nat} {env : Env} {i : Nat} {p e : E} : evalS C W (.set i p e) env = (evalE C e env).out fun r => (getL r.2 i).out fun _ => (evalE C p r.2).out fun q => (getL q.2 i).out fun l => (ofO (setP r.1 q.1 l.1)).out fun z => .nx (q.2.set i z) := rfl
@[simp] theorem eS_ex {C : Calls} {W : Nat} {env : Env} {e : E} : evalS C W (.ex e) env = (evalE C e env).out fun r => .nx r.2 := rfl
@[simp] theorem eS_ret {C : Calls} {W : Nat} {env : Env} {e : E} : evalS C W (.ret e) env = (evalE C e env).out fun r => .rt r.1 r.2 := rfl
@[simp] theorem eS_retn {C : Calls} {W : Nat} {env : Env} : evalS C W .retn env = .rt .non env := rfl
@[simp] theorem eS_ite {C : Calls} {W : Nat} {env : Env} {c : E} {a b : Ss} : evalS C W (.ite c a b) env = (evalE C c env).out fun r => (ofO (truth r.1)).out fun t => if t = true then evalSs C W a r.2 else evalSs C W b r.2 := rfl
theorem eS_for {C : Calls} {W : Nat} {env : Env} {t : T} {it : It} {b : Ss} : evalS C W (.for t it b) env = (evalI C it env).out fun r => forGo (fun x en => (ofO (assign t x en)).out fun en1 => evalSs C W b en1) r.1 r.2 := rfl
theorem eS_whl {C : Calls} {W : Nat} {env : Env} {c : E} {b : Ss} : evalS C W (.whl c b) env = whileGo (fun en => evalE C c en) (fun en => evalSs C W b en) W env := rfl
@[simp] theorem eS_brk {C : Calls} {W : Nat} {env : Env} : evalS C W .brk env = .bk env := rfl
@[simp] theorem eS_cont {C : Calls} {W : Nat} {env : Env} : evalS C W .cont env = .ct env := rfl
@[simp] theorem eS_pass {C : Calls} {W : Nat} {env : Env} : evalS C W .pass env = .nx env := rfl
@[simp] theorem eSs_nil {C : Calls} {W : Nat} {env : Env} : evalSs C W .nil env = .nx env := rfl
@[simp] theorem eSs_cons {C : Calls} {W : Nat} {env : Env} {s : S} {ss : Ss} : evalSs C W (.cons s ss) env = (evalS C W s env).seq fun e => evalSs C W ss e := rfl
@[simp] theorem asg_n {i : Nat} {x : PV} {env : Env} : assign (.n i) x env = some (env.set i x) := rfl
@[simp] theorem asg_nil {env : Env} : assign .nil (.tup []) env = some env := rfl
@[simp] theorem asg_cons {a r : T} {y : PV} {l : List PV} {env : Env} : assign (.cons a r) (.tup (y :: l)) env = (assign a y env).bind fun e => assign r (.tup l) e := rfl
@[simp] theorem eO_so {C : Calls} {e : E} {env : Env} : evalO C (.so e) env = (evalE C e env).bind fun r => match r.1 with
    | .int i => .ok (some i, r.2)
    | _ => .fail := rfl
@[simp] theorem eE_neg {C : Calls} {a : E} {env : Env} : evalE C (.neg a) env = (evalE C a env).bind fun r => match r.1 with
    | .int i => .ok (.int (-i), r.2)
    | _ => .fail := rfl
@[simp] theorem eE_chk1 {C : Calls} {e : E} {env : Env} : evalE C (.chk1 e) env = (evalE C e env).bind fun r => match r.1 with
    | .lst l => if PV.lfs l = true then .ok r else .fail
    | _ => .fail := rfl
@[simp] theorem eI_zip {C : Calls} {es : Es} {env : Env} : evalI C (.zip es) env = (evalEs C es env).bind fun r => match r.1 with
    | [x, y] => (ofO (zip2 x y)).bind fun l => .ok (l, r.2)
    | _ => .fail := rfl
@[simp] theorem isi_int {i : Int} {t : Ty} : isinst (.int i) t = some (t == .int) := by cases t <;> rfl
@[simp] theorem isi_tup {l : List PV} {t : Ty} : isinst (.tup l) t = some (t == .tuple) := by cases t <;> rfl
@[simp] theorem seqOf_tup {l : List PV} : seqOf (.tup l) = some l := rfl
@[simp] theorem seqOf_lst {l : List PV} : seqOf (.lst l) = some l := rfl
@[simp] theorem seqOf_scr {l : List PV} : seqOf (.scr l) = some l := rfl
@[simp] theorem bin_addi {i j : Int} : binop .Add (.int i) (.int j) = some (.int (i + j)) := rfl
@[simp] theorem bin_subi {i j : Int} : binop .Sub (.int i) (.int j) = some (.int (i - j)) := rfl
@[simp] theorem cmp_lti {i j : Int} : cmpop .Lt (.int i) (.int j) = some (decide (i < j)) := rfl
@[simp] theorem cmp_lei {i j : Int} : cmpop .LtE (.int i) (.int j) = some (decide (i ≤ j)) := rfl
@[simp] theorem cmp_gti {i j : Int} : cmpop .Gt (.int i) (.int j) = some (decide (j < i)) := rfl
@[simp] theorem cmp_gei {i j : Int} : cmpop .GtE (.int i) (.int j) = some (decide (j ≤ i)) := rfl
theorem eqOk_int (i j : Int) : eqOk (.int i) (.int j) = true := by
  unfold eqOk; rfl
@[simp] theorem cmp_eqi {i j : Int} : cmpop .Eq (.int i) (.int j) = some (decide (i = j)) := by
  show (if eqOk (.int i) (.int j) = true then some (PyData.eqv (.int i) (.int j)) else none) = _
  exact if_pos (eqOk_int i j)
@[simp] theorem cmp_nei {i j : Int} : cmpop .NotEq (.int i) (.int j) = some (!decide (i = j)) := by
  show (if eqOk (.int i) (.int j) = true then some (!PyData.eqv (.int i) (.int j)) else none) = _
  exact if_pos (eqOk_int i j)
@[simp] theorem blt_len_tup {l : List PV} : evalB .len [.tup l] = some (.int l.length) := rfl
@[simp] theorem blt_len_lst {l : List PV} : evalB .len [.lst l] = some (.int l.length) := rfl
@[simp] theorem blt_tup_lst {l : List PV} : evalB .tuple [.lst l] = some (.tup l) := rfl
@[simp] theorem blt_abs_int {i : Int} : evalB .abs [.int i] = some (.int (if i < 0 then -i else i)) := rfl
@[simp] theorem blt_int_int {i : Int} : evalB .int [.int i] = some (.int i) := rfl
theorem blt_all_map (l : List Bool) : evalB .all [.lst (l.map .bl)] = some (.bl (l.all id)) := by
  show (asBlsP (l.map .bl)).map _ = _
  rw [asBlsP_map]; rfl
theorem blt_sum_map (l : List Int) : evalB .sum [.lst (l.map .int)] = some (.int l.sum) := by
  show (asIntsP (l.map .int)).map _ = _
  rw [asIntsP_map]; rfl

theorem comp_map {α : Type} {C : Calls} {own : List Nat} {tg : T} {it : It} {e : E} {env : Env} {l : List α} {i g : α → PV} (hi : evalI C it env = .ok (l.map i, env)) (hl : l.length ≤ sizeLine)
    (hb : ∀ x ∈ l, ∃ en1 en2, assign tg (i x) (wipe own env) = some en1 ∧ evalE C e en1 = .ok (g x, en2) ∧ wipe own en2 = wipe own env) : evalE C (.comp own tg it .no e) env = .ok (.lst (l.map g), env) := by
  rw [eE_comp, hi]
  show (compGo _ (l.map i) (wipe own env)).bind _ = _
  rw [compGo_map (g := g) fun x hx => ?_]
  · show (if (l.map g).length ≤ sizeLine then Res.ok (PV.lst (l.map g), restore own env (wipe own env)) else Res.fail) = _
    rw [if_pos (by rw [List.length_map]; exact hl), restore_wipe]
  · obtain ⟨en1, en2, h1, h2, h3⟩ := hb x hx
    rw [h1]
    show ((evalE C e en1).bind _).nr = _
    rw [h2]
    show Res.ok (some (g x), wipe own en2) = _
    rw [h3]
theorem comp_filter {α : Type} {C : Calls} {own : List Nat} {tg : T} {it : It} {c e : E} {env : Env} {l : List α} {i : α → PV} {g : α → Option PV} (hi : evalI C it env = .ok (l.map i, env)) (hl : l.length ≤ sizeLine)
    (hb : ∀ x ∈ l, ∃ en1 en2 v b, assign tg (i x) (wipe own env) = some en1 ∧ evalE C c en1 = .ok (v, en2) ∧ truth v = some b ∧ if b = true then ∃ y en3, evalE C e en2 = .ok (y, en3) ∧ g x = some y ∧ wipe own en3 = wipe own env else g x = none ∧ wipe own en2 = wipe own env) :
    evalE C (.comp own tg it (.so c) e) env = .ok (.lst (l.filterMap g), env) := by
  rw [eE_comp, hi]
  show (compGo _ (l.map i) (wipe own env)).bind _ = _
  rw [compGo_filter (g := g) fun x hx => ?_]
  · show (if (l.filterMap g).length ≤ sizeLine then Res.ok (PV.lst (l.filterMap g), restore own env (wipe own env)) else Res.fail) = _
    rw [if_pos (Nat.le_trans (List.length_filterMap_le _ _) hl), restore_wipe]
  · obtain ⟨en1, en2, v, b, h1, h2, h3, h4⟩ := hb x hx
    rw [h1]
    show ((evalC C (.so c) en1).bind _).nr = _
    rw [eC_so, h2]
    show (((ofO (truth v)).bind fun t => Res.ok (t, en2)).bind _).nr = _
    rw [h3]
    cases b with
    | true =>
      rw [if_pos rfl] at h4
      obtain ⟨y, en3, k1, k2, k3⟩ := h4
      show ((evalE C e en2).bind _).nr = _
      rw [k1, k2]
      show Res.ok (some y, wipe own en3) = _
      rw [k3]
    | false =>
      rw [if_neg Bool.false_ne_true] at h4
      show Res.ok (none, wipe own en2) = _
      rw [h4.1, h4.2]
theorem zips_map (a b : List Int) : zips (a.map .int) (b.map .int) = (a.zip b).map fun p => .tup [.int p.1, .int p.2] := by
  induction a generalizing b with
  | nil => rfl
  | cons x a ih => cases b with
    | nil => rfl
    | cons y b => simp [zips, ih]
theorem sl_le {n : Nat} (h : n ≤ 16777216) : n ≤ sizeLine := by rw [sizeLine_eq]; exact h
@[simp] theorem blt_sum_f {α : Type} (l : List α) (g : α → Int) : evalB .sum [.lst (l.map fun x => PV.int (g x))] = some (.int (l.map g).sum) := by
  have := blt_sum_map (l.map g)
  rw [List.map_map] at this
  exact this
theorem blt_all_f {α : Type} (l : List α) (g : α → Bool) : evalB .all [.lst (l.map fun x => PV.bl (g x))] = some (.bl (l.all g)) := by
  have := blt_all_map (l.map g)
  rw [List.map_map, List.all_map] at this
  exact this
theorem rng0 (n : Nat) : rng 0 n = (List.range n).map fun i : Nat => PV.int i := by
  apply List.ext_getElem?
  intro j
  by_cases h : j < n
  · rw [rng_get h]; simp [h]
  · rw [List.getElem?_eq_none (by rw [rng_len]; omega), List.getElem?_eq_none (by simp; omega)]
theorem at_int {k : List Int} {i : Nat} (h : i < k.length) : index (.tup (k.map .int)) (.int (i : Nat)) = some (.int (k.getD i 0)) := by
  show atI (k.map PV.int) (i : Nat) = _
  unfold atI Ev.ixN
  rw [if_pos (by omega), if_pos (by simpa using h)]
  simp [h, List.getD_eq_getElem?_getD]
end Ev

/-! EvM2: small data: ==, repr, <. -/
namespace Ev
open PySem
/-- data of bounded depth and weight, its ints short -/
structure Sm (p : PV) (dp w : Nat) : Prop where
  da : p.data = true
  cl : PyData.canLay0 p.pd = true
  dp : p.pd.depth ≤ dp
  wt : p.pd.weight ≤ w
  sh : p.pd.showable = true
  is : p.pd.intsShort 13 = true
structure Sms (l : List PV) (dp w : Nat) : Prop where
  da : PV.datas l = true
  cl : PyData.canLayAll0 (PV.pds l) = true
  dp : PyData.depthAll (PV.pds l) ≤ dp
  wt : PyData.weightAll (PV.pds l) ≤ l.length * (w + 1)
  sh : PyData.showableAll (PV.pds l) = true
  is : PyData.intsShortAll 13 (PV.pds l) = true
theorem Sms.of {l : List PV} {dp w : Nat} (h : ∀ x ∈ l, Sm x dp w) : Sms l dp w := by
  induction l with
  | nil => exact ⟨rfl, rfl, Nat.zero_le _, by simp [PV.pds, PyData.weightAll], rfl, rfl⟩
  | cons x l ih =>
    have i := ih fun y hy => h y (by simp [hy])
    have k := h x (by simp)
    refine ⟨?_, ?_, ?_, ?_, ?_, ?_⟩
    · simp [PV.datas, k.da, i.da]
    · simp [PV.pds, PyData.canLayAll0, k.cl, i.cl]
    · simp only [PV.pds, PyData.depthAll]
      exact Nat.max_le.mpr ⟨k.dp, i.dp⟩
    · simp only [PV.pds, PyData.weightAll, List.length_cons]
      have := i.wt
      have := k.wt
      rw [Nat.add_mul]
      omega
    · simp [PV.pds, PyData.showableAll, k.sh, i.sh]
    · simp [PV.pds, PyData.intsShortAll, k.is, i.is]
theorem Sm.tup {l : List PV} {dp w : Nat} (h : ∀ x ∈ l, Sm x dp w) : Sm (.tup l) (dp + 1) (l.length * (w + 1) + 1) := by
  have k := Sms.of h
  refine ⟨?_, ?_, ?_, ?_, ?_, ?_⟩
  · simp [PV.data, k.da]
  · simp [PV.pd, PyData.canLay0, k.cl]
  · simp only [PV.pd, PyData.depth]; have := k.dp; omega
  · simp only [PV.pd, PyData.weight]; have := k.wt; omega
  · simp [PV.pd, PyData.showable, k.sh]
  · simp [PV.pd, PyData.intsShort, k.is]
theorem Sm.lst {l : List PV} {dp w : Nat} (h : ∀ x ∈ l, Sm x dp w) : Sm (.lst l) (dp + 1) (l.length * (w + 1) + 1) := by
  have k := Sms.of h
  refine ⟨?_, ?_, ?_, ?_, ?_, ?_⟩
  · simp [PV.data, k.da]
  · simp [PV.pd, PyData.canLay0, k.cl]
  · simp only [PV.pd, PyData.depth]; have := k.dp; omega
  · simp only [PV.pd, PyData.weight]; have := k.wt; omega
  · simp [PV.pd, PyData.showable, k.sh]
  · simp [PV.pd, PyData.intsShort, k.is]
theorem Sm.non : Sm .non 0 1 := ⟨rfl, rfl, by decide, by decide, rfl, rfl⟩
theorem Sm.mono {p : PV} {dp w dp' w' : Nat} (h : Sm p dp w) (h1 : dp ≤ dp') (h2 : w ≤ w') : Sm p dp' w' := ⟨h.da, h.cl, Nat.le_trans h.dp h1, Nat.le_trans h.wt h2, h.sh, h.is⟩
/-- a digit -/
theorem Sm.dig {i : Int} (h0 : 0 ≤ i) (h1 : i < 10) : Sm (.int i) 0 6 := by
  have e : ∀ j : Fin 10, (PyData.weight (PV.pd (.int (j.val : Int))) ≤ 6) ∧ (PyData.intsShort 13 (PV.pd (.int (j.val : Int))) = true) ∧ PyData.showable (PV.pd (.int (j.val : Int))) = true := by decide +kernel
  have k := e ⟨i.toNat, by omega⟩
  have ei : ((i.toNat : Nat) : Int) = i := by omega
  simp only [ei] at k
  exact ⟨rfl, rfl, Nat.le_refl _, k.1, k.2.2, k.2.1⟩
theorem Sm.shaped {p : PV} {dp w : Nat} (h : Sm p dp w) (hd : dp ≤ 64) : SeqAt.shaped p.pd = true := by
  unfold SeqAt.shaped
  rw [h.cl]
  simpa using Nat.le_trans h.dp hd
mutual
theorem eqv_refl : ∀ d : PyData, PyData.canLay0 d = true → PyData.eqv d d = true
  | .none, _ => rfl
  | .bool _, _ => by simp [PyData.eqv]
  | .int _, _ => by simp [PyData.eqv]
  | .str _, _ => by simp [PyData.eqv]
  | .list xs, h => by
    simp only [PyData.eqv]
    exact eqvAll_refl xs (by simpa [PyData.canLay0] using h)
  | .tuple xs, h => by
    simp only [PyData.eqv]
    exact eqvAll_refl xs (by simpa [PyData.canLay0] using h)
  | .dict _, h => by simp [PyData.canLay0] at h
theorem eqvAll_refl : ∀ d : List PyData, PyData.canLayAll0 d = true → PyData.eqvAll d d = true
  | [], _ => by simp [PyData.eqvAll]
  | x :: xs, h => by
    have h' : x.canLay0 = true ∧ PyData.canLayAll0 xs = true := by simpa [PyData.canLayAll0] using h
    simp [PyData.eqvAll, eqv_refl x h'.1, eqvAll_refl xs h'.2]
end
theorem cmp_eq_self {p : PV} {dp w : Nat} (h : Sm p dp w) (hs : ∀ x, p ≠ .str x) (hd : dp ≤ 64) : cmpop .Eq p p = some true := by
  have e : cmpop .Eq p p = if eqOk p p = true then some (PyData.eqv p.pd p.pd) else none := by
    cases p with
    | str x => exact absurd rfl (hs x)
    | _ => rfl
  rw [e, if_pos (by simp [eqOk, h.da, h.shaped hd]), eqv_refl _ h.cl]
theorem cmp_eq {p q : PV} {dp w dq v : Nat} (h : Sm p dp w) (k : Sm q dq v) (hs : ∀ x, p ≠ .str x) (hd : dp ≤ 64) (he : dq ≤ 64) : cmpop .Eq p q = some (PyData.eqv p.pd q.pd) := by
  have e : cmpop .Eq p q = if eqOk p q = true then some (PyData.eqv p.pd q.pd) else none := by
    cases p <;> cases q <;> first | rfl | exact absurd rfl (hs _)
  rw [e, if_pos (by simp [eqOk, h.da, h.shaped hd, k.da, k.shaped he])]
theorem cmp_ne {p q : PV} {dp w dq v : Nat} (h : Sm p dp w) (k : Sm q dq v) (hs : ∀ x, p ≠ .str x) (hd : dp ≤ 64) (he : dq ≤ 64) : cmpop .NotEq p q = some (!PyData.eqv p.pd q.pd) := by
  have e : cmpop .NotEq p q = if eqOk p q = true then some (!PyData.eqv p.pd q.pd) else none := by
    cases p <;> cases q <;> first | rfl | exact absurd rfl (hs _)
  rw [e, if_pos (by simp [eqOk, h.da, h.shaped hd, k.da, k.shaped he])]
theorem repr_ok {p : PV} {dp w : Nat} (h : Sm p dp w) (hd : dp ≤ 60) (hw : w ≤ 1048576) : evalB .repr [p] = some (.str p.pd.shown) := by
  have e : (2 : Nat) ^ 20 = 1048576 := by decide
  have l : PyData.layable0 p.pd = true := by
    unfold PyData.layable0
    rw [h.cl]
    have := h.dp
    have := h.wt
    simp only [Bool.true_and, Bool.and_eq_true, decide_eq_true_eq]
    omega
  have z := PyProof.Rows.shown_le13 l h.is
  have : reprOk p = true := by
    unfold reprOk
    rw [h.da, h.sh]
    have := h.dp
    simp only [Bool.true_and, Bool.and_eq_true, decide_eq_true_eq]
    rw [sizeLine_eq]
    omega
  show (if reprOk p = true then some (PV.str p.pd.shown) else none) = _
  rw [if_pos this]
@[simp] theorem cmp_eq_str {s t : Str} : cmpop .Eq (.str s) (.str t) = some (decide (s = t)) := rfl
end Ev

/-! EvM3: the laws' own source of draws: start, draw, pick. -/
namespace Ev
open PySem
/-- the state: the script, what is left of a cell, the next cell, the seed -/
def stV (sc : List Int) (a : Int) (i : Nat) (b : Int) : PV := .lst [.lst (sc.map .int), .int a, .int (i : Nat), .int b]
def drawB : Ss := (.cons (.ite (.and (.cmp .Eq (.idx (.m 0) (.c (.int 1))) (.c (.int 0))) (.cmp .GtE (.idx (.m 0) (.c (.int 2))) (.blt .len (.cons (.idx (.m 0) (.c (.int 0))) .nil)))) (.cons (.set 0 (.c (.int 3)) (.chk (.bin .Mod (.blt .int (.cons (.bin .Add (.bin .Mult (.idx (.m 0) (.c (.int 3))) (.c (.int 48271))) (.c (.int 69621))) .nil)) (.c (.int 2147483629))))) (.cons (.ret (.chk (.bin .Mod (.blt .int (.cons (.bin .FloorDiv (.idx (.m 0) (.c (.int 3))) (.c (.int 13))) .nil)) (.v 1)))) .nil)) .nil) (.cons (.ite (.cmp .Eq (.idx (.m 0) (.c (.int 1))) (.c (.int 0))) (.cons (.set 0 (.c (.int 1)) (.chk (.blt .abs (.cons (.idx (.idx (.m 0) (.c (.int 0))) (.idx (.m 0) (.c (.int 2)))) .nil)))) (.cons (.set 0 (.c (.int 2)) (.chk (.bin .Add (.idx (.m 0) (.c (.int 2))) (.c (.int 1))))) .nil)) .nil) (.cons (.asg (.n 2) (.chk (.bin .Mod (.blt .int (.cons (.idx (.m 0) (.c (.int 1))) .nil)) (.v 1)))) (.cons (.set 0 (.c (.int 1)) (.chk (.bin .FloorDiv (.idx (.m 0) (.c (.int 1))) (.v 1)))) (.cons (.ret (.v 2)) .nil)))))
def drawD : Def := { np := 2, n := 3, br := true, fresh := false, ms := [0], body := drawB }
def pickB (k : Nat) : Ss := (.cons (.ret (.idx (.v 1) (.callr k 0 (.cons (.blt .len (.cons (.v 1) .nil)) .nil)))) .nil)
def pickD (k : Nat) : Def := { np := 2, n := 2, br := true, fresh := false, ms := [0], body := pickB k }
def startB : Ss := (.cons (.asg (.n 1) (.c (.int 7))) (.cons (.for (.n 2) (.e (.v 0)) (.cons (.asg (.n 1) (.bin .Add (.bin .Mod (.blt .int (.cons (.bin .Add (.bin .Mult (.v 1) (.c (.int 48271))) (.v 2)) .nil)) (.c (.int 2147483629))) (.c (.int 1)))) .nil)) (.cons (.ret (.lst (.cons (.chk1 (.blt .list (.cons (.v 0) .nil))) (.cons (.c (.int 0)) (.cons (.c (.int 0)) (.cons (.chk (.v 1)) .nil)))))) .nil)))
def startD : Def := { np := 1, n := 3, br := false, fresh := true, ms := [], body := startB }
@[simp] theorem mul_48271 (i : Int) : binop .Mult (.int i) (.int 48271) = some (.int (i * 48271)) := by
  show (if mulOk i 48271 = true then some (PV.int (i * 48271)) else none) = _
  rw [if_pos]
  unfold mulOk
  simp
@[simp] theorem mod_c {i j : Int} (h : j ≠ 0) : binop .Mod (.int i) (.int j) = some (.int (i.fmod j)) := by
  show (if j ≠ 0 then some (PV.int (i.fmod j)) else none) = _
  rw [if_pos h]
theorem fdiv_c {i j : Int} (h0 : 0 < j) (h1 : j < 1073741824) : binop .FloorDiv (.int i) (.int j) = some (.int (i.fdiv j)) := by
  show (if fdivOk j = true then some (PV.int (i.fdiv j)) else none) = _
  rw [if_pos]
  unfold fdivOk
  simp
  omega
theorem ix_lst {l : List PV} {i : Nat} {x : PV} (h : l[i]? = some x) : index (.lst l) (.int (i : Nat)) = some x := by
  have hi : i < l.length := by
    rcases Nat.lt_or_ge i l.length with z | z
    · exact z
    · rw [List.getElem?_eq_none z] at h; cases h
  show atI l (i : Nat) = _
  unfold atI Ev.ixN
  rw [if_pos (by omega), if_pos (by omega)]
  simpa using h
theorem ix_tup {l : List PV} {i : Nat} {x : PV} (h : l[i]? = some x) : index (.tup l) (.int (i : Nat)) = some x := ix_lst h
@[simp] theorem ixL0 {a b c d : PV} : index (.lst [a, b, c, d]) (.int 0) = some a := rfl
@[simp] theorem ixL1 {a b c d : PV} : index (.lst [a, b, c, d]) (.int 1) = some b := rfl
@[simp] theorem ixL2 {a b c d : PV} : index (.lst [a, b, c, d]) (.int 2) = some c := rfl
@[simp] theorem ixL3 {a b c d : PV} : index (.lst [a, b, c, d]) (.int 3) = some d := rfl
@[simp] theorem setL1 {a b c d y : PV} : setP y (.int 1) [a, b, c, d] = some (.lst [a, y, c, d]) := rfl
@[simp] theorem setL2 {a b c d y : PV} : setP y (.int 2) [a, b, c, d] = some (.lst [a, b, y, d]) := rfl
@[simp] theorem setL3 {a b c d y : PV} : setP y (.int 3) [a, b, c, d] = some (.lst [a, b, c, y]) := rfl
@[simp] theorem lf_int {i : Int} : PV.lf (.int i) = true := rfl
@[simp] theorem getL_lst {l : List PV} {env : Env} : getL (.lst l :: env) 0 = .ok (l, .lst l :: env) := rfl
theorem fmod_lo {i j : Int} (h : 0 < j) : 0 ≤ i.fmod j := by
  rw [Int.fmod_eq_emod_of_nonneg i (by omega)]
  exact Int.emod_nonneg i (by omega)
theorem fmod_hi {i j : Int} (h : 0 < j) : i.fmod j < j := by
  rw [Int.fmod_eq_emod_of_nonneg i (by omega)]
  exact Int.emod_lt_of_pos i h
theorem c_draw {W n k : Nat} {P : List Def} (hk : P[k]? = some drawD) (sc : List Int) (a : Int) (i : Nat) (b m : Int) (h0 : 1 ≤ m) (h1 : m < 1073741824) :
    ∃ r a' i' b', callN W P (n + 1) k [stV sc a i b, .int m] = .ok (.int r) (stV sc a' i' b') ∧ 0 ≤ r ∧ r < m := by
  rw [callN_succ hk rfl]
  have m0 : m ≠ 0 := by omega
  have f13 : ∀ x : Int, binop .FloorDiv (.int x) (.int 13) = some (.int (x.fdiv 13)) := fun x => fdiv_c (by decide) (by decide)
  have fm : ∀ x : Int, binop .FloorDiv (.int x) (.int m) = some (.int (x.fdiv m)) := fun x => fdiv_c (by omega) h1
  by_cases ha : a = 0
  · by_cases hi : sc.length ≤ i
    · refine ⟨(((b * 48271 + 69621).fmod 2147483629).fdiv 13).fmod m, a, i, (b * 48271 + 69621).fmod 2147483629, ?_, fmod_lo (by omega), fmod_hi (by omega)⟩
      have hi' : (sc.length : Int) ≤ (i : Int) := by omega
      simp [Ev.finish, drawD, drawB, Ev.start, Ev.get, stV, ha, hi', f13, m0]
    · have hi' : ¬ (sc.length : Int) ≤ (i : Int) := by omega
      have ix : index (.lst (sc.map .int)) (.int (i : Nat)) = some (.int (sc.getD i 0)) := at_int (k := sc) (by omega)
      refine ⟨(if sc.getD i 0 < 0 then -(sc.getD i 0) else sc.getD i 0).fmod m, (if sc.getD i 0 < 0 then -(sc.getD i 0) else sc.getD i 0).fdiv m, i + 1, b, ?_, fmod_lo (by omega), fmod_hi (by omega)⟩
      · simp [Ev.finish, drawD, drawB, Ev.start, Ev.get, stV, ha, hi', ix, m0, fm]
  · refine ⟨a.fmod m, a.fdiv m, i, b, ?_, fmod_lo (by omega), fmod_hi (by omega)⟩
    simp [Ev.finish, drawD, drawB, Ev.start, Ev.get, stV, ha, m0, fm]
theorem forGo_inv {f : PV → Env → Out} : ∀ {l : List PV} {env0 : Env} (I : Nat → Env → Prop) (_ : I 0 env0) (_ : ∀ j x en, l[j]? = some x → I j en → ∃ en', (f x en = .nx en' ∨ f x en = .ct en') ∧ I (j + 1) en'), ∃ en', forGo f l env0 = .nx en' ∧ I l.length en'
  | [], env0, I, h0, _ => ⟨env0, rfl, h0⟩
  | x :: l, env0, I, h0, hs => by
    obtain ⟨en1, h1, i1⟩ := hs 0 x env0 rfl h0
    obtain ⟨en2, h2, i2⟩ := forGo_inv (l := l) (env0 := en1) (fun j => I (j + 1)) i1 fun j y en hy hI => hs (j + 1) y en (by simpa using hy) hI
    refine ⟨en2, ?_, i2⟩
    unfold forGo
    rcases h1 with h1 | h1 <;> rw [h1] <;> exact h2
theorem for_inv {C : Calls} {W : Nat} {t : T} {it : It} {b : Ss} {env env1 : Env} {l : List PV} (hi : evalI C it env = .ok (l, env1)) (I : Nat → Env → Prop) (h0 : I 0 env1)
    (hs : ∀ j x en, l[j]? = some x → I j en → ∃ en1 en', assign t x en = some en1 ∧ (evalSs C W b en1 = .nx en' ∨ evalSs C W b en1 = .ct en') ∧ I (j + 1) en') : ∃ en', evalS C W (.for t it b) env = .nx en' ∧ I l.length en' := by
  rw [eS_for, hi]
  refine forGo_inv I h0 fun j x en hx hI => ?_
  obtain ⟨en1, en', h1, h2, h3⟩ := hs j x en hx hI
  refine ⟨en', ?_, h3⟩
  rw [h1]
  exact h2
theorem c_start {W n k : Nat} {P : List Def} (hk : P[k]? = some startD) (sc : List Int) : ∃ b, callN W P (n + 1) k [.scr (sc.map .int)] = .ok (stV sc 0 0 b) .undef := by
  rw [callN_succ hk rfl]
  obtain ⟨en, h1, b, c, rfl⟩ := for_inv (C := callN W P n) (W := W) (t := .n 2) (it := .e (.v 0)) (b := (.cons (.asg (.n 1) (.bin .Add (.bin .Mod (.blt .int (.cons (.bin .Add (.bin .Mult (.v 1) (.c (.int 48271))) (.v 2)) .nil)) (.c (.int 2147483629))) (.c (.int 1)))) .nil))
    (env := [.scr (sc.map .int), .int 7, .undef]) (env1 := [.scr (sc.map .int), .int 7, .undef]) (l := sc.map .int) rfl (fun _ en => ∃ b c, en = [.scr (sc.map .int), .int b, c]) ⟨7, .undef, rfl⟩ fun j x en hx hI => by
      obtain ⟨b, c, rfl⟩ := hI
      rw [List.getElem?_map] at hx
      cases e : sc[j]? with
      | none => rw [e] at hx; cases hx
      | some z =>
        rw [e] at hx
        cases hx
        exact ⟨[.scr (sc.map .int), .int b, .int z], [.scr (sc.map .int), .int ((b * 48271 + z).fmod 2147483629 + 1), .int z], rfl, .inl (by simp [Ev.get]), _, _, rfl⟩
  refine ⟨b, ?_⟩
  have bl : evalB .list [.scr (sc.map .int)] = some (.lst (sc.map .int)) := rfl
  simp [Ev.finish, startD, startB, Ev.start, Ev.get, h1, bl, lfs_ints, stV]
theorem c_pick {W n k j : Nat} {P : List Def} (hk : P[k]? = some (pickD j)) (hj : P[j]? = some drawD) (sc : List Int) (a : Int) (i : Nat) (b : Int) (some_ : PV) (l : List PV) (hs : some_ = .lst l ∨ some_ = .tup l) (h0 : l ≠ []) (h1 : l.length < 1073741824) :
    ∃ x a' i' b', callN W P (n + 2) k [stV sc a i b, some_] = .ok x (stV sc a' i' b') ∧ x ∈ l := by
  have hl : 1 ≤ l.length := by
    cases l with
    | nil => exact absurd rfl h0
    | cons x l => simp
  obtain ⟨r, a', i', b', hc, r0, r1⟩ := c_draw (W := W) (n := n) hj sc a i b (l.length : Int) (by omega) (by omega)
  have er : ((r.toNat : Nat) : Int) = r := by omega
  have lt : r.toNat < l.length := by omega
  refine ⟨l[r.toNat], a', i', b', ?_, List.getElem_mem _⟩
  rw [callN_succ hk rfl]
  have i0 : index (.lst l) (.int ((r.toNat : Nat) : Int)) = some l[r.toNat] := ix_lst (by simp [lt])
  have i1 : index (.lst l) (.int r) = some l[r.toNat] := (congrArg (fun z => index (.lst l) (.int z)) er).symm.trans i0
  have i2 : index (.tup l) (.int r) = some l[r.toNat] := i1
  have st : ∀ a i b, Ev.get [stV sc a i b, some_] 0 = .ok (stV sc a i b, [stV sc a i b, some_]) := fun a i b => rfl
  rcases hs with rfl | rfl
  · have g1 : ∀ x, Ev.get [x, .lst l] 1 = .ok (.lst l, [x, .lst l]) := fun _ => rfl
    simp [Ev.finish, pickD, pickB, Ev.start, g1, st, hc, i1]
    rfl
  · have g1 : ∀ x, Ev.get [x, .tup l] 1 = .ok (.tup l, [x, .tup l]) := fun _ => rfl
    simp [Ev.finish, pickD, pickB, Ev.start, g1, st, hc, i2]
    rfl
@[simp] theorem get_st {sc : List Int} {a : Int} {i : Nat} {b : Int} {env : Env} : Ev.get (stV sc a i b :: env) 0 = .ok (stV sc a i b, stV sc a i b :: env) := rfl
@[simp] theorem get_int1 {x : PV} {i : Int} {env : Env} : Ev.get (x :: .int i :: env) 1 = .ok (.int i, x :: .int i :: env) := rfl
/-- a pick out of ints -/
theorem c_pickI {W n k j : Nat} {P : List Def} (hk : P[k]? = some (pickD j)) (hj : P[j]? = some drawD) (sc : List Int) (a : Int) (i : Nat) (b : Int) (L : List Int) (h0 : L ≠ []) (h1 : L.length < 1073741824) :
    ∃ z a' i' b', callN W P (n + 2) k [stV sc a i b, .lst (L.map .int)] = .ok (.int z) (stV sc a' i' b') ∧ z ∈ L := by
  obtain ⟨x, a', i', b', h, hx⟩ := c_pick (W := W) (n := n) hk hj sc a i b (.lst (L.map .int)) (L.map .int) (.inl rfl) (by simpa using h0) (by simpa using h1)
  obtain ⟨z, hz, rfl⟩ := List.mem_map.mp hx
  exact ⟨z, a', i', b', h, hz⟩
theorem fin_st {d : Def} {v : PV} {sc : List Int} {a : Int} {i : Nat} {b : Int} {env : Env} (h : d.br = true) : Ev.finish d (.rt v (stV sc a i b :: env)) = .ok v (stV sc a i b) := by
  show (if d.br = true then _ else _) = _
  rw [if_pos h]
  rfl
theorem fin_no {d : Def} {v : PV} {env : Env} (h : d.br = false) : Ev.finish d (.rt v env) = .ok v .undef := by
  show (if d.br = true then _ else _) = _
  rw [if_neg (by rw [h]; exact Bool.false_ne_true)]
theorem fin_nx {d : Def} {env : Env} (h : d.br = false) : Ev.finish d (.nx env) = .ok .non .undef := by
  show (if d.br = true then _ else _) = _
  rw [if_neg (by rw [h]; exact Bool.false_ne_true)]
theorem ix_last {L : List Int} (h : L ≠ []) : index (.lst (L.map .int)) (.int (-1)) = some (.int (L.getD (L.length - 1) 0)) := by
  have hl : 0 < L.length := List.length_pos_iff.mpr h
  show atI (L.map PV.int) (-1) = _
  unfold atI Ev.ixN
  rw [if_neg (by omega), if_pos (by rw [List.length_map]; omega)]
  rw [List.length_map]
  have e : ((-1 : Int) + (L.length : Nat)).toNat = L.length - 1 := by omega
  rw [e]
  simp [List.getD_eq_getElem?_getD, show L.length - 1 < L.length by omega]
theorem ix_first {L : List Int} (h : L ≠ []) : index (.lst (L.map .int)) (.int 0) = some (.int (L.getD 0 0)) := by
  have hl : 0 < L.length := List.length_pos_iff.mpr h
  have := at_int (k := L) (i := 0) hl
  exact this
theorem getD_mem {L : List Int} {i : Nat} (h : i < L.length) : L.getD i 0 ∈ L := by
  rw [List.getD_eq_getElem?_getD, List.getElem?_eq_getElem h]
  exact List.getElem_mem h
theorem sm62 {i : Int} (h0 : -1000000 ≤ i) (h1 : i ≤ 1000000) : small62 i = true := by
  rw [small62_iff]
  constructor <;> omega
theorem ranges1 {j : Int} (h : -1000000 ≤ j) (h1 : j ≤ 1000000) : ranges [.int j] = some (rng 0 j.toNat) := by
  show (if small62 j = true then some (rng 0 j.toNat) else none) = _
  rw [if_pos (sm62 h h1)]
theorem ranges2 {i j : Int} (h : -1000000 ≤ i) (h1 : i ≤ 1000000) (h2 : -1000000 ≤ j) (h3 : j ≤ 1000000) : ranges [.int i, .int j] = some (rng i (j - i).toNat) := by
  show (if (small62 i && small62 j) = true then some (rng i (j - i).toNat) else none) = _
  rw [if_pos (by rw [sm62 h h1, sm62 h2 h3]; rfl)]
theorem eI_rng2 {C : Calls} {a b : E} {env env1 env2 : Env} {i j : Int} {l : List PV} (ha : evalE C a env = .ok (.int i, env1)) (hb : evalE C b env1 = .ok (.int j, env2)) (hr : ranges [.int i, .int j] = some l) : evalI C (.rng (.cons a (.cons b .nil))) env = .ok (l, env2) := by
  rw [eI_rng, eA_cons, ha]
  show ((evalEs C (.cons b .nil) env1).bind _).bind _ = _
  rw [eA_cons, hb]
  show (ofO (ranges [.int i, .int j])).bind _ = _
  rw [hr]
  rfl
theorem eI_rng1 {C : Calls} {a : E} {env env1 : Env} {i : Int} {l : List PV} (ha : evalE C a env = .ok (.int i, env1)) (hr : ranges [.int i] = some l) : evalI C (.rng (.cons a .nil)) env = .ok (l, env1) := by
  rw [eI_rng, eA_cons, ha]
  show (ofO (ranges [.int i])).bind _ = _
  rw [hr]
  rfl
end Ev

/-! EvM4: the least of rows of digits. -/
namespace Ev
open PySem
theorem alike_ints : ∀ (a b : List Int), PySem.W.alikeAll (PV.pds (a.map .int)) (PV.pds (b.map .int)) = true
  | [], _ => by simp [PV.pds, PySem.W.alikeAll]
  | x :: a, [] => by simp [PV.pds, PySem.W.alikeAll]
  | x :: a, y :: b => by simp [PV.pds, PV.pd, PySem.W.alikeAll, PySem.W.alike, alike_ints a b]
theorem best_in {lt : PV → PV → Bool} : ∀ {x : PV} {l : List PV}, best lt x l = x ∨ best lt x l ∈ l
  | x, [] => .inl rfl
  | x, y :: l => by
    unfold best
    split
    · rcases best_in (lt := lt) (x := y) (l := l) with h | h
      · rw [h]; exact .inr (by simp)
      · exact .inr (by simp [h])
    · rcases best_in (lt := lt) (x := x) (l := l) with h | h
      · exact .inl h
      · exact .inr (by simp [h])
theorem datas_ints : ∀ (a : List Int), PV.datas (a.map .int) = true
  | [] => rfl
  | x :: a => by simp [PV.datas, PV.data, datas_ints a]
theorem depth_ints : ∀ (a : List Int), PyData.depthAll (PV.pds (a.map .int)) = 0
  | [] => rfl
  | x :: a => by simp [PV.pds, PV.pd, PyData.depthAll, PyData.depth, depth_ints a]
theorem lt_rows (a b : List Int) : ltOk (.tup (a.map .int)) (.tup (b.map .int)) = true := by
  unfold ltOk
  simp [PV.data, datas_ints, PV.pd, PySem.W.alike, alike_ints, PyData.depth, depth_ints]
theorem pmin_rows {l : List (List Int)} (h : l ≠ []) : ∃ m ∈ l, pmin (l.map fun k => PV.tup (k.map .int)) = some (.tup (m.map .int)) := by
  cases l with
  | nil => exact absurd rfl h
  | cons x l =>
    have ok : ordOk ((x :: l).map fun k => PV.tup (k.map .int)) = true := by
      unfold ordOk
      rw [List.all_eq_true]
      intro p hp
      rw [List.all_eq_true]
      intro q hq
      obtain ⟨a, _, rfl⟩ := List.mem_map.mp hp
      obtain ⟨b, _, rfl⟩ := List.mem_map.mp hq
      exact lt_rows a b
    have e : pmin ((x :: l).map fun k => PV.tup (k.map .int)) = some (best (fun a b => PySem.W.dataLt a.pd b.pd) (.tup (x.map .int)) (l.map fun k => PV.tup (k.map .int))) := if_pos ok
    rw [e]
    rcases best_in (lt := fun a b => PySem.W.dataLt a.pd b.pd) (x := .tup (x.map .int)) (l := l.map fun k => PV.tup (k.map .int)) with h | h
    · exact ⟨x, by simp, by rw [h]⟩
    · obtain ⟨m, hm, e2⟩ := List.mem_map.mp h
      exact ⟨m, by simp [hm], by rw [← e2]⟩
end Ev

/-! EvM5: systems and keys of the house: the functions that many laws share. -/
namespace Ev
open PySem
variable {W n : Nat} {P : List Def}
@[simp] theorem Res.bind_raise' {α β : Type} {c : Nat} {a : PV} {e : Env} {f : α → Res β} : (Res.raise c a e : Res α).bind f = .raise c a e := rfl
@[simp] theorem Res.out_raise' {α : Type} {c : Nat} {a : PV} {e : Env} {f : α → Out} : (Res.raise c a e : Res α).out f = .raise c a e := rfl
@[simp] theorem Out.seq_raise' {c : Nat} {a : PV} {e : Env} {f : Env → Out} : (Out.raise c a e).seq f = .raise c a e := rfl
@[simp] theorem runCall_raise {c : Nat} {a b : PV} {env : Env} : runCall (.raise c a b) env = .raise c a env := rfl
theorem fin_raise {d : Def} {c : Nat} {a : PV} {env : Env} (h : d.br = false) : Ev.finish d (.raise c a env) = .raise c a .undef := by
  show (if d.br = true then _ else _) = _
  rw [if_neg (by rw [h]; exact Bool.false_ne_true)]
@[simp] theorem eS_raise {C : Calls} {env : Env} {c : Nat} {e : E} : evalS C W (.raise c e) env = (evalE C e env).out fun r => if xarg r.1 = true then .raise c r.1 r.2 else .fail := rfl
theorem eS_try {C : Calls} {env : Env} {b h : Ss} {c i : Nat} {cs : List Nat} : evalS C W (.try b c i cs h) env = match evalSs C W b env with
    | .raise d a en => if d ∈ cs then (if c = 0 ∨ c = d then (match evalSs C W h (en.set i (.exc d a)) with
      | .rt p e => if p.ne = true then .rt p (keep0 e) else .fail
      | _ => .fail) else .raise d a en) else .fail
    | o => o := rfl
theorem eE_isx {C : Calls} {env : Env} {i : Nat} {c : Option Nat} : evalE C (.isx i c) env = match env.getD i .undef with
    | .exc d _ => .ok (.bl (isxB c d), env)
    | _ => .fail := rfl
theorem eE_fld {C : Calls} {env : Env} {i : Nat} {cs : List Nat} : evalE C (.fld i cs) env = match env.getD i .undef with
    | .exc d x => if d ∈ cs then .ok (x, env) else .fail
    | _ => .fail := rfl
@[simp] theorem xarg_str {s : Str} : xarg (.str s) = decide (s.length ≤ 1000) := rfl
/-! ### plain values -/
mutual
def PV.vl : PV → Bool
  | .tup l => PV.vls l
  | .non => true
  | .bl _ => true
  | .int _ => true
  | .str _ => true
  | .undef => false
  | .lst _ => false
  | .fn _ => false
  | .exc _ _ => false
  | .scr _ => false
def PV.vls : List PV → Bool
  | [] => true
  | x :: l => PV.vl x && PV.vls l
end
mutual
theorem vl_lf : ∀ p : PV, p.vl = true → p.lf = true
  | .tup l, h => by simp only [PV.lf]; exact vls_lf l (by simpa [PV.vl] using h)
  | .non, _ => rfl
  | .bl _, _ => rfl
  | .int _, _ => rfl
  | .str _, _ => rfl
  | .undef, h => by simp [PV.vl] at h
  | .lst _, h => by simp [PV.vl] at h
  | .fn _, h => by simp [PV.vl] at h
  | .exc _ _, h => by simp [PV.vl] at h
  | .scr _, h => by simp [PV.vl] at h
theorem vls_lf : ∀ l : List PV, PV.vls l = true → PV.lfs l = true
  | [], _ => rfl
  | x :: l, h => by
    have h' : x.vl = true ∧ PV.vls l = true := by simpa [PV.vls] using h
    simp [PV.lfs, vl_lf x h'.1, vls_lf l h'.2]
end
mutual
theorem vl_ne : ∀ p : PV, p.vl = true → p.ne = true
  | .tup l, h => by simp only [PV.ne]; exact vls_ne l (by simpa [PV.vl] using h)
  | .non, _ => rfl
  | .bl _, _ => rfl
  | .int _, _ => rfl
  | .str _, _ => rfl
  | .undef, h => by simp [PV.vl] at h
  | .lst _, h => by simp [PV.vl] at h
  | .fn _, h => by simp [PV.vl] at h
  | .exc _ _, h => by simp [PV.vl] at h
  | .scr _, h => by simp [PV.vl] at h
theorem vls_ne : ∀ l : List PV, PV.vls l = true → PV.nes l = true
  | [], _ => rfl
  | x :: l, h => by
    have h' : x.vl = true ∧ PV.vls l = true := by simpa [PV.vls] using h
    simp [PV.nes, vl_ne x h'.1, vls_ne l h'.2]
end
theorem vls_mem {l : List PV} : PV.vls l = true ↔ ∀ x ∈ l, x.vl = true := by
  induction l with
  | nil => simp [PV.vls]
  | cons x l ih => simp [PV.vls, ih]
theorem vls_ints (l : List Int) : PV.vls (l.map .int) = true := by
  rw [vls_mem]
  intro x hx
  obtain ⟨z, _, rfl⟩ := List.mem_map.mp hx
  rfl
/-- the length of a tuple -/
def tlen : PV → Nat
  | .tup l => l.length
  | _ => 0
theorem get_at {env : Env} {i : Nat} {p : PV} (h : env.getD i .undef = p) (hp : p ≠ .undef) : Ev.get env i = .ok (p, env) := by
  unfold Ev.get
  rw [h]
  cases p <;> first | rfl | exact absurd rfl hp
theorem vl_nu {p : PV} (h : p.vl = true) : p ≠ .undef := fun e => by rw [e] at h; simp [PV.vl] at h
def isI : PV → Bool
  | .int _ => true
  | _ => false
def isT : PV → Bool
  | .tup _ => true
  | _ => false
def isB : PV → Bool
  | .bl _ => true
  | _ => false
theorem isi_i {p : PV} (h : p.vl = true) : isinst p .int = some (isI p || isB p) := by
  cases p <;> first | rfl | (simp [PV.vl] at h)
theorem isi_b {p : PV} (h : p.vl = true) : isinst p .bool = some (isB p) := by
  cases p <;> first | rfl | (simp [PV.vl] at h)
theorem isi_t {p : PV} (h : p.vl = true) : isinst p .tuple = some (isT p) := by
  cases p <;> first | rfl | (simp [PV.vl] at h)
def isIntD : Def := { np := 1, n := 1, br := false, fresh := false, ms := [], body := (.cons (.ret (.and (.isi (.v 0) .int) (.not (.isi (.v 0) .bool)))) .nil) }
theorem g_is_integer {k : Nat} (hk : P[k]? = some isIntD) {p : PV} (hp : p.vl = true) : callN W P (n + 1) k [p] = .ok (.bl (isI p)) .undef := by
  rw [callN_succ hk rfl]
  have g : Ev.get [p] 0 = .ok (p, [p]) := get_at rfl (vl_nu hp)
  have e : evalSs (callN W P n) W isIntD.body (Ev.start isIntD [p]) = .rt (.bl (isI p)) [p] := by
    show evalSs (callN W P n) W isIntD.body [p] = _
    simp only [isIntD, eSs_cons, eS_ret, eE_and, eE_isi, eE_not, eE_v, g, Res.bind_ok', isi_i hp, isi_b hp, ofO_some, truth_bl]
    cases p <;> first | rfl | (simp [PV.vl] at hp)
  exact (congrArg (Ev.finish isIntD) e).trans (fin_no rfl)
theorem comp_mapP {C : Calls} {own : List Nat} {tg : T} {it : It} {e : E} {env : Env} {l : List PV} {g : PV → PV} (hi : evalI C it env = .ok (l, env)) (hl : l.length ≤ sizeLine)
    (hb : ∀ x ∈ l, ∃ en1 en2, assign tg x (wipe own env) = some en1 ∧ evalE C e en1 = .ok (g x, en2) ∧ wipe own en2 = wipe own env) : evalE C (.comp own tg it .no e) env = .ok (.lst (l.map g), env) :=
  comp_map (i := fun x => x) (by rw [List.map_id']; exact hi) hl hb
/-- all in 0 .. d - 1 -/
def inR (d : Int) (k : List Int) : Bool := k.all fun c => decide (0 ≤ c) && decide (c < d)
def dif (k : List Int) (i : Nat) : Int := let x := k.getD i 0 - k.getD (i + 1) 0; if x < 0 then -x else x
def stp (s : Int) (p : Nat) (k : List Int) : Bool := (List.range (p - 1)).all fun i => decide (dif k i ≤ s)
/-- a system -/
def sysOk (p : Nat) (d s : Int) : Prop := 1 ≤ p ∧ p ≤ 7 ∧ 2 ≤ d ∧ d ≤ 10 ∧ 0 ≤ s ∧ s ≤ 9
def keyOk (p : Nat) (d s : Int) (k : List Int) : Prop := k.length = p ∧ inR d k = true ∧ stp s p k = true
def sysV (p : Nat) (d s : Int) : PV := .tup [.int p, .int d, .int s]
def keyV (k : List Int) : PV := .tup (k.map .int)
def ab (x : Int) : Int := if x < 0 then -x else x
theorem ab_sym (x y : Int) : ab (x - y) = ab (y - x) := by unfold ab; split <;> split <;> omega
theorem dif_eq (k : List Int) (i : Nat) : dif k i = ab (k.getD i 0 - k.getD (i + 1) 0) := rfl
theorem getD_l {k l : List Int} {i : Nat} (h : i < k.length) : (k ++ l).getD i 0 = k.getD i 0 := by
  rw [List.getD_eq_getElem?_getD, List.getD_eq_getElem?_getD, List.getElem?_append_left h]
theorem getD_r {k l : List Int} {i : Nat} (h : k.length ≤ i) : (k ++ l).getD i 0 = l.getD (i - k.length) 0 := by
  rw [List.getD_eq_getElem?_getD, List.getD_eq_getElem?_getD, List.getElem?_append_right h]
theorem stp_app {s : Int} {m : Nat} {k : List Int} {z : Int} (hl : k.length = m + 1) (h : stp s (m + 1) k = true) (hz : ab (z - k.getD m 0) ≤ s) : stp s (m + 2) (k ++ [z]) = true := by
  unfold stp at h ⊢
  rw [show m + 2 - 1 = m + 1 from rfl, List.range_succ, List.all_append]
  rw [show m + 1 - 1 = m from rfl] at h
  simp only [List.all_cons, List.all_nil, Bool.and_true, Bool.and_eq_true, List.all_eq_true, decide_eq_true_eq, List.mem_range] at h ⊢
  refine ⟨fun i hi => ?_, ?_⟩
  · have := h i hi
    rw [dif_eq] at this ⊢
    rwa [getD_l (by omega), getD_l (by omega)]
  · rw [dif_eq, getD_l (by omega), getD_r (by omega), ab_sym]
    rw [show m + 1 - k.length = 0 by omega]
    exact hz
theorem inR_app {d : Int} {k : List Int} {z : Int} (h : inR d k = true) (h0 : 0 ≤ z) (h1 : z < d) : inR d (k ++ [z]) = true := by
  unfold inR at h ⊢
  rw [List.all_append, h]
  simp [h0, h1]
def nearL (d s l : Int) : List Int := ((List.range d.toNat).map fun i : Nat => (i : Int)).filter fun c => decide (ab (c - l) ≤ s)
theorem mem_near {d s l c : Int} : c ∈ nearL d s l ↔ 0 ≤ c ∧ c < d ∧ ab (c - l) ≤ s := by
  unfold nearL
  rw [List.mem_filter, List.mem_map]
  constructor
  · rintro ⟨⟨i, hi, rfl⟩, h⟩
    rw [List.mem_range] at hi
    exact ⟨by omega, by omega, of_decide_eq_true h⟩
  · rintro ⟨h0, h1, h2⟩
    exact ⟨⟨c.toNat, List.mem_range.mpr (by omega), by omega⟩, by simpa using h2⟩
theorem near_ne {d s l : Int} (h0 : 0 ≤ l) (h1 : l < d) (hs : 0 ≤ s) : nearL d s l ≠ [] := by
  have : l ∈ nearL d s l := mem_near.mpr ⟨h0, h1, by unfold ab; split <;> omega⟩
  intro e
  rw [e] at this
  cases this
theorem near_len {d s l : Int} (h : d ≤ 10) : (nearL d s l).length ≤ 10 := by
  unfold nearL
  refine Nat.le_trans (List.length_filter_le _ _) ?_
  rw [List.length_map, List.length_range]
  omega
theorem fm_filter {α : Type} {l : List α} {p : α → Bool} {g : α → PV} : l.filterMap (fun x => if p x = true then some (g x) else none) = (l.filter p).map g := by
  induction l with
  | nil => rfl
  | cons x l ih =>
    rw [List.filterMap_cons, List.filter_cons]
    by_cases h : p x = true
    · rw [if_pos h, if_pos h, ih]; rfl
    · rw [if_neg h, if_neg h, ih]
/-- near = [..] -/
theorem e_near {C : Calls} {st : PV} {p d s l : Int} {K : List Int} {x0 x1 x3 x7 : PV} (hd : 0 ≤ d) (hd1 : d ≤ 10) (hK : K ≠ []) (hl : K.getD (K.length - 1) 0 = l) :
    evalE C (.comp [8] (.n 8) (.rng (.cons (.v 5) .nil)) (.so (.cmp .LtE (.blt .abs (.cons (.bin .Sub (.v 8) (.idx (.m 2) (.neg (.c (.int 1))))) .nil)) (.v 6))) (.v 8)) [x0, x1, .lst (K.map .int), x3, .int p, .int d, .int s, x7, .undef] =
      .ok (.lst ((nearL d s l).map .int), [x0, x1, .lst (K.map .int), x3, .int p, .int d, .int s, x7, .undef]) := by
  have e := comp_filter (C := C) (own := [8]) (tg := .n 8) (it := .rng (.cons (.v 5) .nil)) (c := .cmp .LtE (.blt .abs (.cons (.bin .Sub (.v 8) (.idx (.m 2) (.neg (.c (.int 1))))) .nil)) (.v 6)) (e := .v 8) (env := [x0, x1, .lst (K.map .int), x3, .int p, .int d, .int s, x7, .undef])
    (l := (List.range d.toNat).map fun i : Nat => (i : Int)) (i := PV.int) (g := fun c => if (decide (ab (c - l) ≤ s)) = true then some (.int c) else none) ?_ (sl_le (by simp; omega)) fun c hc => ?_
  · rw [e, fm_filter]; rfl
  · have sm : small62 d = true := by unfold small62; simp; omega
    simp [Ev.get, ranges, sm, rng0]
  · have il := ix_last hK
    rw [hl] at il
    refine ⟨[x0, x1, .lst (K.map .int), x3, .int p, .int d, .int s, x7, .int c], [x0, x1, .lst (K.map .int), x3, .int p, .int d, .int s, x7, .int c], .bl (decide (ab (c - l) ≤ s)), decide (ab (c - l) ≤ s), rfl, ?_, rfl, ?_⟩
    · simp [Ev.get, il]
      rfl
    · by_cases h : ab (c - l) ≤ s
      · rw [if_pos (by simpa using h)]
        refine ⟨.int c, [x0, x1, .lst (K.map .int), x3, .int p, .int d, .int s, x7, .int c], rfl, ?_, rfl⟩
        show (if decide (ab (c - l) ≤ s) = true then _ else _) = _
        rw [if_pos (by simpa using h)]
      · rw [if_neg (by simpa using h)]
        refine ⟨?_, rfl⟩
        show (if decide (ab (c - l) ≤ s) = true then _ else _) = _
        rw [if_neg (by simpa using h)]
def keyBody (dk pk : Nat) : Ss := (.cons (.asg (.n 7) (.comp [8] (.n 8) (.rng (.cons (.v 5) .nil)) (.so (.cmp .LtE (.blt .abs (.cons (.bin .Sub (.v 8) (.idx (.m 2) (.neg (.c (.int 1))))) .nil)) (.v 6))) (.v 8))) (.cons (.app 2 (.chk (.callr pk 0 (.cons (.lst (.cons (.chk (.idx (.v 7) (.c (.int 0)))) (.cons (.chk (.idx (.v 7) (.neg (.c (.int 1))))) (.cons (.chk (.callr pk 0 (.cons (.v 7) .nil))) (.cons (.chk (.callr pk 0 (.cons (.v 7) .nil))) .nil))))) .nil)))) .nil))
def lawKeyB (dk pk : Nat) : Ss := (.cons (.asg (.cons (.n 4) (.cons (.n 5) (.cons (.n 6) .nil))) (.v 1)) (.cons (.masg 2 (.lst (.cons (.chk (.callr pk 0 (.cons (.lst (.cons (.chk (.callr dk 0 (.cons (.v 5) .nil))) (.cons (.c (.int 0)) (.cons (.chk (.bin .Sub (.v 5) (.c (.int 1)))) .nil)))) .nil))) .nil))) (.cons (.for (.n 3) (.rng (.cons (.c (.int 1)) (.cons (.v 4) .nil))) (keyBody dk pk)) (.cons (.ret (.chk (.blt .tuple (.cons (.m 2) .nil)))) .nil))))
def lawKeyD (dk pk : Nat) : Def := { np := 2, n := 9, br := true, fresh := false, ms := [0, 2], body := lawKeyB dk pk }
def lawSysB (pk : Nat) : Ss := (.cons (.asg (.cons (.n 1) (.cons (.n 2) .nil)) (.tup (.cons (.callr pk 0 (.cons (.lst (.cons (.c (.int 1)) (.cons (.c (.int 2)) (.cons (.c (.int 3)) (.cons (.c (.int 3)) (.cons (.c (.int 4)) (.cons (.c (.int 5)) (.cons (.c (.int 6)) (.cons (.c (.int 7)) .nil))))))))) .nil)) (.cons (.callr pk 0 (.cons (.lst (.cons (.c (.int 2)) (.cons (.c (.int 3)) (.cons (.c (.int 4)) (.cons (.c (.int 5)) (.cons (.c (.int 7)) (.cons (.c (.int 10)) .nil))))))) .nil)) .nil)))) (.cons (.ret (.tup (.cons (.v 1) (.cons (.v 2) (.cons (.callr pk 0 (.cons (.lst (.cons (.c (.int 0)) (.cons (.c (.int 1)) (.cons (.c (.int 1)) (.cons (.c (.int 2)) (.cons (.c (.int 3)) (.cons (.bin .Sub (.v 2) (.c (.int 1))) (.cons (.c (.int 9)) .nil)))))))) .nil)) .nil))))) .nil))
def lawSysD (pk : Nat) : Def := { np := 1, n := 3, br := true, fresh := false, ms := [0], body := lawSysB pk }
section
variable {dk pk : Nat}
theorem g_system {k : Nat} (hk : P[k]? = some (lawSysD pk)) (hp : P[pk]? = some (pickD dk)) (hd : P[dk]? = some drawD) (sc : List Int) (a : Int) (i : Nat) (b : Int) : ∃ p d s a' i' b', callN W P (n + 3) k [stV sc a i b] = .ok (sysV p d s) (stV sc a' i' b') ∧ sysOk p d s := by
  obtain ⟨p, a1, i1, b1, h1, m1⟩ := c_pickI (W := W) (n := n) hp hd sc a i b [1, 2, 3, 3, 4, 5, 6, 7] (by simp) (by simp)
  obtain ⟨d, a2, i2, b2, h2, m2⟩ := c_pickI (W := W) (n := n) hp hd sc a1 i1 b1 [2, 3, 4, 5, 7, 10] (by simp) (by simp)
  obtain ⟨s, a3, i3, b3, h3, m3⟩ := c_pickI (W := W) (n := n) hp hd sc a2 i2 b2 [0, 1, 1, 2, 3, d - 1, 9] (by simp) (by simp)
  simp only [List.map_cons, List.map_nil] at h1 h2 h3
  simp only [List.mem_cons, List.not_mem_nil, or_false] at m1 m2 m3
  have ep : ((p.toNat : Nat) : Int) = p := by omega
  refine ⟨p.toNat, d, s, a3, i3, b3, ?_, by omega, by omega, by omega, by omega, by omega, by omega⟩
  rw [callN_succ hk rfl]
  have g1 : ∀ x : PV, Ev.get [x, .int p, .int d] 2 = .ok (.int d, [x, .int p, .int d]) := fun _ => rfl
  have e1 : evalSs (callN W P (n + 2)) W (lawSysD pk).body (Ev.start (lawSysD pk) [stV sc a i b]) = .rt (sysV p.toNat d s) [stV sc a3 i3 b3, .int p, .int d] := by
    simp only [lawSysD, lawSysB, Ev.start, List.length_cons, List.length_nil, Nat.sub, List.replicate, List.cons_append, List.nil_append]
    simp [h1, h2, h3, g1, sysV, ep]
  rw [e1, fin_st rfl]
/-- one more cut -/
theorem key_turn (hp : P[pk]? = some (pickD dk)) (hd' : P[dk]? = some drawD) (sc : List Int) (a3 : Int) (i3 : Nat) (b3 : Int) {p d s l : Int} {K : List Int} {sy x x7 : PV} (hd : 0 ≤ d) (hd1 : d ≤ 10) (hs : 0 ≤ s) (kn : K ≠ []) (hl : K.getD (K.length - 1) 0 = l) (lr : 0 ≤ l ∧ l < d) (kz : K.length < sizeLine) :
    ∃ a6 i6 b6 q3, evalSs (callN W P (n + 2)) W (keyBody dk pk) [stV sc a3 i3 b3, sy, .lst (K.map .int), x, .int p, .int d, .int s, x7, .undef] = .nx [stV sc a6 i6 b6, sy, .lst ((K ++ [q3]).map .int), x, .int p, .int d, .int s, .lst ((nearL d s l).map .int), .undef] ∧ 0 ≤ q3 ∧ q3 < d ∧ ab (q3 - l) ≤ s := by
  have nn := near_ne (d := d) (s := s) lr.1 lr.2 hs
  have nl := near_len (d := d) (s := s) (l := l) hd1
  have ne := e_near (C := callN W P (n + 2)) (st := .non) (p := p) (d := d) (s := s) (l := l) (K := K) (x0 := stV sc a3 i3 b3) (x1 := sy) (x3 := x) (x7 := x7) hd hd1 kn hl
  have np : 0 < (nearL d s l).length := List.length_pos_iff.mpr nn
  have f0 := ix_first nn
  have f1 := ix_last nn
  have e0 : (nearL d s l).getD 0 0 ∈ nearL d s l := Ev.getD_mem np
  have e1 : (nearL d s l).getD ((nearL d s l).length - 1) 0 ∈ nearL d s l := Ev.getD_mem (by omega)
  generalize (nearL d s l).getD 0 0 = u0 at f0 e0
  generalize (nearL d s l).getD ((nearL d s l).length - 1) 0 = u1 at f1 e1
  obtain ⟨q1, a4, i4, b4, g1, m1⟩ := c_pickI (W := W) (n := n) hp hd' sc a3 i3 b3 (nearL d s l) nn (by omega)
  obtain ⟨q2, a5, i5, b5, g2, m2⟩ := c_pickI (W := W) (n := n) hp hd' sc a4 i4 b4 (nearL d s l) nn (by omega)
  obtain ⟨q3, a6, i6, b6, g3, m3⟩ := c_pickI (W := W) (n := n) hp hd' sc a5 i5 b5 [u0, u1, q1, q2] (by simp) (by simp)
  simp only [List.map_cons, List.map_nil] at g3
  have q3m : q3 ∈ nearL d s l := by
    simp only [List.mem_cons, List.not_mem_nil, or_false] at m3
    rcases m3 with rfl | rfl | rfl | rfl <;> assumption
  obtain ⟨w0, w1, w2⟩ := mem_near.mp q3m
  have pu : pushP (.int q3) (K.map .int) = some (.lst ((K ++ [q3]).map .int)) := by
    unfold pushP
    rw [if_pos (by rw [List.length_map]; exact kz), List.map_append]
    rfl
  refine ⟨a6, i6, b6, q3, ?_, w0, w1, w2⟩
  generalize (K ++ [q3]).map PV.int = KQ at pu ⊢
  generalize K.map PV.int = KM at *
  generalize (nearL d s l).map PV.int = NM at *
  have v7 : ∀ y : PV, Ev.get [y, sy, .lst KM, x, .int p, .int d, .int s, .lst NM, .undef] 7 = .ok (.lst NM, [y, sy, .lst KM, x, .int p, .int d, .int s, .lst NM, .undef]) := fun _ => rfl
  have gl : ∀ y : PV, getL [y, sy, .lst KM, x, .int p, .int d, .int s, .lst NM, .undef] 2 = .ok (KM, [y, sy, .lst KM, x, .int p, .int d, .int s, .lst NM, .undef]) := fun _ => rfl
  unfold keyBody
  simp [ne, v7, gl, f0, f1, g1, g2, g3, pu]
theorem key_loop (hp : P[pk]? = some (pickD dk)) (hd' : P[dk]? = some drawD) (sc : List Int) (a2 : Int) (i2 : Nat) (b2 z : Int) {p : Nat} {d s : Int} {sy : PV} (h : sysOk p d s) (z0 : 0 ≤ z ∧ z < d) :
    ∃ a3 i3 b3 K x3 x7, evalS (callN W P (n + 2)) W (.for (.n 3) (.rng (.cons (.c (.int 1)) (.cons (.v 4) .nil))) (keyBody dk pk)) [stV sc a2 i2 b2, sy, .lst [.int z], .undef, .int p, .int d, .int s, .undef, .undef] =
      .nx [stV sc a3 i3 b3, sy, .lst (K.map .int), x3, .int p, .int d, .int s, x7, .undef] ∧ keyOk p d s K := by
  obtain ⟨p1, p2, d1, d2, s1, s2⟩ := h
  have hi : evalI (callN W P (n + 2)) (.rng (.cons (.c (.int 1)) (.cons (.v 4) .nil))) [stV sc a2 i2 b2, sy, .lst [.int z], .undef, .int p, .int d, .int s, .undef, .undef] = .ok (rng 1 (p - 1), [stV sc a2 i2 b2, sy, .lst [.int z], .undef, .int p, .int d, .int s, .undef, .undef]) := by
    have et : ((p : Int) - 1).toNat = p - 1 := by omega
    have er := ranges2 (i := 1) (j := (p : Int)) (by omega) (by omega) (by omega) (by omega)
    rw [et] at er
    have v4 : ∀ y : PV, Ev.get [y, sy, .lst [.int z], .undef, .int p, .int d, .int s, .undef, .undef] 4 = .ok (.int p, [y, sy, .lst [.int z], .undef, .int p, .int d, .int s, .undef, .undef]) := fun _ => rfl
    exact eI_rng2 rfl (v4 _) er
  obtain ⟨en, e1, a3, i3, b3, K, x3, x7, rfl, kl, kr, ks⟩ := for_inv (C := callN W P (n + 2)) (W := W) (t := .n 3) (b := keyBody dk pk) hi
    (fun j en => ∃ a i b K x3 x7, en = [stV sc a i b, sy, .lst (K.map .int), x3, .int p, .int d, .int s, x7, .undef] ∧ K.length = j + 1 ∧ inR d K = true ∧ stp s (j + 1) K = true)
    ⟨a2, i2, b2, [z], .undef, .undef, rfl, rfl, by simp [inR, z0.1, z0.2], by simp [stp]⟩
    (fun j x en hx hI => by
      obtain ⟨a3, i3, b3, K, x3, x7, rfl, kl, kr, ks⟩ := hI
      have kn : K ≠ [] := by intro e; rw [e] at kl; cases kl
      have hj : j < p - 1 := by
        rcases Nat.lt_or_ge j (p - 1) with h | h
        · exact h
        · rw [List.getElem?_eq_none (by rw [rng_len]; exact h)] at hx; cases hx
      have lm : K.getD (K.length - 1) 0 ∈ K := Ev.getD_mem (by omega)
      have lr : 0 ≤ K.getD (K.length - 1) 0 ∧ K.getD (K.length - 1) 0 < d := by
        have := List.all_eq_true.mp kr _ lm
        simpa using this
      obtain ⟨a6, i6, b6, q3, e, w0, w1, w2⟩ := key_turn (W := W) (n := n) hp hd' sc a3 i3 b3 (p := p) (d := d) (s := s) (K := K) (sy := sy) (x := x) (x7 := x7) (by omega) (by omega) s1 kn rfl lr (by rw [sizeLine_eq]; omega)
      refine ⟨_, _, rfl, .inl e, a6, i6, b6, K ++ [q3], x, _, rfl, by rw [List.length_append, kl]; rfl, inR_app kr w0 w1, stp_app kl ks ?_⟩
      rw [show K.length - 1 = j by omega] at w2
      exact w2)
  rw [rng_len] at kl ks
  have ep : p - 1 + 1 = p := by omega
  rw [ep] at kl ks
  exact ⟨a3, i3, b3, K, x3, x7, e1, kl, kr, ks⟩
theorem key_body {C : Calls} {sc : List Int} {a a1 a2 a3 : Int} {i i1 i2 i3 : Nat} {b b1 b2 b3 r z : Int} {p : Int} {d s : Int} {K : List Int} {x3 x7 : PV} {FF : S}
    (h1 : C dk [stV sc a i b, .int d] = .ok (.int r) (stV sc a1 i1 b1)) (h2 : C pk [stV sc a1 i1 b1, .lst [.int r, .int 0, .int (d - 1)]] = .ok (.int z) (stV sc a2 i2 b2))
    (e1 : evalS C W FF [stV sc a2 i2 b2, .tup [.int p, .int d, .int s], .lst [.int z], .undef, .int p, .int d, .int s, .undef, .undef] = .nx [stV sc a3 i3 b3, .tup [.int p, .int d, .int s], .lst (K.map .int), x3, .int p, .int d, .int s, x7, .undef]) :
    evalSs C W (.cons (.asg (.cons (.n 4) (.cons (.n 5) (.cons (.n 6) .nil))) (.v 1)) (.cons (.masg 2 (.lst (.cons (.chk (.callr pk 0 (.cons (.lst (.cons (.chk (.callr dk 0 (.cons (.v 5) .nil))) (.cons (.c (.int 0)) (.cons (.chk (.bin .Sub (.v 5) (.c (.int 1)))) .nil)))) .nil))) .nil))) (.cons FF (.cons (.ret (.chk (.blt .tuple (.cons (.m 2) .nil)))) .nil))))
      [stV sc a i b, .tup [.int p, .int d, .int s], .undef, .undef, .undef, .undef, .undef, .undef, .undef] = .rt (keyV K) [stV sc a3 i3 b3, .tup [.int p, .int d, .int s], .lst (K.map .int), x3, .int p, .int d, .int s, x7, .undef] := by
  have lfk : PV.lf (.tup (K.map .int)) = true := by simp [PV.lf, lfs_ints]
  have v1 : Ev.get [stV sc a i b, .tup [.int p, .int d, .int s], .undef, .undef, .undef, .undef, .undef, .undef, .undef] 1 = .ok (.tup [.int p, .int d, .int s], [stV sc a i b, .tup [.int p, .int d, .int s], .undef, .undef, .undef, .undef, .undef, .undef, .undef]) := rfl
  have v5 : ∀ y : PV, Ev.get [y, .tup [.int p, .int d, .int s], .undef, .undef, .int p, .int d, .int s, .undef, .undef] 5 = .ok (.int d, [y, .tup [.int p, .int d, .int s], .undef, .undef, .int p, .int d, .int s, .undef, .undef]) := fun _ => rfl
  have m2' : ∀ y : PV, Ev.get [y, .tup [.int p, .int d, .int s], .lst (K.map .int), x3, .int p, .int d, .int s, x7, .undef] 2 = .ok (.lst (K.map .int), [y, .tup [.int p, .int d, .int s], .lst (K.map .int), x3, .int p, .int d, .int s, x7, .undef]) := fun _ => rfl
  simp [v1, v5, h1, h2, e1, m2', lfk, keyV]
theorem g_key {kk : Nat} (hk : P[kk]? = some (lawKeyD dk pk)) (hp : P[pk]? = some (pickD dk)) (hd' : P[dk]? = some drawD) (sc : List Int) (a : Int) (i : Nat) (b : Int) {p : Nat} {d s : Int} (h : sysOk p d s) : ∃ k a' i' b', callN W P (n + 3) kk [stV sc a i b, sysV p d s] = .ok (keyV k) (stV sc a' i' b') ∧ keyOk p d s k := by
  have h' := h
  obtain ⟨p1, p2, d1, d2, s1, s2⟩ := h'
  obtain ⟨r, a1, i1, b1, h1, r0, r1⟩ := c_draw (W := W) (n := n + 1) hd' sc a i b d (by omega) (by omega)
  obtain ⟨z, a2, i2, b2, h2, m2⟩ := c_pickI (W := W) (n := n) hp hd' sc a1 i1 b1 [r, 0, d - 1] (by simp) (by simp)
  simp only [List.map_cons, List.map_nil] at h2
  simp only [List.mem_cons, List.not_mem_nil, or_false] at m2
  have z0 : 0 ≤ z ∧ z < d := by omega
  obtain ⟨a3, i3, b3, K, x3, x7, e1, ok⟩ := key_loop (W := W) (n := n) hp hd' sc a2 i2 b2 z (sy := sysV p d s) h z0
  refine ⟨K, a3, i3, b3, ?_, ok⟩
  rw [callN_succ hk rfl]
  exact (congrArg (Ev.finish (lawKeyD dk pk)) (key_body (C := callN W P (n + 2)) h1 h2 e1)).trans (fin_st rfl)
end
end Ev

/-! EvM6: check_system, key_reason, check_key of any plain values. -/
namespace Ev
open PySem
variable {W n : Nat} {P : List Def}
theorem ints_of : ∀ {l : List PV}, l.all isI = true → ∃ ns : List Int, l = ns.map .int
  | [], _ => ⟨[], rfl⟩
  | x :: l, h => by
    rw [List.all_cons, Bool.and_eq_true] at h
    obtain ⟨ns, rfl⟩ := ints_of h.2
    cases x with
    | int i => exact ⟨i :: ns, rfl⟩
    | _ => exact absurd h.1 (by simp [isI])
theorem all_ints (ns : List Int) : (ns.map PV.int).all isI = true := by
  rw [List.all_eq_true]
  intro x hx
  obtain ⟨z, _, rfl⟩ := List.mem_map.mp hx
  rfl
/-- a right system -/
def sysR : PV → Bool
  | .tup [.int p, .int d, .int s] => (decide (1 ≤ p) && decide (p ≤ 7)) && ((decide (2 ≤ d) && decide (d ≤ 10)) && (decide (0 ≤ s) && decide (s ≤ 9)))
  | _ => false
theorem sysR_inv {p : PV} (h : sysR p = true) : ∃ (m : Nat) (d s : Int), p = sysV m d s ∧ sysOk m d s := by
  unfold sysR at h
  split at h
  · rename_i p d s
    simp only [Bool.and_eq_true, decide_eq_true_eq] at h
    obtain ⟨⟨h1, h2⟩, ⟨h3, h4⟩, h5, h6⟩ := h
    refine ⟨p.toNat, d, s, ?_, by omega, by omega, h3, h4, h5, h6⟩
    unfold sysV
    rw [show ((p.toNat : Nat) : Int) = p by omega]
  · cases h
theorem sysR_ok {m : Nat} {d s : Int} (h : sysOk m d s) : sysR (sysV m d s) = true := by
  obtain ⟨h1, h2, h3, h4, h5, h6⟩ := h
  unfold sysR sysV
  simp only [Bool.and_eq_true, decide_eq_true_eq]
  exact ⟨⟨by omega, by omega⟩, ⟨h3, h4⟩, h5, h6⟩
theorem sysR_no {l : List PV} (h : l.length ≠ 3 ∨ l.all isI = false) : sysR (.tup l) = false := by
  cases e : sysR (.tup l) with
  | false => rfl
  | true =>
    obtain ⟨m, d, s, hp, _⟩ := sysR_inv e
    unfold sysV at hp
    cases hp
    rcases h with h | h
    · exact absurd rfl h
    · cases h
def chkSysB (k0 c : Nat) : Ss := (.cons (.ite (.or (.not (.isi (.v 0) .tuple)) (.or (.cmp .NotEq (.blt .len (.cons (.v 0) .nil)) (.c (.int 3))) (.not (.blt .all (.cons (.comp [4] (.n 4) (.e (.v 0)) .no (.call k0 (.cons (.v 4) .nil))) .nil))))) (.cons (.raise c (.c (.str "system"))) .nil) .nil) (.cons (.asg (.cons (.n 1) (.cons (.n 2) (.cons (.n 3) .nil))) (.v 0)) (.cons (.ite (.or (.not (.cmp2 .LtE .LtE (.c (.int 1)) (.v 1) (.g "MAX_PINS" (.int (7))))) (.or (.not (.cmp2 .LtE .LtE (.c (.int 2)) (.v 2) (.g "MAX_DEPTHS" (.int (10))))) (.not (.cmp2 .LtE .LtE (.c (.int 0)) (.v 3) (.g "MAX_STEP" (.int (9))))))) (.cons (.raise c (.c (.str "system"))) .nil) .nil) .nil)))
def chkSysD (k0 c : Nat) : Def := { np := 1, n := 5, br := false, fresh := false, ms := [], body := chkSysB k0 c }
theorem chkSys_comp {C : Calls} {k0 : Nat} {l : List PV} (hC : ∀ x ∈ l, C k0 [x] = .ok (.bl (isI x)) .undef) (hv : PV.vls l = true) (hl : l.length ≤ 1000) :
    evalE C (.comp [4] (.n 4) (.e (.v 0)) .no (.call k0 (.cons (.v 4) .nil))) [.tup l, .undef, .undef, .undef, .undef] = .ok (.lst (l.map fun x => .bl (isI x)), [.tup l, .undef, .undef, .undef, .undef]) := by
  refine comp_mapP rfl (sl_le (by omega)) fun x hx => ?_
  have g : Ev.get [.tup l, .undef, .undef, .undef, x] 4 = .ok (x, [.tup l, .undef, .undef, .undef, x]) := get_at rfl (vl_nu (vls_mem.mp hv x hx))
  exact ⟨[.tup l, .undef, .undef, .undef, x], [.tup l, .undef, .undef, .undef, x], rfl, by simp only [eE_call, eA_cons, eA_nil, eE_v, g, Res.bind_ok', hC x hx, runCall_ok], rfl⟩
theorem chkSys_body {C : Calls} {c : Nat} {p : PV} {X : E} (hp : p.vl = true) (hl : tlen p ≤ 1000)
    (hx : ∀ l, p = .tup l → evalE C X [p, .undef, .undef, .undef, .undef] = .ok (.lst (l.map fun x => .bl (isI x)), [p, .undef, .undef, .undef, .undef])) :
    Ev.finish (chkSysD 0 c) (evalSs C W (.cons (.ite (.or (.not (.isi (.v 0) .tuple)) (.or (.cmp .NotEq (.blt .len (.cons (.v 0) .nil)) (.c (.int 3))) (.not (.blt .all (.cons X .nil))))) (.cons (.raise c (.c (.str "system"))) .nil) .nil) (.cons (.asg (.cons (.n 1) (.cons (.n 2) (.cons (.n 3) .nil))) (.v 0)) (.cons (.ite (.or (.not (.cmp2 .LtE .LtE (.c (.int 1)) (.v 1) (.g "MAX_PINS" (.int (7))))) (.or (.not (.cmp2 .LtE .LtE (.c (.int 2)) (.v 2) (.g "MAX_DEPTHS" (.int (10))))) (.not (.cmp2 .LtE .LtE (.c (.int 0)) (.v 3) (.g "MAX_STEP" (.int (9))))))) (.cons (.raise c (.c (.str "system"))) .nil) .nil) .nil))) [p, .undef, .undef, .undef, .undef]) =
      if sysR p = true then .ok .non .undef else .raise c (.str "system") .undef := by
  have g0 : Ev.get [p, .undef, .undef, .undef, .undef] 0 = .ok (p, [p, .undef, .undef, .undef, .undef]) := get_at rfl (vl_nu hp)
  have xs : xarg (.str "system") = true := by decide
  by_cases ht : isT p = true
  · obtain ⟨l, rfl⟩ : ∃ l, p = .tup l := by cases p <;> first | exact ⟨_, rfl⟩ | cases ht
    have hx := hx l rfl
    have a1 := blt_all_f l isI
    by_cases h3 : l.length = 3
    · by_cases ha : l.all isI = true
      · obtain ⟨ns, rfl⟩ := ints_of ha
        rw [List.length_map] at h3
        obtain ⟨p, d, s, rfl⟩ : ∃ p d s, ns = [p, d, s] := by
          match ns, h3 with
          | [p, d, s], _ => exact ⟨p, d, s, rfl⟩
        rw [ha] at a1
        have g1 : Ev.get [.tup ([p, d, s].map .int), .int p, .int d, .int s, .undef] 1 = .ok (.int p, [.tup ([p, d, s].map .int), .int p, .int d, .int s, .undef]) := rfl
        have g2 : Ev.get [.tup ([p, d, s].map .int), .int p, .int d, .int s, .undef] 2 = .ok (.int d, [.tup ([p, d, s].map .int), .int p, .int d, .int s, .undef]) := rfl
        have g3 : Ev.get [.tup ([p, d, s].map .int), .int p, .int d, .int s, .undef] 3 = .ok (.int s, [.tup ([p, d, s].map .int), .int p, .int d, .int s, .undef]) := rfl
        have as : assign (.cons (.n 1) (.cons (.n 2) (.cons (.n 3) .nil))) (.tup ([p, d, s].map .int)) [.tup ([p, d, s].map .int), .undef, .undef, .undef, .undef] = some [.tup ([p, d, s].map .int), .int p, .int d, .int s, .undef] := rfl
        have ln : evalB .len [.tup ([p, d, s].map .int)] = some (.int 3) := rfl
        have se : sysR (.tup ([p, d, s].map .int)) = ((decide (1 ≤ p) && decide (p ≤ 7)) && ((decide (2 ≤ d) && decide (d ≤ 10)) && (decide (0 ≤ s) && decide (s ≤ 9)))) := rfl
        rw [se]
        generalize PV.tup ([p, d, s].map .int) = T at *
        simp only [eSs_cons, eS_ite, eE_or, eE_not, eE_isi, eE_v, g0, Res.bind_ok', isi_t hp, ht, ofO_some, truth_bl, Bool.not_true, Bool.false_eq_true, if_false, eE_cmp, eE_blt, eA_cons, eA_nil, ln, eE_c, cmp_nei, decide_true, hx, a1, Res.out_ok, eSs_nil, Out.seq_nx, eS_asg, as,
          eE_cmp2, eE_g, g1, g2, g3, cmp_lei]
        by_cases p1 : 1 ≤ p <;> by_cases p2 : p ≤ 7 <;> by_cases d1 : 2 ≤ d <;> by_cases d2 : d ≤ 10 <;> by_cases s1 : 0 ≤ s <;> by_cases s2 : s ≤ 9 <;>
          simp [p1, p2, d1, d2, s1, s2, g1, g2, g3, xs, fin_raise, fin_nx, chkSysD]
      · have ha' : l.all isI = false := by simpa using ha
        rw [ha'] at a1
        rw [sysR_no (.inr ha')]
        simp only [eSs_cons, eS_ite, eE_or, eE_not, eE_isi, eE_v, g0, Res.bind_ok', isi_t hp, ht, ofO_some, truth_bl, Bool.not_true, Bool.false_eq_true, if_false, eE_cmp, eE_blt, eA_cons, eA_nil, blt_len_tup, eE_c, cmp_nei, h3, hx, a1, Res.out_ok, eSs_nil, Out.seq_nx]
        simp [xs, fin_raise, chkSysD]
    · rw [sysR_no (.inl h3)]
      have h3' : ¬ ((l.length : Int) = 3) := by omega
      simp only [eSs_cons, eS_ite, eE_or, eE_not, eE_isi, eE_v, g0, Res.bind_ok', isi_t hp, ht, ofO_some, truth_bl, Bool.not_true, Bool.false_eq_true, if_false, eE_cmp, eE_blt, eA_cons, eA_nil, blt_len_tup, eE_c, cmp_nei, h3', decide_false, Bool.not_false, if_true, Res.out_ok]
      simp [xs, fin_raise, chkSysD]
  · have ht' : isT p = false := by simpa using ht
    have sn : sysR p = false := by cases p <;> first | rfl | exact absurd rfl ht
    rw [sn]
    simp only [eSs_cons, eS_ite, eE_or, eE_not, eE_isi, eE_v, g0, Res.bind_ok', isi_t hp, ht', ofO_some, truth_bl, Bool.not_false, if_true, Res.out_ok]
    simp [xs, fin_raise, chkSysD]
theorem g_check_system {k k0 c : Nat} (h0 : P[k0]? = some isIntD) (hk : P[k]? = some (chkSysD k0 c)) {p : PV} (hp : p.vl = true) (hl : tlen p ≤ 1000) :
    callN W P (n + 2) k [p] = if sysR p = true then .ok .non .undef else .raise c (.str "system") .undef := by
  rw [callN_succ hk rfl]
  exact chkSys_body hp hl fun l e => by
    subst e
    have hv : PV.vls l = true := by simpa [PV.vl] using hp
    exact chkSys_comp (fun x hx => g_is_integer h0 (vls_mem.mp hv x hx)) hv hl
def toI : PV → Int
  | .int i => i
  | _ => 0
theorem toI_map (ns : List Int) : (ns.map PV.int).map toI = ns := by
  rw [List.map_map]
  exact List.map_id'' (fun _ => rfl) ns
/-- is it a key: 0 yes, 1 no form, 2 no cut, 3 no step -/
def kc (p : Nat) (d s : Int) : PV → Nat
  | .tup l => if l.length = p ∧ l.all isI = true then (if inR d (l.map toI) = true then (if stp s p (l.map toI) = true then 0 else 3) else 2) else 1
  | _ => 1
def reasonV : Nat → PV
  | 0 => .non
  | 1 => .str "form"
  | 2 => .str "cut"
  | _ => .str "step"
theorem kc_le (p : Nat) (d s : Int) (k : PV) : kc p d s k ≤ 3 := by
  unfold kc
  split
  · split
    · split
      · split <;> omega
      · omega
    · omega
  · omega
theorem kc_ok {p : Nat} {d s : Int} {k : List Int} (h : keyOk p d s k) : kc p d s (keyV k) = 0 := by
  unfold kc keyV
  simp only [List.length_map, h.1, all_ints, toI_map, h.2.1, h.2.2, and_self, if_true]
def kx1 (k0 : Nat) : E := .comp [5] (.n 5) (.e (.v 1)) .no (.call k0 (.cons (.v 5) .nil))
def kx2 : E := .comp [5] (.n 5) (.e (.v 1)) .no (.cmp2 .LtE .Lt (.c (.int 0)) (.v 5) (.v 3))
def kx3 : E := .comp [6] (.n 6) (.rng (.cons (.bin .Sub (.v 2) (.c (.int 1))) .nil)) .no (.cmp .LtE (.blt .abs (.cons (.bin .Sub (.idx (.v 1) (.v 6)) (.idx (.v 1) (.bin .Add (.v 6) (.c (.int 1))))) .nil)) (.v 4))
def keyReasonX (X1 X2 X3 : E) : Ss := (.cons (.asg (.cons (.n 2) (.cons (.n 3) (.cons (.n 4) .nil))) (.v 0)) (.cons (.ite (.or (.not (.isi (.v 1) .tuple)) (.or (.cmp .NotEq (.blt .len (.cons (.v 1) .nil)) (.v 2)) (.not (.blt .all (.cons X1 .nil))))) (.cons (.ret (.c (.str "form"))) .nil) .nil) (.cons (.ite (.not (.blt .all (.cons X2 .nil))) (.cons (.ret (.c (.str "cut"))) .nil) .nil) (.cons (.ite (.not (.blt .all (.cons X3 .nil))) (.cons (.ret (.c (.str "step"))) .nil) .nil) (.cons (.ret (.c .non)) .nil)))))
def keyReasonD (k0 : Nat) : Def := { np := 2, n := 7, br := false, fresh := false, ms := [], body := keyReasonX (kx1 k0) kx2 kx3 }
theorem kx1_ok {C : Calls} {k0 : Nat} {a b c e : PV} {l : List PV} (hC : ∀ x ∈ l, C k0 [x] = .ok (.bl (isI x)) .undef) (hv : PV.vls l = true) (hl : l.length ≤ 1000) :
    evalE C (kx1 k0) [a, .tup l, b, c, e, .undef, .undef] = .ok (.lst (l.map fun x => .bl (isI x)), [a, .tup l, b, c, e, .undef, .undef]) := by
  refine comp_mapP rfl (sl_le (by omega)) fun x hx => ?_
  have g : Ev.get [a, .tup l, b, c, e, x, .undef] 5 = .ok (x, [a, .tup l, b, c, e, x, .undef]) := get_at rfl (vl_nu (vls_mem.mp hv x hx))
  exact ⟨[a, .tup l, b, c, e, x, .undef], [a, .tup l, b, c, e, x, .undef], rfl, by simp only [eE_call, eA_cons, eA_nil, eE_v, g, Res.bind_ok', hC x hx, runCall_ok], rfl⟩
theorem kx2_ok {C : Calls} {a b e : PV} {d : Int} {k : List Int} (hl : k.length ≤ 1000) :
    evalE C kx2 [a, keyV k, b, .int d, e, .undef, .undef] = .ok (.lst (k.map fun c => PV.bl (decide (0 ≤ c) && decide (c < d))), [a, keyV k, b, .int d, e, .undef, .undef]) := by
  refine comp_map (l := k) (i := PV.int) rfl (sl_le (by omega)) fun x hx => ?_
  refine ⟨[a, keyV k, b, .int d, e, .int x, .undef], [a, keyV k, b, .int d, e, .int x, .undef], rfl, ?_, rfl⟩
  have g5 : Ev.get [a, keyV k, b, .int d, e, .int x, .undef] 5 = .ok (.int x, [a, keyV k, b, .int d, e, .int x, .undef]) := rfl
  have g3 : Ev.get [a, keyV k, b, .int d, e, .int x, .undef] 3 = .ok (.int d, [a, keyV k, b, .int d, e, .int x, .undef]) := rfl
  simp only [eE_cmp2, eE_c, eE_v, g5, g3, Res.bind_ok', cmp_lei, cmp_lti, ofO_some]
  by_cases h : 0 ≤ x <;> simp [h]
theorem kx3_ok {C : Calls} {a c : PV} {p : Nat} {s : Int} {k : List Int} (hk : k.length = p) (hp : p ≤ 1000) (h1 : 1 ≤ p) :
    evalE C kx3 [a, keyV k, .int p, c, .int s, .undef, .undef] = .ok (.lst ((List.range (p - 1)).map fun i => PV.bl (decide (dif k i ≤ s))), [a, keyV k, .int p, c, .int s, .undef, .undef]) := by
  refine comp_map (l := List.range (p - 1)) (i := fun i : Nat => PV.int i) ?_ (sl_le (by simp; omega)) fun i hi => ?_
  · have g2 : Ev.get [a, keyV k, .int p, c, .int s, .undef, .undef] 2 = .ok (.int p, [a, keyV k, .int p, c, .int s, .undef, .undef]) := rfl
    have r := ranges1 (j := (p : Int) - 1) (by omega) (by omega)
    rw [show ((p : Int) - 1).toNat = p - 1 by omega, rng0] at r
    exact eI_rng1 (by simp only [eE_bin, eE_v, eE_c, g2, Res.bind_ok', bin_subi, ofO_some]) r
  · have hi : i < p - 1 := by simpa using hi
    have a1 := at_int (k := k) (i := i) (by omega)
    have a2 := at_int (k := k) (i := i + 1) (by omega)
    rw [show ((i + 1 : Nat) : Int) = (i : Int) + 1 by omega] at a2
    refine ⟨[a, keyV k, .int p, c, .int s, .undef, .int (i : Int)], [a, keyV k, .int p, c, .int s, .undef, .int (i : Int)], rfl, ?_, rfl⟩
    have g1 : Ev.get [a, keyV k, .int p, c, .int s, .undef, .int (i : Int)] 1 = .ok (.tup (k.map .int), [a, keyV k, .int p, c, .int s, .undef, .int (i : Int)]) := rfl
    have g6 : Ev.get [a, keyV k, .int p, c, .int s, .undef, .int (i : Int)] 6 = .ok (.int (i : Int), [a, keyV k, .int p, c, .int s, .undef, .int (i : Int)]) := rfl
    have g4 : Ev.get [a, keyV k, .int p, c, .int s, .undef, .int (i : Int)] 4 = .ok (.int s, [a, keyV k, .int p, c, .int s, .undef, .int (i : Int)]) := rfl
    simp only [eE_cmp, eE_blt, eA_cons, eA_nil, eE_bin, eE_idx, eE_v, eE_c, g1, g6, g4, Res.bind_ok', a1, a2, ofO_some, bin_addi, bin_subi, blt_abs_int, cmp_lei]
    rfl
theorem keyReason_body {C : Calls} {p : Nat} {d s : Int} {key : PV} {X1 X2 X3 : E} (hv : key.vl = true)
    (h1 : ∀ l, key = .tup l → evalE C X1 [sysV p d s, key, .int p, .int d, .int s, .undef, .undef] = .ok (.lst (l.map fun x => .bl (isI x)), [sysV p d s, key, .int p, .int d, .int s, .undef, .undef]))
    (h2 : ∀ k : List Int, key = keyV k → k.length = p → evalE C X2 [sysV p d s, key, .int p, .int d, .int s, .undef, .undef] = .ok (.lst (k.map fun c => PV.bl (decide (0 ≤ c) && decide (c < d))), [sysV p d s, key, .int p, .int d, .int s, .undef, .undef]))
    (h3 : ∀ k : List Int, key = keyV k → k.length = p → evalE C X3 [sysV p d s, key, .int p, .int d, .int s, .undef, .undef] = .ok (.lst ((List.range (p - 1)).map fun i => PV.bl (decide (dif k i ≤ s))), [sysV p d s, key, .int p, .int d, .int s, .undef, .undef])) :
    evalSs C W (keyReasonX X1 X2 X3) [sysV p d s, key, .undef, .undef, .undef, .undef, .undef] = .rt (reasonV (kc p d s key)) [sysV p d s, key, .int p, .int d, .int s, .undef, .undef] := by
  have g0 : Ev.get [sysV p d s, key, .undef, .undef, .undef, .undef, .undef] 0 = .ok (sysV p d s, [sysV p d s, key, .undef, .undef, .undef, .undef, .undef]) := rfl
  have g1 : Ev.get [sysV p d s, key, .int p, .int d, .int s, .undef, .undef] 1 = .ok (key, [sysV p d s, key, .int p, .int d, .int s, .undef, .undef]) := get_at rfl (vl_nu hv)
  have g2 : Ev.get [sysV p d s, key, .int p, .int d, .int s, .undef, .undef] 2 = .ok (.int p, [sysV p d s, key, .int p, .int d, .int s, .undef, .undef]) := rfl
  have as : assign (.cons (.n 2) (.cons (.n 3) (.cons (.n 4) .nil))) (sysV p d s) [sysV p d s, key, .undef, .undef, .undef, .undef, .undef] = some [sysV p d s, key, .int p, .int d, .int s, .undef, .undef] := rfl
  unfold keyReasonX
  by_cases ht : isT key = true
  · obtain ⟨l, rfl⟩ : ∃ l, key = .tup l := by cases key <;> first | exact ⟨_, rfl⟩ | cases ht
    have e1 := h1 l rfl
    have a1 := blt_all_f l isI
    by_cases hl : l.length = p
    · by_cases ha : l.all isI = true
      · obtain ⟨k, rfl⟩ := ints_of ha
        have hk : k.length = p := by simpa using hl
        have e2 := h2 k rfl hk
        have e3 := h3 k rfl hk
        have a2 : evalB .all [.lst (k.map fun c => PV.bl (decide (0 ≤ c) && decide (c < d)))] = some (.bl (inR d k)) := blt_all_f _ _
        have a3 : evalB .all [.lst ((List.range (p - 1)).map fun i => PV.bl (decide (dif k i ≤ s)))] = some (.bl (stp s p k)) := blt_all_f _ _
        have ek : kc p d s (.tup (k.map .int)) = if inR d k = true then (if stp s p k = true then 0 else 3) else 2 := by
          unfold kc
          simp only [List.length_map, hk, all_ints, toI_map, and_self, if_true]
        rw [ek]
        rw [ha] at a1
        have ln : evalB .len [.tup (k.map .int)] = some (.int p) := by rw [blt_len_tup, List.length_map, hk]
        generalize PV.tup (k.map .int) = T at *
        generalize sysV p d s = SY at *
        generalize (PV.lst (k.map fun c => PV.bl (decide (0 ≤ c) && decide (c < d)))) = L2 at *
        generalize (PV.lst ((List.range (p - 1)).map fun i => PV.bl (decide (dif k i ≤ s)))) = L3 at *
        simp only [eSs_cons, eS_asg, eE_v, g0, Res.bind_ok', as, ofO_some, Res.out_ok, Out.seq_nx, eS_ite, eE_or, eE_not, eE_isi, g1, isi_t hv, ht, truth_bl, Bool.not_true, Bool.false_eq_true, if_false, eE_cmp, eE_blt, eA_cons, eA_nil, ln, g2, cmp_nei, decide_true, e1, a1, eSs_nil, e2, a2]
        cases inR d k with
        | false => rfl
        | true =>
          simp only [Bool.not_true, Bool.false_eq_true, if_false, eSs_nil, Out.seq_nx, e3, Res.bind_ok', eA_nil, a3, ofO_some, truth_bl, Res.out_ok]
          cases stp s p k with
          | false => rfl
          | true => rfl
      · have ha' : l.all isI = false := by simpa using ha
        have ek : kc p d s (.tup l) = 1 := if_neg fun z : l.length = p ∧ l.all isI = true => ha z.2
        rw [ek]
        rw [ha'] at a1
        have ln : evalB .len [.tup l] = some (.int p) := by rw [blt_len_tup, hl]
        generalize PV.tup l = T at *
        generalize sysV p d s = SY at *
        simp only [eSs_cons, eS_asg, eE_v, g0, Res.bind_ok', as, ofO_some, Res.out_ok, Out.seq_nx, eS_ite, eE_or, eE_not, eE_isi, g1, isi_t hv, ht, truth_bl, Bool.not_true, Bool.false_eq_true, if_false, eE_cmp, eE_blt, eA_cons, eA_nil, ln, g2, cmp_nei, decide_true, e1, a1]
        rfl
    · have ek : kc p d s (.tup l) = 1 := if_neg fun z : l.length = p ∧ l.all isI = true => hl z.1
      rw [ek]
      have hl' : ¬ ((l.length : Int) = (p : Int)) := by omega
      simp only [eSs_cons, eS_asg, eE_v, g0, Res.bind_ok', as, ofO_some, Res.out_ok, Out.seq_nx, eS_ite, eE_or, eE_not, eE_isi, g1, isi_t hv, ht, truth_bl, Bool.not_true, Bool.false_eq_true, if_false, eE_cmp, eE_blt, eA_cons, eA_nil, blt_len_tup, g2, cmp_nei, hl', decide_false, Bool.not_false, if_true]
      rfl
  · have ht' : isT key = false := by simpa using ht
    have ek : kc p d s key = 1 := by cases key <;> first | rfl | exact absurd rfl ht
    rw [ek]
    simp only [eSs_cons, eS_asg, eE_v, g0, Res.bind_ok', as, ofO_some, Res.out_ok, Out.seq_nx, eS_ite, eE_or, eE_not, eE_isi, g1, isi_t hv, ht', truth_bl, Bool.not_false, if_true]
    rfl
theorem g_key_reason {kr k0 : Nat} (h0 : P[k0]? = some isIntD) (hk : P[kr]? = some (keyReasonD k0)) {p : Nat} {d s : Int} {key : PV} (hv : key.vl = true) (hl : tlen key ≤ 1000) (hp : p ≤ 1000) (h1 : 1 ≤ p) :
    callN W P (n + 2) kr [sysV p d s, key] = .ok (reasonV (kc p d s key)) .undef := by
  rw [callN_succ hk rfl]
  have e := keyReason_body (W := W) (C := callN W P (n + 1)) (p := p) (d := d) (s := s) (key := key) (X1 := kx1 k0) (X2 := kx2) (X3 := kx3) hv
    (fun l e => by
      subst e
      have hv' : PV.vls l = true := by simpa [PV.vl] using hv
      exact kx1_ok (fun x hx => g_is_integer h0 (vls_mem.mp hv' x hx)) hv' hl)
    (fun k e hk => by subst e; exact kx2_ok (by omega)) (fun k e hk => by subst e; exact kx3_ok hk hp h1)
  exact (congrArg (Ev.finish (keyReasonD k0)) e).trans (fin_no rfl)
def chkKeyB (k1 k2 c : Nat) : Ss := (.cons (.ex (.call k1 (.cons (.v 0) .nil))) (.cons (.asg (.n 2) (.call k2 (.cons (.v 0) (.cons (.v 1) .nil)))) (.cons (.ite (.cmp .IsNot (.v 2) (.c .non)) (.cons (.raise c (.v 2)) .nil) .nil) .nil)))
def chkKeyD (k1 k2 c : Nat) : Def := { np := 2, n := 3, br := false, fresh := false, ms := [], body := chkKeyB k1 k2 c }
theorem isnot_reason {m : Nat} (h : m ≤ 3) : cmpop .IsNot (reasonV m) .non = some (decide (m ≠ 0)) := by
  match m, h with
  | 0, _ => rfl
  | 1, _ => rfl
  | 2, _ => rfl
  | 3, _ => rfl
theorem reason_nu {m : Nat} : reasonV m ≠ .undef := by
  unfold reasonV
  split <;> exact nofun
theorem reason_x {m : Nat} (h : m ≠ 0) : xarg (reasonV m) = true := by
  unfold reasonV
  split <;> first | exact absurd rfl h | decide
theorem chkKey_ok {C : Calls} {k1 k2 c : Nat} {m : Nat} {sy key : PV} (hs : sy.vl = true) (hk : key.vl = true) (c1 : C k1 [sy] = .ok .non .undef) (c2 : C k2 [sy, key] = .ok (reasonV m) .undef) (hm : m ≤ 3) :
    Ev.finish (chkKeyD k1 k2 c) (evalSs C W (chkKeyB k1 k2 c) [sy, key, .undef]) = if m = 0 then .ok .non .undef else .raise c (reasonV m) .undef := by
  have g0 : ∀ z, Ev.get [sy, key, z] 0 = .ok (sy, [sy, key, z]) := fun _ => get_at rfl (vl_nu hs)
  have g1 : ∀ z, Ev.get [sy, key, z] 1 = .ok (key, [sy, key, z]) := fun _ => get_at rfl (vl_nu hk)
  have g2 : Ev.get [sy, key, reasonV m] 2 = .ok (reasonV m, [sy, key, reasonV m]) := get_at rfl reason_nu
  have i := isnot_reason hm
  have x : m ≠ 0 → xarg (reasonV m) = true := reason_x
  generalize reasonV m = rv at *
  unfold chkKeyB
  simp only [eSs_cons, eS_ex, eE_call, eA_cons, eA_nil, eE_v, g0, g1, Res.bind_ok', c1, c2, runCall_ok, Res.out_ok, Out.seq_nx, eS_asg, asg_n, ofO_some, List.set_cons_succ, List.set_cons_zero, eS_ite, eE_cmp, eE_c, g2, i, truth_bl]
  by_cases h : m = 0
  · rw [if_pos h]
    simp only [h, ne_eq, not_true_eq_false, decide_false, Bool.false_eq_true, if_false, eSs_nil, Out.seq_nx]
    exact fin_nx rfl
  · rw [if_neg h]
    have x := x h
    simp only [h, ne_eq, not_false_eq_true, decide_true, if_true, eSs_cons, eS_raise, eE_v, g2, Res.out_ok, x, Out.seq_raise']
    exact fin_raise rfl
theorem g_check_key {k k0 k1 k2 cs ck : Nat} (h0 : P[k0]? = some isIntD) (hk1 : P[k1]? = some (chkSysD k0 cs)) (hk2 : P[k2]? = some (keyReasonD k0)) (hk : P[k]? = some (chkKeyD k1 k2 ck)) {p : Nat} {d s : Int} {key : PV} (h : sysOk p d s) (hv : key.vl = true) (hl : tlen key ≤ 1000) :
    callN W P (n + 3) k [sysV p d s, key] = if kc p d s key = 0 then .ok .non .undef else .raise ck (reasonV (kc p d s key)) .undef := by
  rw [callN_succ hk rfl]
  have c1 := g_check_system (W := W) (n := n) h0 hk1 (p := sysV p d s) rfl (by show 3 ≤ 1000; omega)
  rw [sysR_ok h] at c1
  exact chkKey_ok rfl hv c1 (g_key_reason h0 hk2 hv hl (by have := h.2.1; omega) h.1) (kc_le _ _ _ _)
theorem g_check_keyS {k k0 k1 k2 cs ck : Nat} (h0 : P[k0]? = some isIntD) (hk1 : P[k1]? = some (chkSysD k0 cs)) (hk : P[k]? = some (chkKeyD k1 k2 ck)) {sy key : PV} (hs : sy.vl = true) (hls : tlen sy ≤ 1000) (h : sysR sy = false) :
    callN W P (n + 3) k [sy, key] = .raise cs (.str "system") .undef := by
  rw [callN_succ hk rfl]
  have c1 := g_check_system (W := W) (n := n) h0 hk1 hs hls
  rw [h] at c1
  have g0 : Ev.get [sy, key, .undef] 0 = .ok (sy, [sy, key, .undef]) := get_at rfl (vl_nu hs)
  show Ev.finish (chkKeyD k1 k2 ck) (evalSs (callN W P (n + 2)) W (chkKeyB k1 k2 ck) [sy, key, .undef]) = _
  unfold chkKeyB
  simp only [eSs_cons, eS_ex, eE_call, eA_cons, eA_nil, eE_v, g0, Res.bind_ok', c1, Bool.false_eq_true, if_false, runCall_raise, Res.out_raise', Out.seq_raise']
  exact fin_raise rfl
end Ev

/-! EvM7: numbers and texts as small data, _law_same, max of two, enumerate, ranges downwards. -/
namespace Ev
open PySem
variable {W n : Nat} {P : List Def}
theorem Sm.num {i : Int} (h0 : -99999999999 ≤ i) (h1 : i ≤ 99999999999) : Sm (.int i) 0 40 := by
  refine ⟨rfl, rfl, Nat.le_refl _, ?_, ?_, ?_⟩
  · show (if i == 0 then 0 else i.natAbs.log2 + 1) ≤ 40
    split
    · omega
    · have hb : i.natAbs ≠ 0 := by
        rename_i h
        simp at h
        omega
      have : i.natAbs.log2 < 39 := (Nat.log2_lt hb).mpr (by
        have e : (2 : Nat) ^ 39 = 549755813888 := by decide
        rw [e]; omega)
      omega
  · show PyData.showable (.int i) = true
    simp only [PyData.showable]
    rw [decide_eq_true_eq]
    rcases Nat.eq_zero_or_pos i.natAbs with z | z
    · rw [z]; decide
    · have : i.natAbs.log2 < 39 := (Nat.log2_lt (by omega)).mpr (by
        have e : (2 : Nat) ^ 39 = 549755813888 := by decide
        rw [e]; omega)
      omega
  · show decide ((PyData.shown (.int i)).length ≤ 13) = true
    rw [decide_eq_true_eq]
    exact PyData.shown_int_le2 (by omega) (by omega)
theorem Sm.bl {b : Bool} : Sm (.bl b) 0 1 := by
  cases b <;> exact ⟨rfl, rfl, by decide, by decide, rfl, rfl⟩
theorem Sm.nil_tup : Sm (.tup []) 1 1 := Sm.tup (l := []) (dp := 0) (w := 0) fun _ h => by cases h
theorem g_same {k : Nat} {d : Def} (hk : P[k]? = some d) (hd : d = { np := 2, n := 2, br := false, fresh := false, ms := [], body := (.cons (.ret (.and (.cmp .Eq (.v 0) (.v 1)) (.cmp .Eq (.blt .repr (.cons (.v 0) .nil)) (.blt .repr (.cons (.v 1) .nil))))) .nil) })
    {r : PV} {dp w : Nat} (h : Sm r dp w) (hs : ∀ x, r ≠ .str x) (hdp : dp ≤ 60) (hw : w ≤ 1048576) (hn : r ≠ .undef) : callN W P (n + 1) k [r, r] = .ok (.bl true) .undef := by
  subst hd
  rw [callN_succ hk rfl]
  have g0 : Ev.get [r, r] 0 = .ok (r, [r, r]) := get_at rfl hn
  have g1 : Ev.get [r, r] 1 = .ok (r, [r, r]) := get_at rfl hn
  have c := cmp_eq_self h hs (by omega)
  have rp := repr_ok h hdp hw
  refine (congrArg (Ev.finish _) ?_).trans (fin_no (v := .bl true) (env := [r, r]) rfl)
  show evalSs (callN W P n) W (.cons (.ret (.and (.cmp .Eq (.v 0) (.v 1)) (.cmp .Eq (.blt .repr (.cons (.v 0) .nil)) (.blt .repr (.cons (.v 1) .nil))))) .nil) [r, r] = _
  simp only [eSs_cons, eS_ret, eE_and, eE_cmp, eE_v, g0, g1, Res.bind_ok', c, ofO_some, truth_bl, if_true, eE_blt, eA_cons, eA_nil, rp, cmp_eq_str, decide_true, Res.out_ok, Out.seq_rt]
@[simp] theorem eI_enum {C : Calls} {a : E} {env : Ev.Env} : evalI C (.enum a) env = (evalE C a env).bind fun r => (ofO (enumOf r.1)).bind fun l => .ok (l, r.2) := rfl
@[simp] theorem aug_addi {i j : Int} : augop .Add (.int i) (.int j) = some (.int (i + j)) := rfl
@[simp] theorem aug_subi {i j : Int} : augop .Sub (.int i) (.int j) = some (.int (i - j)) := rfl
theorem aug_tup {l r : List PV} (h : l.length + r.length ≤ 1000) : augop .Add (.tup l) (.tup r) = some (.tup (l ++ r)) := by
  show (if l.length + r.length ≤ sizeLine then some (PV.tup (l ++ r)) else none) = _
  rw [if_pos (sl_le (by omega))]
theorem ord_ints (l : List Int) : ordOk (l.map .int) = true := by
  unfold ordOk
  rw [List.all_eq_true]
  intro p hp
  rw [List.all_eq_true]
  intro q hq
  obtain ⟨a, _, rfl⟩ := List.mem_map.mp hp
  obtain ⟨b, _, rfl⟩ := List.mem_map.mp hq
  unfold ltOk
  simp [PV.data, PV.pd, PySem.W.alike, PyData.depth]
theorem pmax2 (x y : Int) : evalB .max [.lst [.int x, .int y]] = some (.int (max x y)) := by
  show (if ordOk [PV.int x, .int y] = true then some (best (fun a b => PySem.W.dataLt b.pd a.pd) (.int x) [.int y]) else none) = _
  have o : ordOk [PV.int x, .int y] = true := ord_ints [x, y]
  rw [if_pos o]
  unfold best
  have e : PySem.W.dataLt (PV.int x).pd (PV.int y).pd = decide (x < y) := by
    exact PySem.W.dataLt_int _ _
  rw [e]
  by_cases h : x < y
  · rw [if_pos (by simpa using h), Int.max_eq_right (by omega)]; rfl
  · rw [if_neg (by simpa using h), Int.max_eq_left (by omega)]; rfl
theorem pmin2 (x y : Int) : evalB .min [.lst [.int x, .int y]] = some (.int (min x y)) := by
  show (if ordOk [PV.int x, .int y] = true then some (best (fun a b => PySem.W.dataLt a.pd b.pd) (.int x) [.int y]) else none) = _
  have o : ordOk [PV.int x, .int y] = true := ord_ints [x, y]
  rw [if_pos o]
  unfold best
  have e : PySem.W.dataLt (PV.int y).pd (PV.int x).pd = decide (y < x) := by
    exact PySem.W.dataLt_int _ _
  rw [e]
  by_cases h : y < x
  · rw [if_pos (by simpa using h), Int.min_eq_right (by omega)]; rfl
  · rw [if_neg (by simpa using h), Int.min_eq_left (by omega)]; rfl
theorem ranges3 {i j : Int} (h : -1000000 ≤ i) (h1 : i ≤ 1000000) (h2 : -1000000 ≤ j) (h3 : j ≤ 1000000) : ranges [.int i, .int j, .int (-1)] = some (rngC i (-1) (i - j).toNat) := by
  show (if (small62 i && small62 j && decide ((-1 : Int) = -1)) = true then some (rngC i (-1) (i - j).toNat) else none) = _
  rw [if_pos (by rw [sm62 h h1, sm62 h2 h3]; rfl)]
theorem eI_rng3 {C : Calls} {a b c : E} {env env1 env2 env3 : Ev.Env} {i j k : Int} {l : List PV} (ha : evalE C a env = .ok (.int i, env1)) (hb : evalE C b env1 = .ok (.int j, env2)) (hc : evalE C c env2 = .ok (.int k, env3)) (hr : ranges [.int i, .int j, .int k] = some l) : evalI C (.rng (.cons a (.cons b (.cons c .nil)))) env = .ok (l, env3) := by
  rw [eI_rng, eA_cons, ha]
  show ((evalEs C (.cons b (.cons c .nil)) env1).bind _).bind _ = _
  rw [eA_cons, hb]
  show (((evalEs C (.cons c .nil) env2).bind _).bind _).bind _ = _
  rw [eA_cons, hc]
  show (ofO (ranges [.int i, .int j, .int k])).bind _ = _
  rw [hr]
  rfl
end Ev

/-! EvM8: slots by simp; loops with a state; _law_asked, _law_word. -/
namespace Ev
open PySem
variable {W n : Nat} {P : List Def} {C : Calls}
theorem get_succ {x : PV} {env : Env} {i : Nat} : Ev.get (x :: env) (i + 1) = (Ev.get env i).bind fun r => .ok (r.1, x :: env) := by
  unfold Ev.get
  show (match env.getD i .undef with
    | .undef => Res.fail
    | y => .ok (y, x :: env)) = _
  cases env.getD i .undef <;> rfl
theorem get_z {x : PV} {env : Env} (h : x ≠ .undef) : Ev.get (x :: env) 0 = .ok (x, x :: env) := get_at rfl h
theorem get_zi {i : Int} {env : Env} : Ev.get (.int i :: env) 0 = .ok (.int i, .int i :: env) := rfl
theorem get_zl {l : List PV} {env : Env} : Ev.get (.lst l :: env) 0 = .ok (.lst l, .lst l :: env) := rfl
theorem get_zt {l : List PV} {env : Env} : Ev.get (.tup l :: env) 0 = .ok (.tup l, .tup l :: env) := rfl
theorem get_zb {b : Bool} {env : Env} : Ev.get (.bl b :: env) 0 = .ok (.bl b, .bl b :: env) := rfl
theorem get_zn {env : Env} : Ev.get (.non :: env) 0 = .ok (.non, .non :: env) := rfl
theorem getL_succ {x : PV} {env : Env} {i : Nat} : getL (x :: env) (i + 1) = (getL env i).bind fun r => .ok (r.1, x :: env) := by
  unfold getL
  show (match env.getD i .undef with
    | .lst l => Res.ok (l, x :: env)
    | _ => .fail) = _
  cases env.getD i .undef <;> rfl
theorem getL_z {l : List PV} {env : Env} : getL (.lst l :: env) 0 = .ok (l, .lst l :: env) := rfl
theorem st_nu {sc : List Int} {a b : Int} {i : Nat} : stV sc a i b ≠ .undef := fun e => by unfold stV at e; cases e
theorem key_nu {k : List Int} : keyV k ≠ .undef := fun e => by unfold keyV at e; cases e
theorem sys_nu {p : Nat} {d s : Int} : sysV p d s ≠ .undef := fun e => by unfold sysV at e; cases e
@[simp] theorem eE_fn {k : Nat} {env : Env} : evalE C (.fn k) env = .ok (.fn k, env) := rfl
theorem eE_callv {i k : Nat} {ks : List Nat} {es : Es} {env : Env} (h : env.getD i .undef = .fn k) (hk : k ∈ ks) : evalE C (.callv i ks es) env = (evalEs C es env).bind fun r => runCall (C k r.1) r.2 := by
  show (match env.getD i .undef with
    | .fn k => if k ∈ ks then (evalEs C es env).bind fun r => runCall (C k r.1) r.2 else .fail
    | _ => .fail) = _
  rw [h]
  exact if_pos hk
theorem eE_mth {m : Mth} {o e : E} {env env1 env2 : Env} {l : List PV} {v w : PV} (h1 : evalE C o env = .ok (.lst l, env1)) (h2 : evalE C e env1 = .ok (v, env2)) (h3 : evalM m l v = some w) : evalE C (.mth m o e) env = .ok (w, env2) := by
  show ((evalE C o env).bind fun q => match q.1 with
    | .lst l => (evalE C e q.2).bind fun r => (ofO (evalM m l r.1)).bind fun x => .ok (x, r.2)
    | _ => .fail) = _
  rw [h1]
  show ((evalE C e env1).bind fun r => (ofO (evalM m l r.1)).bind fun x => .ok (x, r.2)) = _
  rw [h2]
  show ((ofO (evalM m l v)).bind fun x => .ok (x, env2)) = _
  rw [h3]
  rfl
/-! ### loops -/
/-- a comprehension whose parts change the state; each item gives one -/
theorem compGo_all {f : PV → Env → Res (Option PV × Env)} {I : Env → Prop} {Q : Nat → PV → Prop} : ∀ {l : List PV} {env : Env} (_ : I env) (_ : ∀ j x en, l[j]? = some x → I en → ∃ y en', f x en = .ok (some y, en') ∧ I en' ∧ Q j y),
    ∃ out en', compGo f l env = .ok (out, en') ∧ I en' ∧ out.length = l.length ∧ ∀ j y, out[j]? = some y → Q j y
  | [], env, h0, h => ⟨[], env, rfl, h0, rfl, fun j y e => by simp at e⟩
  | x :: l, env, h0, h => by
    obtain ⟨y, en1, e1, i1, q1⟩ := h 0 x env rfl h0
    obtain ⟨out, en', e2, i2, hl, q2⟩ := compGo_all (Q := fun j => Q (j + 1)) i1 fun j z en hz hI => h (j + 1) z en hz hI
    refine ⟨y :: out, en', ?_, i2, by simp [hl], fun j z e => ?_⟩
    · unfold compGo
      rw [e1]
      show (compGo f l en1).bind _ = _
      rw [e2]
      rfl
    · cases j with
      | zero => cases e; exact q1
      | succ j => exact q2 j z e
/-- the same; each item gives itself or nothing -/
theorem compGo_sub {f : PV → Env → Res (Option PV × Env)} {I : Env → Prop} : ∀ {l : List PV} {env : Env} (_ : I env) (_ : ∀ x en, x ∈ l → I en → ∃ en', (f x en = .ok (some x, en') ∨ f x en = .ok (none, en')) ∧ I en'),
    ∃ out en', compGo f l env = .ok (out, en') ∧ I en' ∧ out.Sublist l
  | [], env, h0, h => ⟨[], env, rfl, h0, .slnil⟩
  | x :: l, env, h0, h => by
    obtain ⟨en1, e1, i1⟩ := h x env (by simp) h0
    obtain ⟨out, en', e2, i2, hl⟩ := compGo_sub (l := l) i1 fun z en hz hI => h z en (by simp [hz]) hI
    rcases e1 with e1 | e1
    · refine ⟨x :: out, en', ?_, i2, hl.cons₂ x⟩
      unfold compGo
      rw [e1]
      show (compGo f l en1).bind _ = _
      rw [e2]
      rfl
    · refine ⟨out, en', ?_, i2, hl.cons x⟩
      unfold compGo
      rw [e1]
      show (compGo f l en1).bind _ = _
      rw [e2]
      rfl
/-- a comprehension, by what its walk gives -/
theorem comp_go {own : List Nat} {tg : T} {it : It} {c : OE} {e : E} {env env1 en' : Env} {l out : List PV} (hi : evalI C it env = .ok (l, env1)) (hl : out.length ≤ sizeLine)
    (h : compGo (fun x en => ((ofO (assign tg x en)).bind fun en1 => (evalC C c en1).bind fun t => if t.1 = true then (evalE C e t.2).bind fun q => .ok (some q.1, wipe own q.2) else .ok (none, wipe own t.2)).nr) l (wipe own env1) = .ok (out, en')) :
    evalE C (.comp own tg it c e) env = .ok (.lst out, restore own env1 en') := by
  rw [eE_comp, hi]
  show (compGo _ l (wipe own env1)).bind _ = _
  rw [h]
  exact if_pos hl
/-- a turn of a comprehension without a test -/
theorem comp_turn_no {own : List Nat} {tg : T} {e : E} {x y : PV} {en en1 en2 : Env} (ha : assign tg x en = some en1) (he : evalE C e en1 = .ok (y, en2)) :
    ((ofO (assign tg x en)).bind fun en1 => (evalC C .no en1).bind fun t => if t.1 = true then (evalE C e t.2).bind fun q => .ok (some q.1, wipe own q.2) else .ok (none, wipe own t.2)).nr = .ok (some y, wipe own en2) := by
  rw [ha]
  show ((evalE C e en1).bind _).nr = _
  rw [he]
  rfl
theorem comp_turn_so {own : List Nat} {tg : T} {c e : E} {x y v : PV} {b : Bool} {en en1 en2 en3 : Env} (ha : assign tg x en = some en1) (hc : evalE C c en1 = .ok (v, en2)) (hb : truth v = some b) (he : b = true → evalE C e en2 = .ok (y, en3)) :
    ((ofO (assign tg x en)).bind fun en1 => (evalC C (.so c) en1).bind fun t => if t.1 = true then (evalE C e t.2).bind fun q => .ok (some q.1, wipe own q.2) else .ok (none, wipe own t.2)).nr = if b = true then .ok (some y, wipe own en3) else .ok (none, wipe own en2) := by
  rw [ha]
  show ((evalC C (.so c) en1).bind _).nr = _
  rw [eC_so, hc]
  show (((ofO (truth v)).bind fun t => Res.ok (t, en2)).bind _).nr = _
  rw [hb]
  cases b with
  | true =>
    show ((evalE C e en2).bind _).nr = _
    rw [he rfl]
    rfl
  | false => rfl
/-- for with an early return: the first item with a word of g -/
theorem forGo_first {f : PV → Env → Out} {I : Env → Prop} {g : PV → Option PV} : ∀ {l : List PV} {env : Env} (_ : I env) (_ : ∀ x en, x ∈ l → I en → match g x with
      | none => ∃ en', f x en = .nx en' ∧ I en'
      | some v => ∃ en', f x en = .rt v en'), match l.findSome? g with
    | none => ∃ en', forGo f l env = .nx en' ∧ I en'
    | some v => ∃ en', forGo f l env = .rt v en'
  | [], env, h0, h => ⟨env, rfl, h0⟩
  | x :: l, env, h0, h => by
    have hx := h x env (by simp) h0
    rw [List.findSome?_cons]
    cases e : g x with
    | some v =>
      rw [e] at hx
      obtain ⟨en', e1⟩ := hx
      refine ⟨en', ?_⟩
      unfold forGo
      rw [e1]
    | none =>
      rw [e] at hx
      obtain ⟨en1, e1, i1⟩ := hx
      have ih := forGo_first (g := g) (l := l) i1 fun z en hz hI => h z en (by simp [hz]) hI
      have ef : forGo f (x :: l) env = forGo f l en1 := by
        show (match f x env with
          | .nx e => forGo f l e
          | .ct e => forGo f l e
          | .bk e => .nx e
          | o => o) = _
        rw [e1]
      rw [ef]
      exact ih
theorem for_first {t : T} {it : It} {b : Ss} {env env1 : Env} {l : List PV} (hi : evalI C it env = .ok (l, env1)) (I : Env → Prop) (g : PV → Option PV) (h0 : I env1)
    (h : ∀ x en, x ∈ l → I en → ∃ en1, assign t x en = some en1 ∧ match g x with
      | none => ∃ en', evalSs C W b en1 = .nx en' ∧ I en'
      | some v => ∃ en', evalSs C W b en1 = .rt v en') : match l.findSome? g with
    | none => ∃ en', evalS C W (.for t it b) env = .nx en' ∧ I en'
    | some v => ∃ en', evalS C W (.for t it b) env = .rt v en' := by
  rw [eS_for, hi]
  show match l.findSome? g with
    | none => ∃ en', forGo _ l env1 = .nx en' ∧ I en'
    | some v => ∃ en', forGo _ l env1 = .rt v en'
  refine forGo_first h0 fun x en hx hI => ?_
  obtain ⟨en1, e1, h1⟩ := h x en hx hI
  simp only [e1, ofO_some, Res.out_ok]
  exact h1
/-- while: I by a measure -/
theorem while_inv {c : Env → Res (PV × Env)} {f : Env → Out} {I : Nat → Env → Prop} {J : Env → Prop} (h : ∀ k en, I k en → ∃ v b en1, c en = .ok (v, en1) ∧ truth v = some b ∧ if b = true then ∃ en2 k', f en1 = .nx en2 ∧ k' < k ∧ I k' en2 else J en1) :
    ∀ (m k : Nat) (en : Env), k < m → I k en → ∃ en', whileGo c f m en = .nx en' ∧ J en'
  | 0, k, en, hk, _ => by omega
  | m + 1, k, en, hk, hI => by
    obtain ⟨v, b, en1, e1, e2, h3⟩ := h k en hI
    unfold whileGo
    rw [e1]
    show ∃ en', ((ofO (truth v)).out fun t => if t = true then _ else Out.nx en1) = _ ∧ _
    rw [e2]
    cases b with
    | false => exact ⟨en1, rfl, h3⟩
    | true =>
      rw [if_pos rfl] at h3
      obtain ⟨en2, k', e4, hk', i'⟩ := h3
      simp only [ofO_some, Res.out_ok, if_true, e4]
      exact while_inv h m k' en2 (by omega) i'
/-- for over an own list that the body leaves as it is -/
theorem formGo_for {f : PV → Env → Out} {i : Nat} {l : List PV} (hl : ∀ x ∈ l, x.lf = true) (I : Nat → Env → Prop) (hI : ∀ j en, I j en → en.getD i .undef = .lst l)
    (h : ∀ j x en, l[j]? = some x → I j en → ∃ en', (f x en = .nx en' ∨ f x en = .ct en') ∧ I (j + 1) en') :
    ∀ (m j : Nat) (en : Env), l.length - j < m → j ≤ l.length → I j en → ∃ en', formGo f i m j en = .nx en' ∧ I l.length en'
  | 0, j, en, hm, _, _ => by omega
  | m + 1, j, en, hm, hj, i0 => by
    unfold formGo
    rw [hI j en i0]
    show ∃ en', (match l[j]? with
      | none => Out.nx en
      | some x => if x.lf = true then match f x en with
        | .nx e => formGo f i m (j + 1) e
        | .ct e => formGo f i m (j + 1) e
        | .bk e => .nx e
        | o => o else .fail) = _ ∧ _
    cases e : l[j]? with
    | none =>
      have : j = l.length := by
        have := List.getElem?_eq_none_iff.mp e
        omega
      subst this
      exact ⟨en, rfl, i0⟩
    | some x =>
      have hx := List.mem_of_getElem? e
      have hlt : j < l.length := (List.getElem?_eq_some_iff.mp e).1
      obtain ⟨en', e1, i1⟩ := h j x en e i0
      have ih := formGo_for hl I hI h m (j + 1) en' (by omega) (by omega) i1
      simp only [hl x hx, if_true]
      rcases e1 with e1 | e1 <;> rw [e1] <;> exact ih
theorem eS_form {t : T} {i : Nat} {b : Ss} {env : Env} : evalS C W (.form t i b) env = formGo (fun x en => (ofO (assign t x en)).out fun en1 => evalSs C W b en1) i W 0 env := rfl
theorem eS_tryf {b : Ss} {c d : Nat} {cs : List Nat} {p : PV} {env : Env} : evalS C W (.tryf b c cs d p) env = match evalSs C W b env with
    | .raise q a en => if q ∈ cs then (if c = 0 ∨ c = q then (match (if xarg p = true then Out.raise d p en else .fail) with
      | .raise d2 a2 e2 => .raise d2 a2 e2
      | _ => .fail) else .raise q a en) else .fail
    | o => o := rfl
/-! ### _law_asked, _law_word -/
def rowX : Nat → Nat → Es
  | _, 0 => .nil
  | j, n + 1 => .cons (.idx (.v 1) (.c (.int (j : Nat)))) (rowX (j + 1) n)
def askB (wk : Nat) (ks : List Nat) : Ss :=
  (.cons (.try (.cons (.ite (.cmp .Lt (.blt .len (.cons (.v 1) .nil)) (.c (.int 4))) (.cons (.ite (.cmp .Eq (.blt .len (.cons (.v 1) .nil)) (.c (.int 1))) (.cons (.ret (.lst (.cons (.chk (.callv 0 ks (rowX 0 1))) .nil))) .nil) .nil) (.cons (.ret (.ife (.cmp .Eq (.blt .len (.cons (.v 1) .nil)) (.c (.int 2))) (.lst (.cons (.chk (.callv 0 ks (rowX 0 2))) .nil)) (.lst (.cons (.chk (.callv 0 ks (rowX 0 3))) .nil)))) .nil)) .nil)
    (.cons (.ite (.cmp .Eq (.blt .len (.cons (.v 1) .nil)) (.c (.int 4))) (.cons (.ret (.lst (.cons (.chk (.callv 0 ks (rowX 0 4))) .nil))) .nil) .nil)
    (.cons (.ite (.cmp .Eq (.blt .len (.cons (.v 1) .nil)) (.c (.int 5))) (.cons (.ret (.lst (.cons (.chk (.callv 0 ks (rowX 0 5))) .nil))) .nil) .nil)
    (.cons (.ret (.lst (.cons (.chk (.callv 0 ks (rowX 0 6))) .nil))) .nil)))) 0 2 [1, 2, 3, 4, 5] (.cons (.ret (.chk (.call wk (.cons (.v 2) .nil)))) .nil)) .nil)
def askD (wk : Nat) (ks : List Nat) : Def := { np := 2, n := 3, br := false, fresh := true, ms := [], body := askB wk ks }
theorem row_ok {w : PV} {args : List PV} {f : PV} : ∀ (m j : Nat), j + m = args.length → evalEs C (rowX j m) [f, .lst args, w] = .ok (args.drop j, [f, .lst args, w])
  | 0, j, h => by
    rw [List.drop_eq_nil_of_le (by omega)]
    rfl
  | m + 1, j, h => by
    have hj : j < args.length := by omega
    unfold rowX
    rw [eA_cons, eE_idx, eE_v, get_succ, get_zl]
    simp only [Res.bind_ok', eE_c]
    show (((ofO (index (.lst args) (.int (j : Nat)))).bind _).bind _) = _
    rw [ix_lst (List.getElem?_eq_getElem hj)]
    show ((evalEs C (rowX (j + 1) m) [f, .lst args, w]).bind _) = _
    rw [row_ok m (j + 1) (by omega), List.drop_eq_getElem_cons hj]
    rfl
theorem callv_row {w : PV} {args : List PV} {k : Nat} {ks : List Nat} (hk : k ∈ ks) (m : Nat) (h : m = args.length) : evalE C (.callv 0 ks (rowX 0 m)) [.fn k, .lst args, w] = runCall (C k args) [.fn k, .lst args, w] := by
  rw [eE_callv rfl hk, row_ok m 0 (by omega)]
  rfl
/-- the suite: the call's answer in a list, or its error -/
theorem ask_suite {w : PV} {args : List PV} {k wk : Nat} {ks : List Nat} (hk : k ∈ ks) (h1 : 1 ≤ args.length) (h6 : args.length ≤ 6) {sb : Ss} {h : Ss} {c i : Nat} {cs : List Nat} (he : askB wk ks = .cons (.try sb c i cs h) .nil) :
    evalSs C W sb [.fn k, .lst args, w] = ((runCall (C k args) [.fn k, .lst args, w]).bind fun r => if r.1.lf = true then Res.ok r else .fail).out fun r => .rt (.lst [r.1]) r.2 := by
  unfold askB at he
  cases he
  have fin : ∀ {r : Res (PV × Env)}, (((r.bind fun r => if r.1.lf = true then Res.ok r else .fail).bind fun r => Res.ok ([r.1], r.2)).bind fun r => Res.ok (PV.lst r.1, r.2)).out (fun r => Out.rt r.1 r.2) = (r.bind fun r => if r.1.lf = true then Res.ok r else .fail).out fun r => .rt (.lst [r.1]) r.2 := fun {r} => by
    cases r with
    | ok a =>
      show (((if a.1.lf = true then Res.ok a else .fail).bind _).bind _).out _ = (if a.1.lf = true then Res.ok a else .fail).out _
      by_cases c : a.1.lf = true
      · rw [if_pos c]; rfl
      · rw [if_neg c]; rfl
    | raise c a e => rfl
    | fail => rfl
  have fs : ∀ {r : Res (PV × Env)} {f : Env → Out}, ((r.bind fun r => if r.1.lf = true then Res.ok r else .fail).out fun r => Out.rt (.lst [r.1]) r.2).seq f = (r.bind fun r => if r.1.lf = true then Res.ok r else .fail).out fun r => .rt (.lst [r.1]) r.2 := fun {r f} => by
    cases r with
    | ok a =>
      show ((if a.1.lf = true then Res.ok a else .fail).out _).seq _ = (if a.1.lf = true then Res.ok a else .fail).out _
      by_cases c : a.1.lf = true
      · rw [if_pos c]; rfl
      · rw [if_neg c]; rfl
    | raise c a e => rfl
    | fail => rfl
  have dl : ∀ {z : Int}, (args.length : Int) < z → decide ((args.length : Int) < z) = true := fun h => decide_eq_true h
  rcases (by omega : args.length = 1 ∨ args.length = 2 ∨ args.length = 3 ∨ args.length = 4 ∨ args.length = 5 ∨ args.length = 6) with h | h | h | h | h | h
  · have d0 : decide ((args.length : Int) < 4) = true := decide_eq_true (by omega)
    have d1 : decide ((args.length : Int) = 1) = true := decide_eq_true (by omega)
    have d2 : decide ((args.length : Int) = 2) = false := decide_eq_false (by omega)
    simp only [eSs_cons, eS_ite, eE_cmp, eE_blt, eA_cons, eA_nil, eE_v, get_succ, get_zl, Res.bind_ok', blt_len_lst, ofO_some, eE_c, cmp_lti, cmp_eqi, Res.out_ok, truth_bl, eS_ret, eE_lst, eE_ife, eE_chk, eSs_nil, if_true, Bool.false_eq_true, if_false, Out.seq_nx, fin, fs, d0, d1, d2, callv_row hk 1 h.symm]
  · have d0 : decide ((args.length : Int) < 4) = true := decide_eq_true (by omega)
    have d1 : decide ((args.length : Int) = 1) = false := decide_eq_false (by omega)
    have d2 : decide ((args.length : Int) = 2) = true := decide_eq_true (by omega)
    simp only [eSs_cons, eS_ite, eE_cmp, eE_blt, eA_cons, eA_nil, eE_v, get_succ, get_zl, Res.bind_ok', blt_len_lst, ofO_some, eE_c, cmp_lti, cmp_eqi, Res.out_ok, truth_bl, eS_ret, eE_lst, eE_ife, eE_chk, eSs_nil, if_true, Bool.false_eq_true, if_false, Out.seq_nx, fin, fs, d0, d1, d2, callv_row hk 2 h.symm]
  · have d0 : decide ((args.length : Int) < 4) = true := decide_eq_true (by omega)
    have d1 : decide ((args.length : Int) = 1) = false := decide_eq_false (by omega)
    have d2 : decide ((args.length : Int) = 2) = false := decide_eq_false (by omega)
    simp only [eSs_cons, eS_ite, eE_cmp, eE_blt, eA_cons, eA_nil, eE_v, get_succ, get_zl, Res.bind_ok', blt_len_lst, ofO_some, eE_c, cmp_lti, cmp_eqi, Res.out_ok, truth_bl, eS_ret, eE_lst, eE_ife, eE_chk, eSs_nil, if_true, Bool.false_eq_true, if_false, Out.seq_nx, fin, fs, d0, d1, d2, callv_row hk 3 h.symm]
  · have d0 : decide ((args.length : Int) < 4) = false := decide_eq_false (by omega)
    have d1 : decide ((args.length : Int) = 4) = true := decide_eq_true (by omega)
    have d2 : decide ((args.length : Int) = 5) = false := decide_eq_false (by omega)
    simp only [eSs_cons, eS_ite, eE_cmp, eE_blt, eA_cons, eA_nil, eE_v, get_succ, get_zl, Res.bind_ok', blt_len_lst, ofO_some, eE_c, cmp_lti, cmp_eqi, Res.out_ok, truth_bl, eS_ret, eE_lst, eE_ife, eE_chk, eSs_nil, if_true, Bool.false_eq_true, if_false, Out.seq_nx, fin, fs, d0, d1, d2, callv_row hk 4 h.symm]
  · have d0 : decide ((args.length : Int) < 4) = false := decide_eq_false (by omega)
    have d1 : decide ((args.length : Int) = 4) = false := decide_eq_false (by omega)
    have d2 : decide ((args.length : Int) = 5) = true := decide_eq_true (by omega)
    simp only [eSs_cons, eS_ite, eE_cmp, eE_blt, eA_cons, eA_nil, eE_v, get_succ, get_zl, Res.bind_ok', blt_len_lst, ofO_some, eE_c, cmp_lti, cmp_eqi, Res.out_ok, truth_bl, eS_ret, eE_lst, eE_ife, eE_chk, eSs_nil, if_true, Bool.false_eq_true, if_false, Out.seq_nx, fin, fs, d0, d1, d2, callv_row hk 5 h.symm]
  · have d0 : decide ((args.length : Int) < 4) = false := decide_eq_false (by omega)
    have d1 : decide ((args.length : Int) = 4) = false := decide_eq_false (by omega)
    have d2 : decide ((args.length : Int) = 5) = false := decide_eq_false (by omega)
    simp only [eSs_cons, eS_ite, eE_cmp, eE_blt, eA_cons, eA_nil, eE_v, get_succ, get_zl, Res.bind_ok', blt_len_lst, ofO_some, eE_c, cmp_lti, cmp_eqi, Res.out_ok, truth_bl, eS_ret, eE_lst, eE_ife, eE_chk, eSs_nil, if_true, Bool.false_eq_true, if_false, Out.seq_nx, fin, fs, d0, d1, d2, callv_row hk 6 h.symm]
theorem g_asked {k kf wk : Nat} {ks : List Nat} (hP : P[k]? = some (askD wk ks)) (hk : kf ∈ ks) {args : List PV} {v b : PV} (h1 : 1 ≤ args.length) (h6 : args.length ≤ 6) (e : callN W P n kf args = .ok v b) (hv : v.lf = true) :
    callN W P (n + 1) k [.fn kf, .lst args] = .ok (.lst [v]) .undef := by
  rw [callN_succ hP rfl]
  have s := ask_suite (C := callN W P n) (W := W) (w := .undef) (wk := wk) hk h1 h6 (sb := _) (h := _) (c := _) (i := _) (cs := _) rfl
  rw [e, runCall_ok] at s
  simp only [Res.bind_ok', hv, if_true, Res.out_ok] at s
  refine (congrArg (Ev.finish _) ?_).trans (fin_no (v := .lst [v]) (env := [.fn kf, .lst args, .undef]) rfl)
  show evalSs (callN W P n) W (askB wk ks) [.fn kf, .lst args, .undef] = _
  unfold askB
  rw [eSs_cons, eS_try, s]
  rfl
theorem g_askedX {k kf wk c : Nat} {ks : List Nat} (hP : P[k]? = some (askD wk ks)) (hk : kf ∈ ks) {args : List PV} {a b : PV} {z : Str} (h1 : 1 ≤ args.length) (h6 : args.length ≤ 6) (e : callN W P n kf args = .raise c a b) (hc : c ∈ [1, 2, 3, 4, 5])
    (ew : callN W P n wk [.exc c a] = .ok (.str z) .undef) : callN W P (n + 1) k [.fn kf, .lst args] = .ok (.str z) .undef := by
  rw [callN_succ hP rfl]
  have s := ask_suite (C := callN W P n) (W := W) (w := .undef) (wk := wk) hk h1 h6 (sb := _) (h := _) (c := _) (i := _) (cs := _) rfl
  rw [e, runCall_raise] at s
  simp only [Res.bind_raise', Res.out_raise'] at s
  refine (congrArg (Ev.finish _) ?_).trans (fin_no (v := .str z) (env := keep0 [.fn kf, .lst args, .exc c a]) rfl)
  show evalSs (callN W P n) W (askB wk ks) [.fn kf, .lst args, .undef] = _
  unfold askB
  rw [eSs_cons, eS_try, s]
  have hg : Ev.get [.fn kf, .lst args, .exc c a] 2 = .ok (.exc c a, [.fn kf, .lst args, .exc c a]) := get_at rfl nofun
  have hh : evalSs (callN W P n) W (.cons (.ret (.chk (.call wk (.cons (.v 2) .nil)))) .nil) [.fn kf, .lst args, .exc c a] = .rt (.str z) [.fn kf, .lst args, .exc c a] := by
    simp only [eSs_cons, eS_ret, eE_chk, eE_call, eA_cons, eA_nil, eE_v, hg, Res.bind_ok', ew, runCall_ok]
    rfl
  show Out.seq (if c ∈ [1, 2, 3, 4, 5] then (if 0 = 0 ∨ 0 = c then (match evalSs (callN W P n) W (.cons (.ret (.chk (.call wk (.cons (.v 2) .nil)))) .nil) [.fn kf, .lst args, .exc c a] with
      | .rt p e => if p.ne = true then .rt p (keep0 e) else .fail
      | _ => .fail) else .raise c a [.fn kf, .lst args, .undef]) else .fail) _ = _
  rw [if_pos hc, if_pos (.inl rfl), hh]
  rfl
def wordB : Ss := (.cons (.asg (.n 1) (.lst (.cons (.c (.str "cut ")) (.cons (.c (.str "pin ")) (.cons (.c (.str "argument ")) (.cons (.c (.str "paper ")) (.cons (.c (.str "many ")) .nil))))))) (.cons (.asg (.n 2) (.lst (.cons (.isx 0 (some 1)) (.cons (.isx 0 (some 2)) (.cons (.isx 0 (some 3)) .nil))))) (.cons (.asg (.n 2) (.bin .Add (.v 2) (.lst (.cons (.isx 0 (some 4)) (.cons (.isx 0 (some 5)) .nil))))) (.cons (.ret (.chk (.ife (.and (.cmp .Eq (.mth .count (.v 2) (.c (.bl true))) (.c (.int 1))) (.isx 0 none)) (.bin .Add (.idx (.v 1) (.mth .index (.v 2) (.c (.bl true)))) (.fld 0 [1, 2, 3, 4, 5])) (.c (.str "other"))))) .nil))))
def wordD : Def := { np := 1, n := 3, br := false, fresh := false, ms := [], body := wordB }
def headOf : Nat → Str
  | 1 => "cut "
  | 2 => "pin "
  | 3 => "argument "
  | 4 => "paper "
  | _ => "many "
theorem isx_z {d : Nat} {q : Option Nat} {a : PV} {env : Env} : evalE C (.isx 0 q) (.exc d a :: env) = .ok (.bl (isxB q d), .exc d a :: env) := rfl
theorem fld_z {d : Nat} {cs : List Nat} {a : PV} {env : Env} (h : d ∈ cs) : evalE C (.fld 0 cs) (.exc d a :: env) = .ok (a, .exc d a :: env) := by
  show (if d ∈ cs then Res.ok (a, .exc d a :: env) else .fail) = _
  rw [if_pos h]
def headsV : List PV := [.str "cut ", .str "pin ", .str "argument ", .str "paper ", .str "many "]
def fndV (c : Nat) : List PV := [.bl (isxB (some 1) c), .bl (isxB (some 2) c), .bl (isxB (some 3) c), .bl (isxB (some 4) c), .bl (isxB (some 5) c)]
theorem bin_addl {l r : List PV} (h : l.length + r.length ≤ 1000) : binop .Add (.lst l) (.lst r) = some (.lst (l ++ r)) := by
  show (if l.length + r.length ≤ sizeLine then some (PV.lst (l ++ r)) else none) = _
  rw [if_pos (sl_le (by omega))]
theorem g_word {k c : Nat} (hP : P[k]? = some wordD) (hc : c ∈ [1, 2, 3, 4, 5]) {z : Str} (hz : z.length ≤ 1000) : callN W P (n + 1) k [.exc c (.str z)] = .ok (.str (headOf c ++ z)) .undef := by
  rw [callN_succ hP rfl]
  refine (congrArg (Ev.finish _) ?_).trans (fin_no (v := .str (headOf c ++ z)) (env := [.exc c (.str z), .lst headsV, .lst (fndV c)]) rfl)
  show evalSs (callN W P n) W wordB [.exc c (.str z), .undef, .undef] = _
  have add : ∀ {x : Str}, x.length ≤ 100 → binop .Add (.str x) (.str z) = some (.str (x ++ z)) := fun {x} hx => by
    show (if x.length + z.length ≤ sizeLine then some (PV.str (x ++ z)) else none) = _
    rw [if_pos (sl_le (by omega))]
  have h1 : evalM .count (fndV c) (.bl true) = some (.int 1) ∧ ∃ j : Nat, evalM .index (fndV c) (.bl true) = some (.int j) ∧ headsV[j]? = some (.str (headOf c)) ∧ (headOf c).length ≤ 100 := by
    simp only [List.mem_cons, List.not_mem_nil, or_false] at hc
    rcases hc with rfl | rfl | rfl | rfl | rfl
    · exact ⟨by kernel_rfl, 0, by kernel_rfl, rfl, by decide +kernel⟩
    · exact ⟨by kernel_rfl, 1, by kernel_rfl, rfl, by decide +kernel⟩
    · exact ⟨by kernel_rfl, 2, by kernel_rfl, rfl, by decide +kernel⟩
    · exact ⟨by kernel_rfl, 3, by kernel_rfl, rfl, by decide +kernel⟩
    · exact ⟨by kernel_rfl, 4, by kernel_rfl, rfl, by decide +kernel⟩
  obtain ⟨h1, j, h2, h3, h4⟩ := h1
  have g2 : Ev.get [.exc c (.str z), .lst headsV, .lst (fndV c)] 2 = .ok (.lst (fndV c), [.exc c (.str z), .lst headsV, .lst (fndV c)]) := rfl
  have g1 : Ev.get [.exc c (.str z), .lst headsV, .lst (fndV c)] 1 = .ok (.lst headsV, [.exc c (.str z), .lst headsV, .lst (fndV c)]) := rfl
  have m1 : evalE (callN W P n) (.mth .count (.v 2) (.c (.bl true))) [.exc c (.str z), .lst headsV, .lst (fndV c)] = .ok (.int 1, [.exc c (.str z), .lst headsV, .lst (fndV c)]) := eE_mth g2 rfl h1
  have m2 : evalE (callN W P n) (.mth .index (.v 2) (.c (.bl true))) [.exc c (.str z), .lst headsV, .lst (fndV c)] = .ok (.int (j : Nat), [.exc c (.str z), .lst headsV, .lst (fndV c)]) := eE_mth g2 rfl h2
  have e0 : ∀ SS : Ss, evalSs (callN W P n) W (.cons (.asg (.n 1) (.lst (.cons (.c (.str "cut ")) (.cons (.c (.str "pin ")) (.cons (.c (.str "argument ")) (.cons (.c (.str "paper ")) (.cons (.c (.str "many ")) .nil))))))) (.cons (.asg (.n 2) (.lst (.cons (.isx 0 (some 1)) (.cons (.isx 0 (some 2)) (.cons (.isx 0 (some 3)) .nil))))) (.cons (.asg (.n 2) (.bin .Add (.v 2) (.lst (.cons (.isx 0 (some 4)) (.cons (.isx 0 (some 5)) .nil))))) SS))) [.exc c (.str z), .undef, .undef] = evalSs (callN W P n) W SS [.exc c (.str z), .lst headsV, .lst (fndV c)] := fun SS => by
    have b5 : ∀ {a b c d e : PV}, binop .Add (.lst [a, b, c]) (.lst [d, e]) = some (.lst [a, b, c, d, e]) := fun {a b c d e} => bin_addl (l := [a, b, c]) (r := [d, e]) (by simp)
    simp only [eSs_cons, eS_asg, eE_lst, eA_cons, eA_nil, eE_c, Res.bind_ok', Res.out_ok, asg_n, ofO_some, Out.seq_nx, List.set_cons_zero, List.set_cons_succ, isx_z, eE_bin, eE_v, get_succ, get_zl, b5]
    rfl
  unfold wordB
  rw [e0]
  simp only [eSs_cons, eS_ret, eE_chk, eE_ife, eE_and, eE_cmp, m1, eE_c, Res.bind_ok', cmp_eqi, ofO_some, truth_bl, decide_true, if_true, isx_z, isxB, eE_bin, eE_idx, eE_v, g1, m2, ix_lst h3, fld_z hc, add h4, PV.lf, Res.out_ok, Out.seq_rt]
end Ev

/-! EvW: the evaluator by frames: what is behind an expression is a named function, so that simp walks in order. Lemmas w_.. make the walk (macros.txt collects them). -/
namespace Ev
open PySem
variable {W : Nat} {P : List Def} {C : Calls}
theorem nrfl {α : Sort _} {a b : α} (h : a = b) : a = b := h
/-! ### frames -/
def kE {α β : Type} (f : α → Env → Res β) : Res (α × Env) → Res β
  | .ok r => f r.1 r.2
  | .raise c a e => .raise c a e
  | .fail => .fail
def kO {α : Type} (f : α → Env → Out) : Res (α × Env) → Out
  | .ok r => f r.1 r.2
  | .raise c a e => .raise c a e
  | .fail => .fail
def kS (f : Env → Out) : Out → Out
  | .nx e => f e
  | .rt v e => .rt v e
  | .bk e => .bk e
  | .ct e => .ct e
  | .raise c a e => .raise c a e
  | .fail => .fail
theorem w_kE1 {α β : Type} {f : α → Env → Res β} {x : α} {en : Env} : kE f (.ok (x, en)) = f x en := nrfl rfl
theorem w_kE2 {α β : Type} {f : α → Env → Res β} {c : Nat} {a : PV} {en : Env} : kE f (.raise c a en) = .raise c a en := nrfl rfl
theorem w_kO1 {α : Type} {f : α → Env → Out} {x : α} {en : Env} : kO f (.ok (x, en)) = f x en := nrfl rfl
theorem w_kO2 {α : Type} {f : α → Env → Out} {c : Nat} {a : PV} {en : Env} : kO f (.raise c a en) = .raise c a en := nrfl rfl
theorem w_kS1 {f : Env → Out} {e : Env} : kS f (.nx e) = f e := nrfl rfl
theorem w_kS2 {f : Env → Out} {v : PV} {e : Env} : kS f (.rt v e) = .rt v e := nrfl rfl
theorem w_kS3 {f : Env → Out} {e : Env} : kS f (.bk e) = .bk e := nrfl rfl
theorem w_kS4 {f : Env → Out} {e : Env} : kS f (.ct e) = .ct e := nrfl rfl
theorem w_kS5 {f : Env → Out} {c : Nat} {a : PV} {e : Env} : kS f (.raise c a e) = .raise c a e := nrfl rfl
theorem kE_of {α β : Type} {f : α → Env → Res β} {r : Res (α × Env)} {g : α × Env → Res β} (h : ∀ p, g p = f p.1 p.2) : r.bind g = kE f r := by
  cases r with
  | ok p => exact h p
  | raise c a e => rfl
  | fail => rfl
theorem kO_of {α : Type} {f : α → Env → Out} {r : Res (α × Env)} {g : α × Env → Out} (h : ∀ p, g p = f p.1 p.2) : r.out g = kO f r := by
  cases r with
  | ok p => exact h p
  | raise c a e => rfl
  | fail => rfl
/-- a value or none -/
def pk {α : Type} : Option α → Env → Res (α × Env)
  | some x, en => .ok (x, en)
  | none, _ => .fail
theorem w_pk {α : Type} {x : α} {en : Env} : pk (some x) en = .ok (x, en) := nrfl rfl
theorem pk_of {α : Type} {o : Option α} {en : Env} : (ofO o).bind (fun x => Res.ok (x, en)) = pk o en := by cases o <;> rfl
/-- a value into slot i -/
def pS (i : Nat) : Option PV → Env → Out
  | some x, en => .nx (en.set i x)
  | none, _ => .fail
theorem w_pS {i : Nat} {x : PV} {en : Env} : pS i (some x) en = .nx (en.set i x) := nrfl rfl
theorem pS_of {i : Nat} {o : Option PV} {en : Env} : (ofO o).out (fun x => Out.nx (en.set i x)) = pS i o en := by cases o <;> rfl
/-- an env or none -/
def pN : Option Env → Out
  | some e => .nx e
  | none => .fail
theorem w_pN {e : Env} : pN (some e) = .nx e := nrfl rfl
def gv (env : Env) : PV → Res (PV × Env)
  | .undef => .fail
  | x => .ok (x, env)
theorem get_gv {env : Env} {i : Nat} : Ev.get env i = gv env (env.getD i .undef) := by
  unfold Ev.get gv
  cases env.getD i .undef <;> rfl
theorem w_gvx {env : Env} {x : PV} (h : x ≠ .undef) : gv env x = .ok (x, env) := by cases x <;> first | rfl | exact absurd rfl h
theorem w_gvv {env : Env} {x : PV} (h : x.vl = true) : gv env x = .ok (x, env) := w_gvx (vl_nu h)
theorem w_gvi {env : Env} {i : Int} : gv env (.int i) = .ok (.int i, env) := nrfl rfl
theorem w_gvl {env : Env} {l : List PV} : gv env (.lst l) = .ok (.lst l, env) := nrfl rfl
theorem w_gvt {env : Env} {l : List PV} : gv env (.tup l) = .ok (.tup l, env) := nrfl rfl
theorem w_gvb {env : Env} {b : Bool} : gv env (.bl b) = .ok (.bl b, env) := nrfl rfl
theorem w_gvs {env : Env} {s : Str} : gv env (.str s) = .ok (.str s, env) := nrfl rfl
theorem w_gvn {env : Env} : gv env .non = .ok (.non, env) := nrfl rfl
theorem w_gvf {env : Env} {k : Nat} : gv env (.fn k) = .ok (.fn k, env) := nrfl rfl
theorem w_gvc {env : Env} {l : List PV} : gv env (.scr l) = .ok (.scr l, env) := nrfl rfl
theorem w_gve {env : Env} {c : Nat} {a : PV} : gv env (.exc c a) = .ok (.exc c a, env) := nrfl rfl
theorem w_gD0 {α : Type} {x d : α} {l : List α} : (x :: l).getD 0 d = x := nrfl rfl
theorem w_gDS {α : Type} {x d : α} {l : List α} {i : Nat} : (x :: l).getD (i + 1) d = l.getD i d := nrfl rfl
theorem w_sD0 {α : Type} {x y : α} {l : List α} : (x :: l).set 0 y = y :: l := nrfl rfl
theorem w_sDS {α : Type} {x y : α} {l : List α} {i : Nat} : (x :: l).set (i + 1) y = x :: l.set i y := nrfl rfl
def gL (env : Env) : PV → Res (List PV × Env)
  | .lst l => .ok (l, env)
  | _ => .fail
theorem getL_gL {env : Env} {i : Nat} : getL env i = gL env (env.getD i .undef) := by
  unfold getL gL
  cases env.getD i .undef <;> rfl
theorem w_gL {env : Env} {l : List PV} : gL env (.lst l) = .ok (l, env) := nrfl rfl
/-- both ways looked at -/
def brA {α : Type} : Bool → α → α → α
  | true, x, _ => x
  | false, _, y => y
theorem w_brT {α : Type} {x y : α} : brA true x y = x := nrfl rfl
theorem w_brF {α : Type} {x y : α} : brA false x y = y := nrfl rfl
theorem w_brid {α : Type} {p : Bool} {x : α} : brA p x x = x := by cases p <;> rfl
theorem brA_if {α : Type} {t : Bool} {x y : α} : brA t x y = if t = true then x else y := by cases t <;> rfl
theorem w_brand {p q : Bool} {env : Env} : brA p (Res.ok (PV.bl q, env)) (.ok (.bl p, env)) = .ok (.bl (p && q), env) := by cases p <;> rfl
theorem w_bror {p q : Bool} {env : Env} : brA p (Res.ok (PV.bl p, env)) (.ok (.bl q, env)) = .ok (.bl (p || q), env) := by cases p <;> rfl
theorem w_brcmp {p q : Bool} {env : Env} : brA p (Res.ok (PV.bl q, env)) (.ok (.bl false, env)) = .ok (.bl (p && q), env) := by cases p <;> rfl
theorem w_brok {α : Type} {p : Bool} {x y : α} {env : Env} : brA p (Res.ok (x, env)) (.ok (y, env)) = .ok (brA p x y, env) := by cases p <;> rfl
theorem w_brint {p : Bool} {x y : Int} : brA p (PV.int x) (.int y) = .int (brA p x y) := by cases p <;> rfl
theorem w_brbl {p x y : Bool} : brA p (PV.bl x) (.bl y) = .bl (brA p x y) := by cases p <;> rfl
theorem w_brstr {p : Bool} {x y : Str} : brA p (PV.str x) (.str y) = .str (brA p x y) := by cases p <;> rfl
/-! ### expressions -/
theorem w_c {env : Env} {p : PV} : evalE C (.c p) env = .ok (p, env) := nrfl rfl
theorem w_g {env : Env} {x : Str} {p : PV} : evalE C (.g x p) env = .ok (p, env) := nrfl rfl
theorem w_fn {env : Env} {k : Nat} : evalE C (.fn k) env = .ok (.fn k, env) := nrfl rfl
theorem w_v {env : Env} {i : Nat} : evalE C (.v i) env = gv env (env.getD i .undef) := get_gv
theorem w_m {env : Env} {i : Nat} : evalE C (.m i) env = gv env (env.getD i .undef) := get_gv
def fMv (i : Nat) (x : PV) (en : Env) : Res (PV × Env) := .ok (x, en.set i .undef)
theorem w_mv {env : Env} {i : Nat} : evalE C (.mv i) env = kE (fMv i) (gv env (env.getD i .undef)) := by
  show (Ev.get env i).bind _ = _
  rw [get_gv]
  cases env.getD i .undef <;> rfl
theorem w_fMv {i : Nat} {x : PV} {en : Env} : fMv i x en = .ok (x, en.set i .undef) := nrfl rfl
def fChk (x : PV) (en : Env) : Res (PV × Env) := brA x.lf (.ok (x, en)) .fail
theorem w_chk {env : Env} {e : E} : evalE C (.chk e) env = kE fChk (evalE C e env) := kE_of fun r => by
  obtain ⟨x, en⟩ := r
  show (if x.lf = true then Res.ok (x, en) else .fail) = brA x.lf _ _
  rw [brA_if]
theorem w_fChk {x : PV} {en : Env} : fChk x en = brA x.lf (.ok (x, en)) .fail := nrfl rfl
def chkL : PV → Option PV
  | .lst l => brA (PV.lfs l) (some (.lst l)) none
  | _ => none
theorem w_chkL {l : List PV} : chkL (.lst l) = brA (PV.lfs l) (some (.lst l)) none := nrfl rfl
def fChk1 (x : PV) (en : Env) : Res (PV × Env) := pk (chkL x) en
theorem w_fChk1 {x : PV} {en : Env} : fChk1 x en = pk (chkL x) en := nrfl rfl
theorem w_chk1 {env : Env} {e : E} : evalE C (.chk1 e) env = kE fChk1 (evalE C e env) := kE_of fun r => by
  obtain ⟨x, en⟩ := r
  show (match x with
    | .lst l => if PV.lfs l = true then Res.ok (x, en) else .fail
    | _ => .fail) = _
  cases x <;> try rfl
  rename_i l
  unfold fChk1 chkL
  simp only [brA_if]
  cases PV.lfs l <;> rfl
def fBin1 (C : Calls) (op : Operator) (b : E) (x : PV) (en : Env) : Res (PV × Env) := kE (fun y en => pk (binop op x y) en) (evalE C b en)
def fBin2 (op : Operator) (x y : PV) (en : Env) : Res (PV × Env) := pk (binop op x y) en
theorem w_bin {env : Env} {op : Operator} {a b : E} : evalE C (.bin op a b) env = kE (fBin1 C op b) (evalE C a env) := kE_of fun r => by
  unfold fBin1
  exact kE_of fun q => pk_of
theorem w_fBin1 {op : Operator} {b : E} {x : PV} {en : Env} : fBin1 C op b x en = kE (fBin2 op x) (evalE C b en) := nrfl rfl
theorem w_fBin2 {op : Operator} {x y : PV} {en : Env} : fBin2 op x y en = pk (binop op x y) en := nrfl rfl
def negP : PV → Option PV
  | .int i => some (.int (-i))
  | _ => none
theorem w_negP {i : Int} : negP (.int i) = some (.int (-i)) := nrfl rfl
def fNeg (x : PV) (en : Env) : Res (PV × Env) := pk (negP x) en
theorem w_fNeg {x : PV} {en : Env} : fNeg x en = pk (negP x) en := nrfl rfl
theorem w_neg {a : E} {env : Env} : evalE C (.neg a) env = kE fNeg (evalE C a env) := kE_of fun r => by
  obtain ⟨v, en⟩ := r
  cases v <;> rfl
def fNot (x : PV) (en : Env) : Res (PV × Env) := pk ((truth x).map fun b => .bl (!b)) en
def notP (x : PV) : Option PV := (truth x).map fun b => .bl (!b)
def notB : Option Bool → Option PV
  | some b => some (.bl (!b))
  | none => none
theorem w_notB {b : Bool} : notB (some b) = some (.bl (!b)) := nrfl rfl
theorem w_fNot {x : PV} {en : Env} : fNot x en = pk (notB (truth x)) en := by
  unfold fNot
  cases truth x <;> rfl
theorem w_not {a : E} {env : Env} : evalE C (.not a) env = kE fNot (evalE C a env) := kE_of fun r => by
  show (ofO (truth r.1)).bind _ = _
  unfold fNot
  cases truth r.1 <;> rfl
/-- and: by the truth of the first, the second's end, the first's end -/
def andK {α : Type} : Option Bool → Res α → Res α → Res α
  | some t, y, x => brA t y x
  | none, _, _ => .fail
theorem w_andK {α : Type} {t : Bool} {x y : Res α} : andK (some t) y x = brA t y x := nrfl rfl
def fAnd (C : Calls) (b : E) (x : PV) (en : Env) : Res (PV × Env) := andK (truth x) (evalE C b en) (.ok (x, en))
theorem w_fAnd {b : E} {x : PV} {en : Env} : fAnd C b x en = andK (truth x) (evalE C b en) (.ok (x, en)) := nrfl rfl
theorem w_and {env : Env} {a b : E} : evalE C (.and a b) env = kE (fAnd C b) (evalE C a env) := kE_of fun r => by
  show (ofO (truth r.1)).bind (fun t => if t = true then evalE C b r.2 else .ok r) = _
  unfold fAnd
  cases truth r.1 with
  | none => rfl
  | some t => cases t <;> rfl
def fOr (C : Calls) (b : E) (x : PV) (en : Env) : Res (PV × Env) := andK (truth x) (.ok (x, en)) (evalE C b en)
theorem w_fOr {b : E} {x : PV} {en : Env} : fOr C b x en = andK (truth x) (.ok (x, en)) (evalE C b en) := nrfl rfl
theorem w_or {env : Env} {a b : E} : evalE C (.or a b) env = kE (fOr C b) (evalE C a env) := kE_of fun r => by
  show (ofO (truth r.1)).bind (fun t => if t = true then .ok r else evalE C b r.2) = _
  unfold fOr
  cases truth r.1 with
  | none => rfl
  | some t => cases t <;> rfl
def fIfe (C : Calls) (a b : E) (x : PV) (en : Env) : Res (PV × Env) := andK (truth x) (evalE C a en) (evalE C b en)
theorem w_fIfe {a b : E} {x : PV} {en : Env} : fIfe C a b x en = andK (truth x) (evalE C a en) (evalE C b en) := nrfl rfl
theorem w_ife {env : Env} {c a b : E} : evalE C (.ife c a b) env = kE (fIfe C a b) (evalE C c env) := kE_of fun r => by
  show (ofO (truth r.1)).bind (fun t => if t = true then evalE C a r.2 else evalE C b r.2) = _
  unfold fIfe
  cases truth r.1 with
  | none => rfl
  | some t => cases t <;> rfl
def blO : Option Bool → Option PV
  | some b => some (.bl b)
  | none => none
theorem w_blO {b : Bool} : blO (some b) = some (.bl b) := nrfl rfl
theorem blO_of {o : Option Bool} {en : Env} : (ofO o).bind (fun x => Res.ok (PV.bl x, en)) = pk (blO o) en := by cases o <;> rfl
def fCmp2 (op : CmpOp) (x y : PV) (en : Env) : Res (PV × Env) := pk (blO (cmpop op x y)) en
def fCmp1 (C : Calls) (op : CmpOp) (b : E) (x : PV) (en : Env) : Res (PV × Env) := kE (fCmp2 op x) (evalE C b en)
theorem w_fCmp1 {op : CmpOp} {b : E} {x : PV} {en : Env} : fCmp1 C op b x en = kE (fCmp2 op x) (evalE C b en) := nrfl rfl
theorem w_fCmp2 {op : CmpOp} {x y : PV} {en : Env} : fCmp2 op x y en = pk (blO (cmpop op x y)) en := nrfl rfl
theorem w_cmp {env : Env} {op : CmpOp} {a b : E} : evalE C (.cmp op a b) env = kE (fCmp1 C op b) (evalE C a env) := kE_of fun r => by
  unfold fCmp1
  exact kE_of fun q => blO_of
def fCh2 (C : Calls) (o1 o2 : CmpOp) (c : E) (x y : PV) (en : Env) : Res (PV × Env) := andK (cmpop o1 x y) (kE (fCmp2 o2 y) (evalE C c en)) (.ok (.bl false, en))
def fCh1 (C : Calls) (o1 o2 : CmpOp) (b c : E) (x : PV) (en : Env) : Res (PV × Env) := kE (fCh2 C o1 o2 c x) (evalE C b en)
theorem w_fCh1 {o1 o2 : CmpOp} {b c : E} {x : PV} {en : Env} : fCh1 C o1 o2 b c x en = kE (fCh2 C o1 o2 c x) (evalE C b en) := nrfl rfl
theorem w_fCh2 {o1 o2 : CmpOp} {c : E} {x y : PV} {en : Env} : fCh2 C o1 o2 c x y en = andK (cmpop o1 x y) (kE (fCmp2 o2 y) (evalE C c en)) (.ok (.bl false, en)) := nrfl rfl
theorem w_cmp2 {env : Env} {o1 o2 : CmpOp} {a b c : E} : evalE C (.cmp2 o1 o2 a b c) env = kE (fCh1 C o1 o2 b c) (evalE C a env) := kE_of fun r => by
  unfold fCh1
  refine kE_of fun q => ?_
  show (ofO (cmpop o1 r.1 q.1)).bind _ = _
  unfold fCh2
  cases cmpop o1 r.1 q.1 with
  | none => rfl
  | some t =>
    cases t with
    | true => exact kE_of fun p => blO_of
    | false => rfl
def fCall (C : Calls) (k : Nat) (l : List PV) (en : Env) : Res (PV × Env) := runCall (C k l) en
theorem w_fCall {k : Nat} {l : List PV} {en : Env} : fCall C k l en = runCall (C k l) en := nrfl rfl
theorem w_call {env : Env} {k : Nat} {es : Es} : evalE C (.call k es) env = kE (fCall C k) (evalEs C es env) := kE_of fun r => rfl
theorem w_r1 {v b : PV} {env : Env} : runCall (.ok v b) env = .ok (v, env) := nrfl rfl
theorem w_r2 {c : Nat} {a b : PV} {env : Env} : runCall (.raise c a b) env = .raise c a env := nrfl rfl
theorem w_r3 {v b : PV} {i : Nat} {env : Env} : runCallR (.ok v b) i env = .ok (v, env.set i b) := nrfl rfl
theorem w_r4 {c : Nat} {a b : PV} {i : Nat} {env : Env} : runCallR (.raise c a b) i env = .raise c a (env.set i b) := nrfl rfl
def fRef3 (C : Calls) (k i : Nat) (l : List PV) (s : PV) (en : Env) : Res (PV × Env) := runCallR (C k (s :: l)) i en
def fRef2 (C : Calls) (k i : Nat) (l : List PV) (en : Env) : Res (PV × Env) := kE (fRef3 C k i l) (gv en (en.getD i .undef))
def fRef1 (C : Calls) (k i : Nat) (es : Es) (env : Env) (s : PV) (en : Env) : Res (PV × Env) := kE (fRef2 C k i) (evalEs C es env)
theorem w_fRef1 {k i : Nat} {es : Es} {s : PV} {env en : Env} : fRef1 C k i es env s en = kE (fRef2 C k i) (evalEs C es env) := nrfl rfl
theorem w_fRef2 {k i : Nat} {l : List PV} {en : Env} : fRef2 C k i l en = kE (fRef3 C k i l) (gv en (en.getD i .undef)) := nrfl rfl
theorem w_fRef3 {k i : Nat} {l : List PV} {s : PV} {en : Env} : fRef3 C k i l s en = runCallR (C k (s :: l)) i en := nrfl rfl
theorem w_callr {env : Env} {k i : Nat} {es : Es} : evalE C (.callr k i es) env = kE (fRef1 C k i es env) (gv env (env.getD i .undef)) := by
  show (Ev.get env i).bind _ = _
  rw [get_gv]
  refine kE_of fun r => ?_
  unfold fRef1
  refine kE_of fun q => ?_
  unfold fRef2
  rw [get_gv]
  cases q.2.getD i .undef <;> rfl
def fRm2 (C : Calls) (k i : Nat) (s : PV) (l : PV) (en : Env) : Res (PV × Env) := runCallR (C k [s, l]) i en
theorem w_fRm2 {k i : Nat} {s l : PV} {en : Env} : fRm2 C k i s l en = runCallR (C k [s, l]) i en := nrfl rfl
def fRm1 (C : Calls) (k i j : Nat) (s : PV) (en : Env) : Res (PV × Env) := kE (fRm2 C k i s) (gv en (en.getD j .undef))
theorem w_fRm1 {k i j : Nat} {s : PV} {en : Env} : fRm1 C k i j s en = kE (fRm2 C k i s) (gv en (en.getD j .undef)) := nrfl rfl
theorem w_callrm {env : Env} {k i j : Nat} : evalE C (.callrm k i j) env = kE (fRm1 C k i j) (gv env (env.getD i .undef)) := by
  show (Ev.get env i).bind _ = _
  rw [get_gv]
  cases env.getD i .undef <;> try rfl
  all_goals
    show (Ev.get env j).bind (fun l => runCallR (C k [_, l.1]) i env) = kE (fRm2 C k i _) (gv env (env.getD j .undef))
    rw [get_gv]
    cases env.getD j .undef <;> rfl
def vK (C : Calls) (ks : List Nat) (es : Es) (env : Env) : PV → Res (PV × Env)
  | .fn k => if k ∈ ks then kE (fCall C k) (evalEs C es env) else .fail
  | _ => .fail
theorem w_vK {ks : List Nat} {es : Es} {env : Env} {k : Nat} (h : k ∈ ks) : vK C ks es env (.fn k) = kE (fCall C k) (evalEs C es env) := if_pos h
theorem w_callv {env : Env} {i : Nat} {ks : List Nat} {es : Es} : evalE C (.callv i ks es) env = vK C ks es env (env.getD i .undef) := by
  show (match env.getD i .undef with
    | .fn k => if k ∈ ks then (evalEs C es env).bind fun r => runCall (C k r.1) r.2 else .fail
    | _ => .fail) = _
  cases env.getD i .undef <;> try rfl
  rename_i k
  have e : (evalEs C es env).bind (fun r => runCall (C k r.1) r.2) = kE (fCall C k) (evalEs C es env) := kE_of fun r => rfl
  show (if k ∈ ks then (evalEs C es env).bind fun r => runCall (C k r.1) r.2 else .fail) = _
  rw [e]
  rfl
def fBlt (b : Blt) (l : List PV) (en : Env) : Res (PV × Env) := pk (evalB b l) en
theorem w_fBlt {b : Blt} {l : List PV} {en : Env} : fBlt b l en = pk (evalB b l) en := nrfl rfl
theorem w_blt {env : Env} {b : Blt} {es : Es} : evalE C (.blt b es) env = kE (fBlt b) (evalEs C es env) := kE_of fun r => pk_of
def mthP (m : Mth) (x y : PV) : Option PV := match x with
  | .lst l => evalM m l y
  | _ => none
theorem w_mthP {m : Mth} {l : List PV} {y : PV} : mthP m (.lst l) y = evalM m l y := nrfl rfl
def fMth2 (m : Mth) (x y : PV) (en : Env) : Res (PV × Env) := pk (mthP m x y) en
theorem w_fMth2 {m : Mth} {x y : PV} {en : Env} : fMth2 m x y en = pk (mthP m x y) en := nrfl rfl
def mK (C : Calls) (m : Mth) (e : E) (x : PV) (en : Env) : Res (PV × Env) := match x with
  | .lst l => kE (fMth2 m (.lst l)) (evalE C e en)
  | _ => .fail
theorem w_mK {m : Mth} {e : E} {l : List PV} {en : Env} : mK C m e (.lst l) en = kE (fMth2 m (.lst l)) (evalE C e en) := nrfl rfl
theorem w_mth {env : Env} {m : Mth} {o e : E} : evalE C (.mth m o e) env = kE (mK C m e) (evalE C o env) := kE_of fun r => by
  obtain ⟨x, en⟩ := r
  show (match x with
    | .lst l => (evalE C e en).bind fun r => (ofO (evalM m l r.1)).bind fun x => .ok (x, r.2)
    | _ => .fail) = _
  cases x <;> try rfl
  exact kE_of fun q => pk_of
def fIsi (t : Ty) (x : PV) (en : Env) : Res (PV × Env) := pk (blO (isinst x t)) en
theorem w_fIsi {t : Ty} {x : PV} {en : Env} : fIsi t x en = pk (blO (isinst x t)) en := nrfl rfl
theorem w_isi {env : Env} {a : E} {t : Ty} : evalE C (.isi a t) env = kE (fIsi t) (evalE C a env) := kE_of fun r => blO_of
def fTup (l : List PV) (en : Env) : Res (PV × Env) := .ok (.tup l, en)
theorem w_fTup {l : List PV} {en : Env} : fTup l en = .ok (.tup l, en) := nrfl rfl
theorem w_tup {env : Env} {es : Es} : evalE C (.tup es) env = kE fTup (evalEs C es env) := kE_of fun r => rfl
def fLst (l : List PV) (en : Env) : Res (PV × Env) := .ok (.lst l, en)
theorem w_fLst {l : List PV} {en : Env} : fLst l en = .ok (.lst l, en) := nrfl rfl
theorem w_lst {env : Env} {es : Es} : evalE C (.lst es) env = kE fLst (evalEs C es env) := kE_of fun r => rfl
def fIdx2 (x y : PV) (en : Env) : Res (PV × Env) := pk (index x y) en
theorem w_fIdx2 {x y : PV} {en : Env} : fIdx2 x y en = pk (index x y) en := nrfl rfl
def fIdx1 (C : Calls) (i : E) (x : PV) (en : Env) : Res (PV × Env) := kE (fIdx2 x) (evalE C i en)
theorem w_fIdx1 {i : E} {x : PV} {en : Env} : fIdx1 C i x en = kE (fIdx2 x) (evalE C i en) := nrfl rfl
theorem w_idx {env : Env} {a i : E} : evalE C (.idx a i) env = kE (fIdx1 C i) (evalE C a env) := kE_of fun r => by
  unfold fIdx1
  exact kE_of fun q => pk_of
def fSl3 (x : PV) (lo hi : Option Int) (en : Env) : Res (PV × Env) := pk (slice x lo hi) en
theorem w_fSl3 {x : PV} {lo hi : Option Int} {en : Env} : fSl3 x lo hi en = pk (slice x lo hi) en := nrfl rfl
def fSl2 (C : Calls) (hi : OE) (x : PV) (lo : Option Int) (en : Env) : Res (PV × Env) := kE (fSl3 x lo) (evalO C hi en)
theorem w_fSl2 {hi : OE} {x : PV} {lo : Option Int} {en : Env} : fSl2 C hi x lo en = kE (fSl3 x lo) (evalO C hi en) := nrfl rfl
def fSl1 (C : Calls) (lo hi : OE) (x : PV) (en : Env) : Res (PV × Env) := kE (fSl2 C hi x) (evalO C lo en)
theorem w_fSl1 {lo hi : OE} {x : PV} {en : Env} : fSl1 C lo hi x en = kE (fSl2 C hi x) (evalO C lo en) := nrfl rfl
theorem w_sl {env : Env} {a : E} {lo hi : OE} : evalE C (.sl a lo hi) env = kE (fSl1 C lo hi) (evalE C a env) := kE_of fun r => by
  unfold fSl1
  refine kE_of fun q => ?_
  unfold fSl2
  exact kE_of fun p => pk_of
def revP : PV → Option PV
  | .lst l => some (.lst l.reverse)
  | .tup l => some (.tup l.reverse)
  | _ => none
theorem w_revl {l : List PV} : revP (.lst l) = some (.lst l.reverse) := nrfl rfl
theorem w_revt {l : List PV} : revP (.tup l) = some (.tup l.reverse) := nrfl rfl
def fRev (x : PV) (en : Env) : Res (PV × Env) := pk (revP x) en
theorem w_fRev {x : PV} {en : Env} : fRev x en = pk (revP x) en := nrfl rfl
theorem w_rev {a : E} {env : Env} : evalE C (.rev a) env = kE fRev (evalE C a env) := kE_of fun r => by
  obtain ⟨v, en⟩ := r
  cases v <;> rfl
def isxP (c : Option Nat) : PV → Option PV
  | .exc d _ => some (.bl (isxB c d))
  | _ => none
theorem w_isxP {c : Option Nat} {d : Nat} {a : PV} : isxP c (.exc d a) = some (.bl (isxB c d)) := nrfl rfl
theorem w_isx {i : Nat} {c : Option Nat} {env : Env} : evalE C (.isx i c) env = pk (isxP c (env.getD i .undef)) env := by
  show (match env.getD i .undef with
    | .exc d _ => Res.ok (PV.bl (isxB c d), env)
    | _ => .fail) = _
  cases env.getD i .undef <;> rfl
def fldP (cs : List Nat) : PV → Option PV
  | .exc d x => if d ∈ cs then some x else none
  | _ => none
theorem w_fldP {cs : List Nat} {d : Nat} {x : PV} (h : d ∈ cs) : fldP cs (.exc d x) = some x := if_pos h
theorem w_fld {i : Nat} {cs : List Nat} {env : Env} : evalE C (.fld i cs) env = pk (fldP cs (env.getD i .undef)) env := by
  show (match env.getD i .undef with
    | .exc d x => if d ∈ cs then Res.ok (x, env) else .fail
    | _ => .fail) = _
  unfold fldP
  cases env.getD i .undef <;> try rfl
  rename_i d x
  by_cases h : d ∈ cs
  · simp only [h, if_true]; rfl
  · simp only [h, if_false]; rfl
theorem w_cno {env : Env} : evalC C .no env = .ok (true, env) := nrfl rfl
def fCso (x : PV) (en : Env) : Res (Bool × Env) := pk (truth x) en
theorem w_fCso {x : PV} {en : Env} : fCso x en = pk (truth x) en := nrfl rfl
theorem w_cso {env : Env} {e : E} : evalC C (.so e) env = kE fCso (evalE C e env) := kE_of fun r => pk_of
theorem w_anil {env : Env} : evalEs C .nil env = .ok ([], env) := nrfl rfl
def fA2 (x : PV) (l : List PV) (en : Env) : Res (List PV × Env) := .ok (x :: l, en)
theorem w_fA2 {x : PV} {l : List PV} {en : Env} : fA2 x l en = .ok (x :: l, en) := nrfl rfl
def fA1 (C : Calls) (es : Es) (x : PV) (en : Env) : Res (List PV × Env) := kE (fA2 x) (evalEs C es en)
theorem w_fA1 {es : Es} {x : PV} {en : Env} : fA1 C es x en = kE (fA2 x) (evalEs C es en) := nrfl rfl
theorem w_acons {env : Env} {e : E} {es : Es} : evalEs C (.cons e es) env = kE (fA1 C es) (evalE C e env) := kE_of fun r => by
  unfold fA1
  exact kE_of fun q => rfl
def intP : PV → Option (Option Int)
  | .int i => some (some i)
  | _ => none
theorem w_intP {i : Int} : intP (.int i) = some (some i) := nrfl rfl
def fOs (x : PV) (en : Env) : Res (Option Int × Env) := pk (intP x) en
theorem w_fOs {x : PV} {en : Env} : fOs x en = pk (intP x) en := nrfl rfl
theorem w_ono {env : Env} : evalO C .no env = .ok (none, env) := nrfl rfl
theorem w_oso {e : E} {env : Env} : evalO C (.so e) env = kE fOs (evalE C e env) := kE_of fun r => by
  obtain ⟨v, en⟩ := r
  cases v <;> rfl
def fIe (x : PV) (en : Env) : Res (List PV × Env) := pk (seqOf x) en
theorem w_fIe {x : PV} {en : Env} : fIe x en = pk (seqOf x) en := nrfl rfl
theorem w_ie {env : Env} {a : E} : evalI C (.e a) env = kE fIe (evalE C a env) := kE_of fun r => pk_of
def lfsP : Option (List PV) → Option (List PV)
  | some l => brA (PV.lfs l) (some l) none
  | none => none
theorem w_lfsP {l : List PV} : lfsP (some l) = brA (PV.lfs l) (some l) none := nrfl rfl
def fIm (x : PV) (en : Env) : Res (List PV × Env) := pk (lfsP (seqOf x)) en
theorem w_fIm {x : PV} {en : Env} : fIm x en = pk (lfsP (seqOf x)) en := nrfl rfl
theorem w_im {env : Env} {a : E} : evalI C (.m a) env = kE fIm (evalE C a env) := kE_of fun r => by
  show (ofO (seqOf r.1)).bind (fun l => if PV.lfs l = true then Res.ok (l, r.2) else .fail) = _
  unfold fIm
  cases seqOf r.1 with
  | none => rfl
  | some l =>
    show (if PV.lfs l = true then Res.ok (l, r.2) else .fail) = pk (brA (PV.lfs l) (some l) none) r.2
    cases PV.lfs l <;> rfl
def fIr (l : List PV) (en : Env) : Res (List PV × Env) := pk (ranges l) en
theorem w_fIr {l : List PV} {en : Env} : fIr l en = pk (ranges l) en := nrfl rfl
theorem w_irng {env : Env} {es : Es} : evalI C (.rng es) env = kE fIr (evalEs C es env) := kE_of fun r => pk_of
def fIn (x : PV) (en : Env) : Res (List PV × Env) := pk (enumOf x) en
theorem w_fIn {x : PV} {en : Env} : fIn x en = pk (enumOf x) en := nrfl rfl
theorem w_ienum {env : Env} {a : E} : evalI C (.enum a) env = kE fIn (evalE C a env) := kE_of fun r => pk_of
def zipP : List PV → Option (List PV)
  | [x, y] => zip2 x y
  | _ => none
theorem w_zipP {x y : PV} : zipP [x, y] = zip2 x y := nrfl rfl
def fIz (l : List PV) (en : Env) : Res (List PV × Env) := pk (zipP l) en
theorem w_fIz {l : List PV} {en : Env} : fIz l en = pk (zipP l) en := nrfl rfl
theorem w_izip {es : Es} {env : Env} : evalI C (.zip es) env = kE fIz (evalEs C es env) := kE_of fun r => by
  obtain ⟨v, en⟩ := r
  match v with
  | [] => rfl
  | [_] => rfl
  | [x, y] =>
    show (ofO (zip2 x y)).bind _ = pk (zip2 x y) en
    exact pk_of
  | _ :: _ :: _ :: _ => rfl
/-! ### statements -/
def fAsg (t : T) (x : PV) (en : Env) : Out := pN (assign t x en)
theorem w_fAsg {t : T} {x : PV} {en : Env} : fAsg t x en = pN (assign t x en) := nrfl rfl
theorem w_asg {env : Env} {t : T} {e : E} : evalS C W (.asg t e) env = kO (fAsg t) (evalE C e env) := kO_of fun r => by
  show (ofO (assign t r.1 r.2)).out _ = _
  unfold fAsg
  cases assign t r.1 r.2 <;> rfl
def fMasg (i : Nat) (x : PV) (en : Env) : Out := .nx (en.set i x)
theorem w_fMasg {i : Nat} {x : PV} {en : Env} : fMasg i x en = .nx (en.set i x) := nrfl rfl
theorem w_masg {env : Env} {i : Nat} {e : E} : evalS C W (.masg i e) env = kO (fMasg i) (evalE C e env) := kO_of fun r => rfl
def fAug2 (i : Nat) (op : Operator) (x y : PV) (en : Env) : Out := pS i (augop op x y) en
theorem w_fAug2 {i : Nat} {op : Operator} {x y : PV} {en : Env} : fAug2 i op x y en = pS i (augop op x y) en := nrfl rfl
def fAug1 (C : Calls) (i : Nat) (op : Operator) (e : E) (env : Env) (x : PV) (en : Env) : Out := kO (fAug2 i op x) (evalE C e env)
theorem w_fAug1 {i : Nat} {op : Operator} {e : E} {x : PV} {env en : Env} : fAug1 C i op e env x en = kO (fAug2 i op x) (evalE C e env) := nrfl rfl
theorem w_aug {env : Env} {i : Nat} {op : Operator} {e : E} : evalS C W (.aug i op e) env = kO (fAug1 C i op e env) (gv env (env.getD i .undef)) := by
  show (Ev.get env i).out _ = _
  rw [get_gv]
  refine kO_of fun r => ?_
  unfold fAug1
  exact kO_of fun q => pS_of
def fApp3 (i : Nat) (y : PV) (l : List PV) (en : Env) : Out := pS i (pushP y l) en
theorem w_fApp3 {i : Nat} {y : PV} {l : List PV} {en : Env} : fApp3 i y l en = pS i (pushP y l) en := nrfl rfl
def fApp2 (i : Nat) (y : PV) (en : Env) : Out := kO (fApp3 i y) (gL en (en.getD i .undef))
theorem w_fApp2 {i : Nat} {y : PV} {en : Env} : fApp2 i y en = kO (fApp3 i y) (gL en (en.getD i .undef)) := nrfl rfl
def fApp1 (C : Calls) (i : Nat) (e : E) (env : Env) (l : List PV) (en : Env) : Out := kO (fApp2 i) (evalE C e env)
theorem w_fApp1 {i : Nat} {e : E} {l : List PV} {env en : Env} : fApp1 C i e env l en = kO (fApp2 i) (evalE C e env) := nrfl rfl
theorem w_app {env : Env} {i : Nat} {e : E} : evalS C W (.app i e) env = kO (fApp1 C i e env) (gL env (env.getD i .undef)) := by
  show (getL env i).out _ = _
  rw [getL_gL]
  refine kO_of fun r => ?_
  unfold fApp1
  refine kO_of fun q => ?_
  unfold fApp2
  rw [getL_gL]
  cases q.2.getD i .undef <;> try rfl
  exact pS_of
def fSet4 (i : Nat) (y p : PV) (l : List PV) (en : Env) : Out := pS i (setP y p l) en
theorem w_fSet4 {i : Nat} {y p : PV} {l : List PV} {en : Env} : fSet4 i y p l en = pS i (setP y p l) en := nrfl rfl
def fSet3 (i : Nat) (y p : PV) (en : Env) : Out := kO (fSet4 i y p) (gL en (en.getD i .undef))
theorem w_fSet3 {i : Nat} {y p : PV} {en : Env} : fSet3 i y p en = kO (fSet4 i y p) (gL en (en.getD i .undef)) := nrfl rfl
def fSet2 (C : Calls) (i : Nat) (p : E) (y : PV) (env : Env) (l : List PV) (en : Env) : Out := kO (fSet3 i y) (evalE C p env)
theorem w_fSet2 {i : Nat} {p : E} {y : PV} {l : List PV} {env en : Env} : fSet2 C i p y env l en = kO (fSet3 i y) (evalE C p env) := nrfl rfl
def fSet1 (C : Calls) (i : Nat) (p : E) (y : PV) (en : Env) : Out := kO (fSet2 C i p y en) (gL en (en.getD i .undef))
theorem w_fSet1 {i : Nat} {p : E} {y : PV} {en : Env} : fSet1 C i p y en = kO (fSet2 C i p y en) (gL en (en.getD i .undef)) := nrfl rfl
theorem w_set {env : Env} {i : Nat} {p e : E} : evalS C W (.set i p e) env = kO (fSet1 C i p) (evalE C e env) := kO_of fun r => by
  unfold fSet1
  rw [getL_gL]
  refine kO_of fun q => ?_
  unfold fSet2
  refine kO_of fun p => ?_
  unfold fSet3
  rw [getL_gL]
  cases p.2.getD i .undef <;> try rfl
  exact pS_of
def fEx (x : PV) (en : Env) : Out := .nx en
theorem w_fEx {x : PV} {en : Env} : fEx x en = .nx en := nrfl rfl
theorem w_ex {env : Env} {e : E} : evalS C W (.ex e) env = kO fEx (evalE C e env) := kO_of fun r => rfl
def fRet (x : PV) (en : Env) : Out := .rt x en
theorem w_fRet {x : PV} {en : Env} : fRet x en = .rt x en := nrfl rfl
theorem w_ret {env : Env} {e : E} : evalS C W (.ret e) env = kO fRet (evalE C e env) := kO_of fun r => rfl
theorem w_retn {env : Env} : evalS C W .retn env = .rt .non env := nrfl rfl
/-- a fork; the ways are not looked at before it is decided -/
def forkS (C : Calls) (W : Nat) (a b : Ss) : Option Bool → Env → Out
  | some true, en => evalSs C W a en
  | some false, en => evalSs C W b en
  | none, _ => .fail
theorem w_forkT {a b : Ss} {en : Env} : forkS C W a b (some true) en = evalSs C W a en := nrfl rfl
theorem w_forkF {a b : Ss} {en : Env} : forkS C W a b (some false) en = evalSs C W b en := nrfl rfl
theorem fork_if {a b : Ss} {t : Bool} {en : Env} : forkS C W a b (some t) en = if t = true then evalSs C W a en else evalSs C W b en := by cases t <;> rfl
def fIte (C : Calls) (W : Nat) (a b : Ss) (x : PV) (en : Env) : Out := forkS C W a b (truth x) en
theorem w_fIte {a b : Ss} {x : PV} {en : Env} : fIte C W a b x en = forkS C W a b (truth x) en := nrfl rfl
theorem w_ite {env : Env} {c : E} {a b : Ss} : evalS C W (.ite c a b) env = kO (fIte C W a b) (evalE C c env) := kO_of fun r => by
  show (ofO (truth r.1)).out (fun t => if t = true then evalSs C W a r.2 else evalSs C W b r.2) = _
  unfold fIte
  cases truth r.1 with
  | none => rfl
  | some t => cases t <;> rfl
theorem w_brk {env : Env} : evalS C W .brk env = .bk env := nrfl rfl
theorem w_cont {env : Env} : evalS C W .cont env = .ct env := nrfl rfl
theorem w_pass {env : Env} : evalS C W .pass env = .nx env := nrfl rfl
theorem w_ssnil {env : Env} : evalSs C W .nil env = .nx env := nrfl rfl
def fSs (C : Calls) (W : Nat) (ss : Ss) (en : Env) : Out := evalSs C W ss en
theorem w_fSs {ss : Ss} {en : Env} : fSs C W ss en = evalSs C W ss en := nrfl rfl
theorem w_sscons {env : Env} {s : S} {ss : Ss} : evalSs C W (.cons s ss) env = kS (fSs C W ss) (evalS C W s env) := by
  show (evalS C W s env).seq _ = _
  cases evalS C W s env <;> rfl
def raiseK (c : Nat) (x : PV) (en : Env) : Bool → Out
  | true => .raise c x en
  | false => .fail
theorem w_raiseK {c : Nat} {x : PV} {en : Env} : raiseK c x en true = .raise c x en := nrfl rfl
def fRaise (c : Nat) (x : PV) (en : Env) : Out := raiseK c x en (xarg x)
theorem fRaise_eq {c : Nat} {x : PV} {en : Env} : fRaise c x en = raiseK c x en (xarg x) := nrfl rfl
theorem w_fRaiseS {c : Nat} {s : Str} {en : Env} (h : s.length ≤ 1000) : fRaise c (.str s) en = .raise c (.str s) en := by
  rw [fRaise_eq]; show raiseK c _ en (decide (s.length ≤ 1000)) = _
  rw [decide_eq_true h]; rfl
theorem w_raise {env : Env} {c : Nat} {e : E} : evalS C W (.raise c e) env = kO (fRaise c) (evalE C e env) := kO_of fun r => by
  show (if xarg r.1 = true then Out.raise c r.1 r.2 else .fail) = _
  unfold fRaise
  cases xarg r.1 <;> rfl
theorem w_xs {s : Str} : xarg (.str s) = decide (s.length ≤ 1000) := nrfl rfl
/-- a loop, not looked into -/
def forX (C : Calls) (W : Nat) (t : T) (b : Ss) (l : List PV) (en : Env) : Out := forGo (fun x en => (ofO (assign t x en)).out fun en1 => evalSs C W b en1) l en
theorem w_for {env : Env} {t : T} {it : It} {b : Ss} : evalS C W (.for t it b) env = kO (forX C W t b) (evalI C it env) := kO_of fun r => rfl
def whlX (C : Calls) (W : Nat) (c : E) (b : Ss) (m : Nat) (en : Env) : Out := whileGo (fun en => evalE C c en) (fun en => evalSs C W b en) m en
theorem w_whl {env : Env} {c : E} {b : Ss} : evalS C W (.whl c b) env = whlX C W c b W env := nrfl rfl
def formX (C : Calls) (W : Nat) (t : T) (b : Ss) (i m k : Nat) (en : Env) : Out := formGo (fun x en => (ofO (assign t x en)).out fun en1 => evalSs C W b en1) i m k en
theorem w_form {env : Env} {t : T} {i : Nat} {b : Ss} : evalS C W (.form t i b) env = formX C W t b i W 0 env := nrfl rfl
/-- behind the suite of a try: the handler that returns -/
def tryK (C : Calls) (W : Nat) (c i : Nat) (cs : List Nat) (h : Ss) : Out → Out
  | .raise d a en => if d ∈ cs then (if c = 0 ∨ c = d then (match evalSs C W h (en.set i (.exc d a)) with
      | .rt p e => if p.ne = true then .rt p (keep0 e) else .fail
      | _ => .fail) else .raise d a en) else .fail
  | o => o
def hdK : Out → Out
  | .rt p e => brA p.ne (.rt p (keep0 e)) .fail
  | _ => .fail
theorem w_hdK {p : PV} {e : Env} : hdK (.rt p e) = brA p.ne (.rt p (keep0 e)) .fail := nrfl rfl
theorem w_try {env : Env} {b h : Ss} {c i : Nat} {cs : List Nat} : evalS C W (.try b c i cs h) env = tryK C W c i cs h (evalSs C W b env) := by
  rw [eS_try]
  cases evalSs C W b env <;> rfl
theorem w_tryK1 {c i d : Nat} {cs : List Nat} {h : Ss} {a : PV} {en : Env} (h1 : d ∈ cs) (h2 : c = 0 ∨ c = d) : tryK C W c i cs h (.raise d a en) = hdK (evalSs C W h (en.set i (.exc d a))) := by
  show (if d ∈ cs then (if c = 0 ∨ c = d then (match evalSs C W h (en.set i (.exc d a)) with
      | .rt p e => if p.ne = true then Out.rt p (keep0 e) else .fail
      | _ => .fail) else .raise d a en) else .fail) = _
  rw [if_pos h1, if_pos h2]
  cases evalSs C W h (en.set i (.exc d a)) <;> try rfl
  rename_i p e
  show (if p.ne = true then Out.rt p (keep0 e) else .fail) = brA p.ne _ _
  rw [brA_if]
theorem w_tryK2 {c i : Nat} {cs : List Nat} {h : Ss} {v : PV} {en : Env} : tryK C W c i cs h (.rt v en) = .rt v en := nrfl rfl
theorem w_tryK3 {c i : Nat} {cs : List Nat} {h : Ss} {en : Env} : tryK C W c i cs h (.nx en) = .nx en := nrfl rfl
def tryF (c : Nat) (cs : List Nat) (d : Nat) (p : PV) : Out → Out
  | .raise q a en => if q ∈ cs then (if c = 0 ∨ c = q then (match (if xarg p = true then Out.raise d p en else .fail) with
      | .raise d2 a2 e2 => .raise d2 a2 e2
      | _ => .fail) else .raise q a en) else .fail
  | o => o
theorem w_tryf {env : Env} {b : Ss} {c d : Nat} {cs : List Nat} {p : PV} : evalS C W (.tryf b c cs d p) env = tryF c cs d p (evalSs C W b env) := by
  rw [eS_tryf]
  cases evalSs C W b env <;> rfl
theorem w_tryF1 {c q d : Nat} {cs : List Nat} {p a : PV} {en : Env} (h1 : q ∈ cs) (h2 : c = 0 ∨ c = q) : tryF c cs d p (.raise q a en) = raiseK d p en (xarg p) := by
  show (if q ∈ cs then (if c = 0 ∨ c = q then (match (if xarg p = true then Out.raise d p en else .fail) with
      | .raise d2 a2 e2 => Out.raise d2 a2 e2
      | _ => .fail) else .raise q a en) else .fail) = _
  rw [if_pos h1, if_pos h2]
  cases xarg p <;> rfl
theorem w_tryF2 {c d : Nat} {cs : List Nat} {p v : PV} {en : Env} : tryF c cs d p (.rt v en) = .rt v en := nrfl rfl
theorem w_tryF3 {c d : Nat} {cs : List Nat} {p : PV} {en : Env} : tryF c cs d p (.nx en) = .nx en := nrfl rfl
theorem w_an {i : Nat} {x : PV} {env : Env} : assign (.n i) x env = some (env.set i x) := nrfl rfl
theorem w_ani {env : Env} : assign .nil (.tup []) env = some env := nrfl rfl
def fAc (r : T) (l : List PV) : Option Env → Option Env
  | some e => assign r (.tup l) e
  | none => none
theorem w_fAc {r : T} {l : List PV} {e : Env} : fAc r l (some e) = assign r (.tup l) e := nrfl rfl
theorem w_ac {a r : T} {y : PV} {l : List PV} {env : Env} : assign (.cons a r) (.tup (y :: l)) env = fAc r l (assign a y env) := by
  show (assign a y env).bind _ = _
  cases assign a y env <;> rfl
end Ev

/-! EvW2: comprehensions without side effects; loops. -/
namespace Ev
open PySem
variable {W : Nat} {P : List Def} {C : Calls}
/-! ### nothing is changed -/
def tgs : T → List Nat
  | .n i => [i]
  | .nil => []
  | .cons a r => tgs a ++ tgs r
mutual
def pureE : E → Bool
  | .mv _ => false
  | .callr _ _ _ => false
  | .callrm _ _ _ => false
  | .chk e => pureE e
  | .chk1 e => pureE e
  | .bin _ a b => pureE a && pureE b
  | .neg a => pureE a
  | .not a => pureE a
  | .and a b => pureE a && pureE b
  | .or a b => pureE a && pureE b
  | .cmp _ a b => pureE a && pureE b
  | .cmp2 _ _ a b c => pureE a && pureE b && pureE c
  | .ife c a b => pureE c && pureE a && pureE b
  | .call _ es => pureEs es
  | .callv _ _ es => pureEs es
  | .blt _ es => pureEs es
  | .mth _ o e => pureE o && pureE e
  | .isi a _ => pureE a
  | .attr _ => false
  | .tup es => pureEs es
  | .lst es => pureEs es
  | .idx a i => pureE a && pureE i
  | .sl a lo hi => pureE a && pureO lo && pureO hi
  | .rev a => pureE a
  | .comp own tg it c e => pureI it && pureO c && pureE e && (tgs tg).all (own.contains ·)
  | .comp2 own tg it c own1 t1 it1 c1 e => pureI it && pureO c && pureE e && (tgs tg).all (own.contains ·) && pureI it1 && pureO c1 && (tgs t1).all (own1.contains ·) && own1.all (own.contains ·)
  | .c _ => true
  | .g _ _ => true
  | .fn _ => true
  | .v _ => true
  | .m _ => true
  | .isx _ _ => true
  | .fld _ _ => true
def pureEs : Es → Bool
  | .nil => true
  | .cons e es => pureE e && pureEs es
def pureO : OE → Bool
  | .no => true
  | .so e => pureE e
def pureI : It → Bool
  | .e a => pureE a
  | .m a => pureE a
  | .rng es => pureEs es
  | .enum a => pureE a
  | .zip es => pureEs es
end
/-- the env behind is the env ahead -/
def Same {α : Type} (r : Res (α × Env)) (env : Env) : Prop := ∀ x en, r = .ok (x, en) → en = env
theorem Same.kE {α β : Type} {r : Res (α × Env)} {env : Env} {f : α → Env → Res (β × Env)} (h : Same r env) (k : ∀ x, Same (f x env) env) : Same (kE f r) env := by
  intro x en e
  cases r with
  | ok p =>
    obtain ⟨y, en1⟩ := p
    have := h y en1 rfl
    subst this
    exact k y x en e
  | raise c a e1 => cases e
  | fail => cases e
theorem Same.pk {α : Type} {o : Option α} {env : Env} : Same (pk o env) env := by
  intro x en e
  cases o with
  | none => cases e
  | some y => cases e; rfl
theorem Same.ok {α : Type} {x : α} {env : Env} : Same (.ok (x, env)) env := fun _ _ e => by cases e; rfl
theorem Same.gv {x : PV} {env : Env} : Same (gv env x) env := by
  intro y en e
  cases x <;> cases e <;> rfl
theorem Same.runCall {r : CR} {env : Env} : Same (runCall r env) env := by
  intro y en e
  cases r <;> cases e
  rfl
theorem Same.andK {α : Type} {o : Option Bool} {x y : Res (α × Env)} {env : Env} (h1 : Same x env) (h2 : Same y env) : Same (andK o x y) env := by
  cases o with
  | none => intro _ _ e; cases e
  | some t => cases t; exact h2; exact h1
theorem wipe_mem {own : List Nat} {i : Nat} (h : i ∈ own) {x : PV} {env : Env} : Ev.wipe own (env.set i x) = Ev.wipe own env := by
  unfold Ev.wipe
  induction own generalizing env with
  | nil => cases h
  | cons j l ih =>
    simp only [List.foldl_cons]
    by_cases hij : i = j
    · subst hij; rw [List.set_set]
    · rw [List.set_comm _ _ hij]
      exact ih (by cases h with
        | head => exact absurd rfl hij
        | tail _ h => exact h)
theorem wipe_assign {own : List Nat} : ∀ {t : T} {x : PV} {env en : Env}, (tgs t).all (own.contains ·) = true → assign t x env = some en → Ev.wipe own en = Ev.wipe own env
  | .n i, x, env, en, h, e => by
    have hi : i ∈ own := by simpa [tgs] using h
    cases e
    exact wipe_mem hi
  | .nil, x, env, en, h, e => by
    cases x <;> try cases e
    rename_i l
    cases l <;> cases e
    rfl
  | .cons a r, x, env, en, h, e => by
    cases x <;> try cases e
    rename_i l
    cases l with
    | nil => cases e
    | cons y l =>
      have hb : (tgs a).all (own.contains ·) = true ∧ (tgs r).all (own.contains ·) = true := by
        simpa [tgs] using h
      rw [w_ac] at e
      cases e1 : assign a y env with
      | none => rw [e1] at e; cases e
      | some en1 =>
        rw [e1] at e
        rw [wipe_assign hb.2 e, wipe_assign hb.1 e1]
theorem wipe_wipe2 {own own1 : List Nat} (h : own1.all (own.contains ·) = true) {env : Env} : Ev.wipe own (Ev.wipe own1 env) = Ev.wipe own env := by
  show Ev.wipe own (own1.foldl (fun e i => e.set i .undef) env) = _
  induction own1 generalizing env with
  | nil => rfl
  | cons j l ih =>
    have hb : own.contains j = true ∧ l.all (own.contains ·) = true := by simpa using h
    rw [List.foldl_cons, ih hb.2]
    exact wipe_mem (by simpa using hb.1)
theorem Same.compGo {f : PV → Env → Res (Option PV × Env)} {env : Env} (h : ∀ x, Same (f x env) env) : ∀ {l : List PV}, Same (Ev.compGo f l env) env
  | [] => Same.ok
  | x :: l => by
    intro y en e
    unfold Ev.compGo at e
    cases e1 : f x env with
    | ok p =>
      obtain ⟨z, en1⟩ := p
      have := h x z en1 e1
      subst this
      rw [e1] at e
      have e : (Ev.compGo f l en1).bind _ = _ := e
      cases e2 : Ev.compGo f l en1 with
      | ok q =>
        obtain ⟨w, en2⟩ := q
        have := Same.compGo h w en2 e2
        subst this
        rw [e2] at e
        cases e
        rfl
      | raise c a e3 => rw [e2] at e; cases e
      | fail => rw [e2] at e; cases e
    | raise c a e3 => rw [e1] at e; cases e
    | fail => rw [e1] at e; cases e
theorem Same.catGo {f : PV → Env → Res (List PV × Env)} {env : Env} (h : ∀ x, Same (f x env) env) : ∀ {l : List PV}, Same (Ev.catGo f l env) env
  | [] => Same.ok
  | x :: l => by
    intro y en e
    unfold Ev.catGo at e
    cases e1 : f x env with
    | ok p =>
      obtain ⟨z, en1⟩ := p
      have := h x z en1 e1
      subst this
      rw [e1] at e
      have e : (Ev.catGo f l en1).bind _ = _ := e
      cases e2 : Ev.catGo f l en1 with
      | ok q =>
        obtain ⟨w, en2⟩ := q
        have := Same.catGo h w en2 e2
        subst this
        rw [e2] at e
        cases e
        rfl
      | raise c a e3 => rw [e2] at e; cases e
      | fail => rw [e2] at e; cases e
    | raise c a e3 => rw [e1] at e; cases e
    | fail => rw [e1] at e; cases e
/-- one item of a comprehension -/
def cbody (C : Calls) (own : List Nat) (tg : T) (c : OE) (e : E) (x : PV) (en : Env) : Res (Option PV × Env) := ((ofO (assign tg x en)).bind fun en1 => (evalC C c en1).bind fun t => if t.1 = true then (evalE C e t.2).bind fun q => .ok (some q.1, Ev.wipe own q.2) else .ok (none, Ev.wipe own t.2)).nr
theorem nr_ok {α : Type} {r : Res α} {x : α} (h : r.nr = .ok x) : r = .ok x := by
  cases r with
  | ok a => exact h
  | raise c a e => cases h
  | fail => cases h
theorem cbody_same {own : List Nat} {tg : T} {c : OE} {e : E} {env0 : Env} (h1 : ∀ en, Same (evalC C c en) en) (h2 : ∀ en, Same (evalE C e en) en) (h3 : (tgs tg).all (own.contains ·) = true) {x : PV} : Same (cbody C own tg c e x (Ev.wipe own env0)) (Ev.wipe own env0) := by
  intro y en ee
  have ee := nr_ok ee
  cases e1 : assign tg x (Ev.wipe own env0) with
  | none => rw [e1] at ee; cases ee
  | some en1 =>
    rw [e1] at ee
    have ee : (evalC C c en1).bind _ = _ := ee
    have w1 := wipe_assign h3 e1
    rw [wipe_wipe] at w1
    cases e2 : evalC C c en1 with
    | ok p =>
      obtain ⟨t, en2⟩ := p
      have := h1 en1 t en2 e2
      subst this
      rw [e2] at ee
      cases t with
      | true =>
        have ee : (evalE C e en2).bind _ = _ := ee
        cases e3 : evalE C e en2 with
        | ok q =>
          obtain ⟨v, en3⟩ := q
          have := h2 en2 v en3 e3
          subst this
          rw [e3] at ee
          cases ee
          exact w1
        | raise c a e5 => rw [e3] at ee; cases ee
        | fail => rw [e3] at ee; cases ee
      | false =>
        cases ee
        exact w1
    | raise c a e5 => rw [e2] at ee; cases ee
    | fail => rw [e2] at ee; cases ee
def fCompR (own : List Nat) (env : Env) (l : List PV) (en : Env) : Res (PV × Env) := if l.length ≤ sizeLine then .ok (.lst l, restore own env en) else .fail
/-- behind the items -/
def fComp (C : Calls) (own : List Nat) (tg : T) (c : OE) (e : E) (l : List PV) (en : Env) : Res (PV × Env) := kE (fCompR own en) (Ev.compGo (cbody C own tg c e) l (Ev.wipe own en))
theorem comp_frame {own : List Nat} {tg : T} {it : It} {c : OE} {e : E} {env : Env} : evalE C (.comp own tg it c e) env = kE (fComp C own tg c e) (evalI C it env) := kE_of fun r => by
  unfold fComp
  exact kE_of fun q => rfl
def cbody2 (C : Calls) (own : List Nat) (tg : T) (c : OE) (own1 : List Nat) (t1 : T) (it1 : It) (c1 : OE) (e : E) (x : PV) (en : Env) : Res (List PV × Env) := ((ofO (assign tg x en)).bind fun en1 => (evalC C c en1).bind fun t => if t.1 = true then (evalI C it1 t.2).bind fun s =>
          (Ev.compGo (cbody C own1 t1 c1 e) s.1 (Ev.wipe own1 s.2)).bind fun q => .ok (q.1, Ev.wipe own q.2) else .ok ([], Ev.wipe own t.2)).nr
def fComp2 (C : Calls) (own : List Nat) (tg : T) (c : OE) (own1 : List Nat) (t1 : T) (it1 : It) (c1 : OE) (e : E) (l : List PV) (en : Env) : Res (PV × Env) := kE (fCompR own en) (Ev.catGo (cbody2 C own tg c own1 t1 it1 c1 e) l (Ev.wipe own en))
theorem comp2_frame {own own1 : List Nat} {tg t1 : T} {it it1 : It} {c c1 : OE} {e : E} {env : Env} : evalE C (.comp2 own tg it c own1 t1 it1 c1 e) env = kE (fComp2 C own tg c own1 t1 it1 c1 e) (evalI C it env) := kE_of fun r => by
  unfold fComp2
  exact kE_of fun q => rfl
theorem cbody2_same {own own1 : List Nat} {tg t1 : T} {it1 : It} {c c1 : OE} {e : E} {env0 : Env} (h1 : ∀ en, Same (evalC C c en) en) (h2 : ∀ en, Same (evalE C e en) en) (h3 : (tgs tg).all (own.contains ·) = true) (h4 : ∀ en, Same (evalI C it1 en) en) (h5 : ∀ en, Same (evalC C c1 en) en) (h6 : (tgs t1).all (own1.contains ·) = true) (h7 : own1.all (own.contains ·) = true) {x : PV} :
    Same (cbody2 C own tg c own1 t1 it1 c1 e x (Ev.wipe own env0)) (Ev.wipe own env0) := by
  intro y en ee
  have ee := nr_ok ee
  cases e1 : assign tg x (Ev.wipe own env0) with
  | none => rw [e1] at ee; cases ee
  | some en1 =>
    rw [e1] at ee
    have ee : (evalC C c en1).bind _ = _ := ee
    have w1 := wipe_assign h3 e1
    rw [wipe_wipe] at w1
    cases e2 : evalC C c en1 with
    | ok p =>
      obtain ⟨t, en2⟩ := p
      have := h1 en1 t en2 e2
      subst this
      rw [e2] at ee
      cases t with
      | true =>
        have ee : (evalI C it1 en2).bind _ = _ := ee
        cases e3 : evalI C it1 en2 with
        | ok q =>
          obtain ⟨v, en3⟩ := q
          have := h4 en2 v en3 e3
          subst this
          rw [e3] at ee
          have ee : (Ev.compGo (cbody C own1 t1 c1 e) v (Ev.wipe own1 en3)).bind _ = _ := ee
          cases e4 : Ev.compGo (cbody C own1 t1 c1 e) v (Ev.wipe own1 en3) with
          | ok q =>
            obtain ⟨w, en4⟩ := q
            have := Same.compGo (fun x => cbody_same h5 h2 h6) w en4 e4
            subst this
            rw [e4] at ee
            cases ee
            rw [wipe_wipe2 h7]
            exact w1
          | raise c a e5 => rw [e4] at ee; cases ee
          | fail => rw [e4] at ee; cases ee
        | raise c a e5 => rw [e3] at ee; cases ee
        | fail => rw [e3] at ee; cases ee
      | false =>
        cases ee
        exact w1
    | raise c a e5 => rw [e2] at ee; cases ee
    | fail => rw [e2] at ee; cases ee
theorem Same.compR {own : List Nat} {env : Env} {l : List PV} : Same (fCompR own env l (Ev.wipe own env)) env := by
  intro x en e
  unfold fCompR at e
  by_cases h : l.length ≤ sizeLine
  · rw [if_pos h] at e
    cases e
    exact restore_wipe
  · rw [if_neg h] at e
    cases e
theorem Same.kEw {α β : Type} {r : Res (α × Env)} {env env1 : Env} {f : α → Env → Res (β × Env)} (h : Same r env1) (k : ∀ x, Same (f x env1) env) : Same (Ev.kE f r) env := by
  intro x en e
  cases r with
  | ok p =>
    obtain ⟨y, en1⟩ := p
    have := h y en1 rfl
    subst this
    exact k y x en e
  | raise c a e1 => cases e
  | fail => cases e
mutual
theorem pure_E : ∀ {e : E}, pureE e = true → ∀ {env : Env}, Same (evalE C e env) env
  | .c _, _, _ => Same.ok
  | .g _ _, _, _ => Same.ok
  | .fn _, _, _ => Same.ok
  | .v _, _, _ => by rw [w_v]; exact Same.gv
  | .m _, _, _ => by rw [w_m]; exact Same.gv
  | .isx _ _, _, _ => by rw [w_isx]; exact Same.pk
  | .fld _ _, _, _ => by rw [w_fld]; exact Same.pk
  | .mv _, h, _ => by cases h
  | .callr _ _ _, h, _ => by cases h
  | .callrm _ _ _, h, _ => by cases h
  | .chk e, h, _ => by
    rw [w_chk]
    refine Same.kE (pure_E (e := e) h) fun x => ?_
    unfold fChk
    cases x.lf
    · intro _ _ e; cases e
    · exact Same.ok
  | .chk1 e, h, _ => by rw [w_chk1]; exact Same.kE (pure_E (e := e) h) fun x => Same.pk
  | .bin op a b, h, _ => by
    have h := Bool.and_eq_true_iff.mp h
    rw [w_bin]; exact Same.kE (pure_E h.1) fun x => Same.kE (pure_E h.2) fun y => Same.pk
  | .neg a, h, _ => by rw [w_neg]; exact Same.kE (pure_E (e := a) h) fun x => Same.pk
  | .not a, h, _ => by rw [w_not]; exact Same.kE (pure_E (e := a) h) fun x => Same.pk
  | .and a b, h, _ => by
    have h := Bool.and_eq_true_iff.mp h
    rw [w_and]; exact Same.kE (pure_E h.1) fun x => Same.andK (pure_E h.2) Same.ok
  | .or a b, h, _ => by
    have h := Bool.and_eq_true_iff.mp h
    rw [w_or]; exact Same.kE (pure_E h.1) fun x => Same.andK Same.ok (pure_E h.2)
  | .cmp op a b, h, _ => by
    have h := Bool.and_eq_true_iff.mp h
    rw [w_cmp]; exact Same.kE (pure_E h.1) fun x => Same.kE (pure_E h.2) fun y => Same.pk
  | .cmp2 o1 o2 a b c, h, _ => by
    have h := Bool.and_eq_true_iff.mp h
    have h' := Bool.and_eq_true_iff.mp h.1
    rw [w_cmp2]; exact Same.kE (pure_E h'.1) fun x => Same.kE (pure_E h'.2) fun y => Same.andK (Same.kE (pure_E h.2) fun z => Same.pk) Same.ok
  | .ife c a b, h, _ => by
    have h := Bool.and_eq_true_iff.mp h
    have h' := Bool.and_eq_true_iff.mp h.1
    rw [w_ife]; exact Same.kE (pure_E h'.1) fun x => Same.andK (pure_E h'.2) (pure_E h.2)
  | .call _ es, h, _ => by rw [w_call]; exact Same.kE (pure_Es (e := es) h) fun x => Same.runCall
  | .callv i ks es, h, env => by
    rw [w_callv]
    intro x en e
    cases e1 : env.getD i .undef <;> rw [e1] at e <;> try cases e
    rename_i k
    unfold vK at e
    by_cases hk : k ∈ ks
    · simp only [hk, if_true] at e
      exact Same.kE (pure_Es (e := es) h) (fun x => Same.runCall) x en e
    · simp only [hk, if_false] at e
      cases e
  | .blt _ es, h, _ => by rw [w_blt]; exact Same.kE (pure_Es (e := es) h) fun x => Same.pk
  | .mth m o e, h, _ => by
    have h := Bool.and_eq_true_iff.mp h
    rw [w_mth]
    refine Same.kE (pure_E h.1) fun x => ?_
    cases x <;> try (intro _ _ e; cases e)
    exact Same.kE (pure_E h.2) fun y => Same.pk
  | .isi a _, h, _ => by rw [w_isi]; exact Same.kE (pure_E (e := a) h) fun x => Same.pk
  | .attr a, h, _ => by cases h
  | .tup es, h, _ => by rw [w_tup]; exact Same.kE (pure_Es (e := es) h) fun x => Same.ok
  | .lst es, h, _ => by rw [w_lst]; exact Same.kE (pure_Es (e := es) h) fun x => Same.ok
  | .idx a i, h, _ => by
    have h := Bool.and_eq_true_iff.mp h
    rw [w_idx]; exact Same.kE (pure_E h.1) fun x => Same.kE (pure_E h.2) fun y => Same.pk
  | .sl a lo hi, h, _ => by
    have h := Bool.and_eq_true_iff.mp h
    have h' := Bool.and_eq_true_iff.mp h.1
    rw [w_sl]; exact Same.kE (pure_E h'.1) fun x => Same.kE (pure_O h'.2) fun y => Same.kE (pure_O h.2) fun y => Same.pk
  | .rev a, h, _ => by rw [w_rev]; exact Same.kE (pure_E (e := a) h) fun x => Same.pk
  | .comp own tg it c e, h, env => by
    have h := Bool.and_eq_true_iff.mp h
    have h1 := Bool.and_eq_true_iff.mp h.1
    have h2 := Bool.and_eq_true_iff.mp h1.1
    rw [comp_frame]
    refine Same.kE (pure_I h2.1) fun l => ?_
    exact Same.kEw (Same.compGo fun x => cbody_same (fun en => pure_C h2.2) (fun en => pure_E h1.2) h.2) fun l => Same.compR
  | .comp2 own tg it c own1 t1 it1 c1 e, h, env => by
    have h7 := Bool.and_eq_true_iff.mp h
    have h6 := Bool.and_eq_true_iff.mp h7.1
    have h5 := Bool.and_eq_true_iff.mp h6.1
    have h4 := Bool.and_eq_true_iff.mp h5.1
    have h3 := Bool.and_eq_true_iff.mp h4.1
    have h2 := Bool.and_eq_true_iff.mp h3.1
    have h1 := Bool.and_eq_true_iff.mp h2.1
    rw [comp2_frame]
    refine Same.kE (pure_I h1.1) fun l => ?_
    exact Same.kEw (Same.catGo fun x => cbody2_same (fun en => pure_C h1.2) (fun en => pure_E h2.2) h3.2 (fun en => pure_I h4.2) (fun en => pure_C h5.2) h6.2 h7.2) fun l => Same.compR
theorem pure_C : ∀ {c : OE}, pureO c = true → ∀ {env : Env}, Same (evalC C c env) env
  | .no, _, _ => Same.ok
  | .so e, h, _ => by rw [w_cso]; exact Same.kE (pure_E (e := e) h) fun x => Same.pk
theorem pure_O : ∀ {c : OE}, pureO c = true → ∀ {env : Env}, Same (evalO C c env) env
  | .no, _, _ => Same.ok
  | .so e, h, _ => by rw [w_oso]; exact Same.kE (pure_E (e := e) h) fun x => Same.pk
theorem pure_Es : ∀ {e : Es}, pureEs e = true → ∀ {env : Env}, Same (evalEs C e env) env
  | .nil, _, _ => Same.ok
  | .cons e es, h, _ => by
    have h := Bool.and_eq_true_iff.mp h
    rw [w_acons]; exact Same.kE (pure_E h.1) fun x => Same.kE (pure_Es h.2) fun y => Same.ok
theorem pure_I : ∀ {e : It}, pureI e = true → ∀ {env : Env}, Same (evalI C e env) env
  | .e a, h, _ => by rw [w_ie]; exact Same.kE (pure_E (e := a) h) fun x => Same.pk
  | .m a, h, _ => by rw [w_im]; exact Same.kE (pure_E (e := a) h) fun x => Same.pk
  | .rng a, h, _ => by rw [w_irng]; exact Same.kE (pure_Es (e := a) h) fun x => Same.pk
  | .enum a, h, _ => by rw [w_ienum]; exact Same.kE (pure_E (e := a) h) fun x => Same.pk
  | .zip a, h, _ => by rw [w_izip]; exact Same.kE (pure_Es (e := a) h) fun x => Same.pk
end
end Ev

/-! EvW3: comprehensions as maps and filters; typed values; loops. -/
namespace Ev
open PySem
variable {W : Nat} {P : List Def} {C : Calls}
/-! ### comprehensions -/
def consO {α : Type} : Option α → List α → List α
  | some y, l => y :: l
  | none, l => l
def fmGo {α : Type} (f : α → Res (Option PV)) : List α → Res (List PV)
  | [] => .ok []
  | x :: l => (f x).bind fun o => (fmGo f l).bind fun r => .ok (consO o r)
theorem fmGo_map {α β : Type} {f : β → Res (Option PV)} {g : α → β} {l : List α} : fmGo f (l.map g) = fmGo (fun a => f (g a)) l := by
  induction l with
  | nil => rfl
  | cons x l ih => rw [List.map_cons]; unfold fmGo; rw [ih]
theorem fmGo_eq {α : Type} {f : α → Res (Option PV)} {l : List α} (g : α → PV) (h : ∀ x ∈ l, f x = .ok (some (g x))) : fmGo f l = .ok (l.map g) := by
  induction l with
  | nil => rfl
  | cons x l ih =>
    unfold fmGo
    rw [h x (by simp), ih fun y hy => h y (by simp [hy])]
    rfl
theorem fmGo_eqF {α : Type} {f : α → Res (Option PV)} {l : List α} (p : α → Bool) (g : α → PV) (h : ∀ x ∈ l, f x = brA (p x) (.ok (some (g x))) (.ok none)) : fmGo f l = .ok ((l.filter p).map g) := by
  induction l with
  | nil => rfl
  | cons x l ih =>
    unfold fmGo
    rw [h x (by simp), ih fun y hy => h y (by simp [hy]), List.filter_cons]
    cases p x <;> rfl
theorem fmGo_congr {α : Type} {f g : α → Res (Option PV)} {l : List α} (h : ∀ x ∈ l, f x = g x) : fmGo f l = fmGo g l := by
  induction l with
  | nil => rfl
  | cons x l ih =>
    unfold fmGo
    rw [h x (by simp), ih fun y hy => h y (by simp [hy])]
theorem w_fmnil {α : Type} {f : α → Res (Option PV)} : fmGo f [] = .ok [] := nrfl rfl
def consK {α : Type} : Res (Option α) → Res (List α) → Res (List α)
  | .ok o, .ok r => .ok (consO o r)
  | .ok _, .raise c a e => .raise c a e
  | .ok _, .fail => .fail
  | .raise c a e, _ => .raise c a e
  | .fail, _ => .fail
theorem w_consK {α : Type} {o : Option α} {r : List α} : consK (.ok o) (.ok r) = .ok (consO o r) := nrfl rfl
theorem w_consO1 {α : Type} {x : α} {r : List α} : consO (some x) r = x :: r := nrfl rfl
theorem w_consO2 {α : Type} {r : List α} : consO none r = r := nrfl rfl
theorem w_fmcons {α : Type} {f : α → Res (Option PV)} {x : α} {l : List α} : fmGo f (x :: l) = consK (f x) (fmGo f l) := by
  show (f x).bind _ = _
  cases f x with
  | ok o =>
    show (fmGo f l).bind _ = _
    cases fmGo f l <;> rfl
  | raise c a e => rfl
  | fail => rfl
/-- over a list, with the item's place in it known -/
def fmM {α : Type} (l : List α) (f : (a : α) → a ∈ l → Res (Option PV)) : Res (List PV) := fmGo (fun p : {a // a ∈ l} => f p.1 p.2) l.attach
/-- over range(n) -/
def fmR (n : Nat) (f : (i : Nat) → i < n → Res (Option PV)) : Res (List PV) := fmM (List.range n) fun i h => f i (List.mem_range.mp h)
theorem fmGo_attach {α : Type} {l : List α} {f : α → Res (Option PV)} : fmGo (fun p : {a // a ∈ l} => f p.1) l.attach = fmGo f l := by
  have e : fmGo f (l.attach.map (·.1)) = fmGo (fun p : {a // a ∈ l} => f p.1) l.attach := fmGo_map
  rw [← e, List.attach_map_subtype_val]
theorem w_fmmap {α β : Type} {f : β → Res (Option PV)} {g : α → β} {l : List α} : fmGo f (l.map g) = fmM l fun a _ => f (g a) := by
  rw [fmGo_map]; exact fmGo_attach.symm
theorem fmGo_raw {f : PV → Res (Option PV)} {l : List PV} : fmGo f l = fmM l fun a _ => f a := fmGo_attach.symm
theorem fmM_some {α : Type} {l : List α} {g : α → PV} : fmM l (fun a _ => .ok (some (g a))) = .ok (l.map g) := by
  exact (fmGo_attach (f := fun a => Res.ok (some (g a)))).trans (fmGo_eq g fun _ _ => rfl)
theorem fmM_if {α : Type} {l : List α} {p : α → Bool} {g : α → PV} : fmM l (fun a _ => brA (p a) (.ok (some (g a))) (.ok none)) = .ok ((l.filter p).map g) := by
  exact (fmGo_attach (f := fun a => brA (p a) (Res.ok (some (g a))) (.ok none))).trans (fmGo_eqF p g fun _ _ => rfl)
theorem fmM_eq {α : Type} {l : List α} {f : (a : α) → a ∈ l → Res (Option PV)} (g : α → PV) (h : ∀ a ha, f a ha = .ok (some (g a))) : fmM l f = .ok (l.map g) := by
  have : f = fun a _ => .ok (some (g a)) := by funext a ha; exact h a ha
  rw [this, fmM_some]
theorem fmM_eqF {α : Type} {l : List α} {f : (a : α) → a ∈ l → Res (Option PV)} (p : α → Bool) (g : α → PV) (h : ∀ a ha, f a ha = brA (p a) (.ok (some (g a))) (.ok none)) : fmM l f = .ok ((l.filter p).map g) := by
  have : f = fun a _ => brA (p a) (.ok (some (g a))) (.ok none) := by funext a ha; exact h a ha
  rw [this, fmM_if]
theorem fmR_eq {n : Nat} {f : (i : Nat) → i < n → Res (Option PV)} (g : Nat → PV) (h : ∀ i hi, f i hi = .ok (some (g i))) : fmR n f = .ok ((List.range n).map g) := fmM_eq g fun i hi => h i _
theorem fmR_eqF {n : Nat} {f : (i : Nat) → i < n → Res (Option PV)} (p : Nat → Bool) (g : Nat → PV) (h : ∀ i hi, f i hi = brA (p i) (.ok (some (g i))) (.ok none)) : fmR n f = .ok (((List.range n).filter p).map g) := fmM_eqF p g fun i hi => h i _
theorem w_fmintM {α : Type} {l : List α} {g : α → Int} : fmM l (fun a _ => .ok (some (.int (g a)))) = .ok ((l.map g).map .int) := by
  rw [List.map_map]; exact fmM_some
theorem w_ffintM {α : Type} {l : List α} {p : α → Bool} {g : α → Int} : fmM l (fun a _ => brA (p a) (.ok (some (.int (g a)))) (.ok none)) = .ok (((l.filter p).map g).map .int) := by
  rw [List.map_map]; exact fmM_if
theorem w_fmintR {n : Nat} {g : Nat → Int} : fmR n (fun a _ => .ok (some (.int (g a)))) = .ok (((List.range n).map g).map .int) := by
  rw [List.map_map]; exact fmR_eq _ fun _ _ => rfl
theorem w_ffintR {n : Nat} {p : Nat → Bool} {g : Nat → Int} : fmR n (fun a _ => brA (p a) (.ok (some (.int (g a)))) (.ok none)) = .ok ((((List.range n).filter p).map g).map .int) := by
  rw [List.map_map]; exact fmR_eqF p _ fun _ _ => rfl
theorem w_fmblM {α : Type} {l : List α} {g : α → Bool} : fmM l (fun a _ => .ok (some (.bl (g a)))) = .ok ((l.map g).map .bl) := by
  rw [List.map_map]; exact fmM_some
theorem w_ffblM {α : Type} {l : List α} {p : α → Bool} {g : α → Bool} : fmM l (fun a _ => brA (p a) (.ok (some (.bl (g a)))) (.ok none)) = .ok (((l.filter p).map g).map .bl) := by
  rw [List.map_map]; exact fmM_if
theorem w_fmblR {n : Nat} {g : Nat → Bool} : fmR n (fun a _ => .ok (some (.bl (g a)))) = .ok (((List.range n).map g).map .bl) := by
  rw [List.map_map]; exact fmR_eq _ fun _ _ => rfl
theorem w_ffblR {n : Nat} {p : Nat → Bool} {g : Nat → Bool} : fmR n (fun a _ => brA (p a) (.ok (some (.bl (g a)))) (.ok none)) = .ok ((((List.range n).filter p).map g).map .bl) := by
  rw [List.map_map]; exact fmR_eqF p _ fun _ _ => rfl
theorem w_fmstrM {α : Type} {l : List α} {g : α → Str} : fmM l (fun a _ => .ok (some (.str (g a)))) = .ok ((l.map g).map .str) := by
  rw [List.map_map]; exact fmM_some
theorem w_ffstrM {α : Type} {l : List α} {p : α → Bool} {g : α → Str} : fmM l (fun a _ => brA (p a) (.ok (some (.str (g a)))) (.ok none)) = .ok (((l.filter p).map g).map .str) := by
  rw [List.map_map]; exact fmM_if
theorem w_fmstrR {n : Nat} {g : Nat → Str} : fmR n (fun a _ => .ok (some (.str (g a)))) = .ok (((List.range n).map g).map .str) := by
  rw [List.map_map]; exact fmR_eq _ fun _ _ => rfl
theorem w_ffstrR {n : Nat} {p : Nat → Bool} {g : Nat → Str} : fmR n (fun a _ => brA (p a) (.ok (some (.str (g a)))) (.ok none)) = .ok ((((List.range n).filter p).map g).map .str) := by
  rw [List.map_map]; exact fmR_eqF p _ fun _ _ => rfl
theorem w_fmtupM {α β : Type} {l : List α} {g : α → List β} {f : β → PV} : fmM l (fun a _ => .ok (some (.tup ((g a).map f)))) = .ok ((l.map g).map fun x => .tup (x.map f)) := by
  rw [List.map_map]; exact fmM_some
theorem w_fftupM {α β : Type} {l : List α} {p : α → Bool} {g : α → List β} {f : β → PV} : fmM l (fun a _ => brA (p a) (.ok (some (.tup ((g a).map f)))) (.ok none)) = .ok (((l.filter p).map g).map fun x => .tup (x.map f)) := by
  rw [List.map_map]; exact fmM_if
theorem w_fmtupR {β : Type} {n : Nat} {g : Nat → List β} {f : β → PV} : fmR n (fun a _ => .ok (some (.tup ((g a).map f)))) = .ok (((List.range n).map g).map fun x => .tup (x.map f)) := by
  rw [List.map_map]; exact fmR_eq _ fun _ _ => rfl
theorem w_fftupR {β : Type} {n : Nat} {p : Nat → Bool} {g : Nat → List β} {f : β → PV} : fmR n (fun a _ => brA (p a) (.ok (some (.tup ((g a).map f)))) (.ok none)) = .ok ((((List.range n).filter p).map g).map fun x => .tup (x.map f)) := by
  rw [List.map_map]; exact fmR_eqF p _ fun _ _ => rfl
theorem w_fmlstM {α β : Type} {l : List α} {g : α → List β} {f : β → PV} : fmM l (fun a _ => .ok (some (.lst ((g a).map f)))) = .ok ((l.map g).map fun x => .lst (x.map f)) := by
  rw [List.map_map]; exact fmM_some
theorem w_fflstM {α β : Type} {l : List α} {p : α → Bool} {g : α → List β} {f : β → PV} : fmM l (fun a _ => brA (p a) (.ok (some (.lst ((g a).map f)))) (.ok none)) = .ok (((l.filter p).map g).map fun x => .lst (x.map f)) := by
  rw [List.map_map]; exact fmM_if
theorem w_fmlstR {β : Type} {n : Nat} {g : Nat → List β} {f : β → PV} : fmR n (fun a _ => .ok (some (.lst ((g a).map f)))) = .ok (((List.range n).map g).map fun x => .lst (x.map f)) := by
  rw [List.map_map]; exact fmR_eq _ fun _ _ => rfl
theorem w_fflstR {β : Type} {n : Nat} {p : Nat → Bool} {g : Nat → List β} {f : β → PV} : fmR n (fun a _ => brA (p a) (.ok (some (.lst ((g a).map f)))) (.ok none)) = .ok ((((List.range n).filter p).map g).map fun x => .lst (x.map f)) := by
  rw [List.map_map]; exact fmR_eqF p _ fun _ _ => rfl
theorem w_mapid {α : Type} {l : List α} : l.map (fun a => a) = l := List.map_id' l
def fSm (x : PV) (_ : Env) : Res (Option PV) := .ok (some x)
theorem w_fSm {x : PV} {en : Env} : fSm x en = .ok (some x) := nrfl rfl
def fCv2 (C : Calls) (e : E) (t : Bool) (en : Env) : Res (Option PV) := brA t (kE fSm (evalE C e en)) (.ok none)
theorem w_fCv2 {e : E} {t : Bool} {en : Env} : fCv2 C e t en = brA t (kE fSm (evalE C e en)) (.ok none) := nrfl rfl
def nrK {α : Type} : Res α → Res α
  | .ok a => .ok a
  | _ => .fail
theorem w_nrK {α : Type} {a : α} : nrK (.ok a) = .ok a := nrfl rfl
theorem w_nrB {α : Type} {p : Bool} {a b : Res α} : nrK (brA p a b) = brA p (nrK a) (nrK b) := by cases p <;> rfl
def cvK (C : Calls) (c : OE) (e : E) : Option Env → Res (Option PV)
  | some en => nrK (kE (fCv2 C e) (evalC C c en))
  | none => .fail
theorem w_cvK {c : OE} {e : E} {en : Env} : cvK C c e (some en) = nrK (kE (fCv2 C e) (evalC C c en)) := nrfl rfl
/-- the value that one item gives -/
def cv (C : Calls) (tg : T) (c : OE) (e : E) (en : Env) (x : PV) : Res (Option PV) := cvK C c e (assign tg x en)
theorem w_cv {tg : T} {c : OE} {e : E} {en : Env} {x : PV} : cv C tg c e en x = cvK C c e (assign tg x en) := nrfl rfl
def fst' {α β : Type} : Res (α × β) → Res α
  | .ok p => .ok p.1
  | .raise c a e => .raise c a e
  | .fail => .fail
theorem cbody_fst {own : List Nat} {tg : T} {c : OE} {e : E} {x : PV} {en : Env} : fst' (cbody C own tg c e x en) = cv C tg c e en x := by
  unfold cbody cv cvK
  cases e1 : assign tg x en with
  | none => rfl
  | some en1 =>
    show fst' ((evalC C c en1).bind _).nr = nrK (kE (fCv2 C e) (evalC C c en1))
    cases e2 : evalC C c en1 with
    | ok p =>
      obtain ⟨t, en2⟩ := p
      cases t with
      | true =>
        show fst' ((evalE C e en2).bind _).nr = nrK (kE fSm (evalE C e en2))
        cases evalE C e en2 <;> rfl
      | false => rfl
    | raise c a e => rfl
    | fail => rfl
theorem compGo_fm {f : PV → Env → Res (Option PV × Env)} {env : Env} (h : ∀ x, Same (f x env) env) {l : List PV} : compGo f l env = (fmGo (fun x => fst' (f x env)) l).bind fun r => .ok (r, env) := by
  induction l with
  | nil => rfl
  | cons x l ih =>
    unfold compGo fmGo
    cases e1 : f x env with
    | ok p =>
      obtain ⟨y, en1⟩ := p
      have := h x y en1 e1
      subst this
      show (compGo f l en1).bind _ = ((fmGo _ l).bind _).bind _
      rw [ih]
      cases fmGo (fun x => fst' (f x en1)) l with
      | ok r => cases y <;> rfl
      | raise c a e => rfl
      | fail => rfl
    | raise c a e => rfl
    | fail => rfl
/-- the items found, as a list -/
def kQ (en : Env) : Res (List PV) → Res (PV × Env)
  | .ok l => if l.length ≤ sizeLine then .ok (.lst l, en) else .fail
  | .raise c a e => .raise c a e
  | .fail => .fail
theorem w_kQ {en : Env} {l : List PV} (h : l.length ≤ 1000000) : kQ en (.ok l) = .ok (.lst l, en) := if_pos (by rw [sizeLine_eq]; omega)
def fCompP (C : Calls) (own : List Nat) (tg : T) (c : OE) (e : E) (l : List PV) (en : Env) : Res (PV × Env) := kQ en (fmGo (cv C tg c e (Ev.wipe own en)) l)
theorem w_fCompP {own : List Nat} {tg : T} {c : OE} {e : E} {l : List PV} {en : Env} : fCompP C own tg c e l en = kQ en (fmGo (fun x => cv C tg c e (Ev.wipe own en) x) l) := nrfl rfl
theorem w_comp {own : List Nat} {tg : T} {it : It} {c : OE} {e : E} {env : Env} (h : (pureO c && pureE e && (tgs tg).all (own.contains ·)) = true) : evalE C (.comp own tg it c e) env = kE (fCompP C own tg c e) (evalI C it env) := by
  have h := Bool.and_eq_true_iff.mp h
  have h' := Bool.and_eq_true_iff.mp h.1
  rw [comp_frame]
  congr 1
  funext l en
  unfold fComp fCompP
  rw [compGo_fm fun x => cbody_same (fun en => pure_C h'.1) (fun en => pure_E h'.2) h.2]
  have ee : (fun x => fst' (cbody C own tg c e x (Ev.wipe own en))) = cv C tg c e (Ev.wipe own en) := by
    funext x; exact cbody_fst
  rw [ee]
  cases fmGo (cv C tg c e (Ev.wipe own en)) l with
  | ok r =>
    show (if r.length ≤ sizeLine then Res.ok (PV.lst r, restore own en (Ev.wipe own en)) else .fail) = _
    rw [restore_wipe]; rfl
  | raise c a e => rfl
  | fail => rfl
theorem w_wip0 {env : Env} : Ev.wipe [] env = env := nrfl rfl
theorem w_wipS {i : Nat} {own : List Nat} {env : Env} : Ev.wipe (i :: own) env = Ev.wipe own (env.set i .undef) := nrfl rfl
/-! ### two clauses -/
def cat2 : List (List PV) → List PV := List.flatten
def fmCat {α : Type} (f : α → Res (List PV)) : List α → Res (List PV)
  | [] => .ok []
  | x :: l => (f x).bind fun o => (fmCat f l).bind fun r => .ok (o ++ r)
theorem fmCat_map {α β : Type} {f : β → Res (List PV)} {g : α → β} {l : List α} : fmCat f (l.map g) = fmCat (fun a => f (g a)) l := by
  induction l with
  | nil => rfl
  | cons x l ih => rw [List.map_cons]; unfold fmCat; rw [ih]
theorem fmCat_eq {α : Type} {f : α → Res (List PV)} {l : List α} (g : α → List PV) (h : ∀ x ∈ l, f x = .ok (g x)) : fmCat f l = .ok (l.flatMap g) := by
  induction l with
  | nil => rfl
  | cons x l ih =>
    unfold fmCat
    rw [h x (by simp), ih fun y hy => h y (by simp [hy])]
    rfl
theorem fmCat_congr {α : Type} {f g : α → Res (List PV)} {l : List α} (h : ∀ x ∈ l, f x = g x) : fmCat f l = fmCat g l := by
  induction l with
  | nil => rfl
  | cons x l ih =>
    unfold fmCat
    rw [h x (by simp), ih fun y hy => h y (by simp [hy])]
theorem fmCat_attach {α : Type} {l : List α} {f : α → Res (List PV)} : fmCat (fun p : {a // a ∈ l} => f p.1) l.attach = fmCat f l := by
  have e : fmCat f (l.attach.map (·.1)) = fmCat (fun p : {a // a ∈ l} => f p.1) l.attach := fmCat_map
  rw [← e, List.attach_map_subtype_val]
def fcM {α : Type} (l : List α) (f : (a : α) → a ∈ l → Res (List PV)) : Res (List PV) := fmCat (fun p : {a // a ∈ l} => f p.1 p.2) l.attach
def fcR (n : Nat) (f : (i : Nat) → i < n → Res (List PV)) : Res (List PV) := fcM (List.range n) fun i h => f i (List.mem_range.mp h)
theorem w_fcmap {α β : Type} {f : β → Res (List PV)} {g : α → β} {l : List α} : fmCat f (l.map g) = fcM l fun a _ => f (g a) := by
  rw [fmCat_map]; exact fmCat_attach.symm
theorem fcM_eq {α : Type} {l : List α} {f : (a : α) → a ∈ l → Res (List PV)} (g : α → List PV) (h : ∀ a ha, f a ha = .ok (g a)) : fcM l f = .ok (l.flatMap g) := by
  have : f = fun a _ => .ok (g a) := by funext a ha; exact h a ha
  rw [this]
  exact (fmCat_attach (f := fun a => Res.ok (g a))).trans (fmCat_eq g fun _ _ => rfl)
theorem fcR_eq {n : Nat} {f : (i : Nat) → i < n → Res (List PV)} (g : Nat → List PV) (h : ∀ i hi, f i hi = .ok (g i)) : fcR n f = .ok ((List.range n).flatMap g) := fcM_eq g fun i hi => h i _
theorem w_fcmapM {α β : Type} {l : List α} {g : α → List β} {f : β → PV} : fcM l (fun a _ => .ok ((g a).map f)) = .ok ((l.flatMap g).map f) := by
  rw [fcM_eq (fun a => (g a).map f) fun _ _ => rfl, List.map_flatMap]
theorem w_fcmapR {β : Type} {n : Nat} {g : Nat → List β} {f : β → PV} : fcR n (fun a _ => .ok ((g a).map f)) = .ok (((List.range n).flatMap g).map f) := by
  rw [fcR_eq (fun a => (g a).map f) fun _ _ => rfl, List.map_flatMap]
theorem flat_filter {α β : Type} {l : List α} {p : α → Bool} {g : α → List β} {f : β → PV} : l.flatMap (fun a => if p a = true then (g a).map f else []) = ((l.filter p).flatMap g).map f := by
  induction l with
  | nil => rfl
  | cons x l ih =>
    rw [List.flatMap_cons, ih, List.filter_cons]
    cases p x <;> simp
theorem w_fcbrM {α β : Type} {l : List α} {p : α → Bool} {g : α → List β} {f : β → PV} : fcM l (fun a _ => brA (p a) (.ok ((g a).map f)) (.ok [])) = .ok (((l.filter p).flatMap g).map f) := by
  rw [fcM_eq (fun a => if p a = true then (g a).map f else []) fun a _ => by cases p a <;> rfl, flat_filter]
theorem w_fcbrR {β : Type} {n : Nat} {p : Nat → Bool} {g : Nat → List β} {f : β → PV} : fcR n (fun a _ => brA (p a) (.ok ((g a).map f)) (.ok [])) = .ok ((((List.range n).filter p).flatMap g).map f) := by
  rw [fcR_eq (fun a => if p a = true then (g a).map f else []) fun a _ => by cases p a <;> rfl, flat_filter]
def fCc3 (C : Calls) (own1 : List Nat) (t1 : T) (c1 : OE) (e : E) (l : List PV) (en : Env) : Res (List PV) := fmGo (cv C t1 c1 e (Ev.wipe own1 en)) l
theorem w_fCc3 {own1 : List Nat} {t1 : T} {c1 : OE} {e : E} {l : List PV} {en : Env} : fCc3 C own1 t1 c1 e l en = fmGo (fun x => cv C t1 c1 e (Ev.wipe own1 en) x) l := nrfl rfl
def fCc2 (C : Calls) (own1 : List Nat) (t1 : T) (it1 : It) (c1 : OE) (e : E) (t : Bool) (en : Env) : Res (List PV) := brA t (kE (fCc3 C own1 t1 c1 e) (evalI C it1 en)) (.ok [])
theorem w_fCc2 {own1 : List Nat} {t1 : T} {it1 : It} {c1 : OE} {e : E} {t : Bool} {en : Env} : fCc2 C own1 t1 it1 c1 e t en = brA t (kE (fCc3 C own1 t1 c1 e) (evalI C it1 en)) (.ok []) := nrfl rfl
def ccK (C : Calls) (c : OE) (own1 : List Nat) (t1 : T) (it1 : It) (c1 : OE) (e : E) : Option Env → Res (List PV)
  | some en => nrK (kE (fCc2 C own1 t1 it1 c1 e) (evalC C c en))
  | none => .fail
theorem w_ccK {c : OE} {own1 : List Nat} {t1 : T} {it1 : It} {c1 : OE} {e : E} {en : Env} : ccK C c own1 t1 it1 c1 e (some en) = nrK (kE (fCc2 C own1 t1 it1 c1 e) (evalC C c en)) := nrfl rfl
def cc (C : Calls) (tg : T) (c : OE) (own1 : List Nat) (t1 : T) (it1 : It) (c1 : OE) (e : E) (en : Env) (x : PV) : Res (List PV) := ccK C c own1 t1 it1 c1 e (assign tg x en)
theorem w_cc {tg : T} {c : OE} {own1 : List Nat} {t1 : T} {it1 : It} {c1 : OE} {e : E} {en : Env} {x : PV} : cc C tg c own1 t1 it1 c1 e en x = ccK C c own1 t1 it1 c1 e (assign tg x en) := nrfl rfl
theorem catGo_fm {f : PV → Env → Res (List PV × Env)} {env : Env} (h : ∀ x, Same (f x env) env) {l : List PV} : catGo f l env = (fmCat (fun x => fst' (f x env)) l).bind fun r => .ok (r, env) := by
  induction l with
  | nil => rfl
  | cons x l ih =>
    unfold catGo fmCat
    cases e1 : f x env with
    | ok p =>
      obtain ⟨y, en1⟩ := p
      have := h x y en1 e1
      subst this
      show (catGo f l en1).bind _ = ((fmCat _ l).bind _).bind _
      rw [ih]
      cases fmCat (fun x => fst' (f x en1)) l with
      | ok r => rfl
      | raise c a e => rfl
      | fail => rfl
    | raise c a e => rfl
    | fail => rfl
theorem cbody2_fst {own own1 : List Nat} {tg t1 : T} {it1 : It} {c c1 : OE} {e : E} {x : PV} {en : Env} (h2 : ∀ en, Same (evalE C e en) en) (h5 : ∀ en, Same (evalC C c1 en) en) (h6 : (tgs t1).all (own1.contains ·) = true) :
    fst' (cbody2 C own tg c own1 t1 it1 c1 e x en) = cc C tg c own1 t1 it1 c1 e en x := by
  unfold cbody2 cc ccK
  cases e1 : assign tg x en with
  | none => rfl
  | some en1 =>
    show fst' ((evalC C c en1).bind _).nr = nrK (kE (fCc2 C own1 t1 it1 c1 e) (evalC C c en1))
    cases e2 : evalC C c en1 with
    | ok p =>
      obtain ⟨t, en2⟩ := p
      cases t with
      | true =>
        show fst' ((evalI C it1 en2).bind _).nr = nrK (kE (fCc3 C own1 t1 c1 e) (evalI C it1 en2))
        cases evalI C it1 en2 with
        | ok q =>
          obtain ⟨l, en3⟩ := q
          show fst' ((compGo (cbody C own1 t1 c1 e) l (Ev.wipe own1 en3)).bind _).nr = nrK (fmGo (cv C t1 c1 e (Ev.wipe own1 en3)) l)
          rw [compGo_fm fun x => cbody_same h5 h2 h6]
          have ee : (fun x => fst' (cbody C own1 t1 c1 e x (Ev.wipe own1 en3))) = cv C t1 c1 e (Ev.wipe own1 en3) := by
            funext x; exact cbody_fst
          rw [ee]
          cases fmGo (cv C t1 c1 e (Ev.wipe own1 en3)) l <;> rfl
        | raise c a e => rfl
        | fail => rfl
      | false => rfl
    | raise c a e => rfl
    | fail => rfl
def fComp2P (C : Calls) (own : List Nat) (tg : T) (c : OE) (own1 : List Nat) (t1 : T) (it1 : It) (c1 : OE) (e : E) (l : List PV) (en : Env) : Res (PV × Env) := kQ en (fmCat (cc C tg c own1 t1 it1 c1 e (Ev.wipe own en)) l)
theorem w_fComp2P {own : List Nat} {tg : T} {c : OE} {own1 : List Nat} {t1 : T} {it1 : It} {c1 : OE} {e : E} {l : List PV} {en : Env} : fComp2P C own tg c own1 t1 it1 c1 e l en = kQ en (fmCat (fun x => cc C tg c own1 t1 it1 c1 e (Ev.wipe own en) x) l) := nrfl rfl
theorem w_comp2 {own own1 : List Nat} {tg t1 : T} {it it1 : It} {c c1 : OE} {e : E} {env : Env} (h : (pureO c && pureE e && (tgs tg).all (own.contains ·) && pureI it1 && pureO c1 && (tgs t1).all (own1.contains ·) && own1.all (own.contains ·)) = true) :
    evalE C (.comp2 own tg it c own1 t1 it1 c1 e) env = kE (fComp2P C own tg c own1 t1 it1 c1 e) (evalI C it env) := by
  have h7 := Bool.and_eq_true_iff.mp h
  have h6 := Bool.and_eq_true_iff.mp h7.1
  have h5 := Bool.and_eq_true_iff.mp h6.1
  have h4 := Bool.and_eq_true_iff.mp h5.1
  have h3 := Bool.and_eq_true_iff.mp h4.1
  have h2 := Bool.and_eq_true_iff.mp h3.1
  rw [comp2_frame]
  congr 1
  funext l en
  unfold fComp2 fComp2P
  rw [catGo_fm fun x => cbody2_same (fun en => pure_C h2.1) (fun en => pure_E h2.2) h3.2 (fun en => pure_I h4.2) (fun en => pure_C h5.2) h6.2 h7.2]
  have ee : (fun x => fst' (cbody2 C own tg c own1 t1 it1 c1 e x (Ev.wipe own en))) = cc C tg c own1 t1 it1 c1 e (Ev.wipe own en) := by
    funext x; exact cbody2_fst (fun en => pure_E h2.2) (fun en => pure_C h5.2) h6.2
  rw [ee]
  cases fmCat (cc C tg c own1 t1 it1 c1 e (Ev.wipe own en)) l with
  | ok r =>
    show (if r.length ≤ sizeLine then Res.ok (PV.lst r, restore own en (Ev.wipe own en)) else .fail) = _
    rw [restore_wipe]; rfl
  | raise c a e => rfl
  | fail => rfl
/-! ### ranges -/
def rg0 (n : Nat) : List PV := (List.range n).map fun i : Nat => .int i
def rgA (a : Int) (n : Nat) : List PV := (List.range n).map fun i : Nat => .int (a + i)
theorem w_fmrg0 {f : PV → Res (Option PV)} {n : Nat} : fmGo f (rg0 n) = fmR n fun i _ => f (.int i) := by
  unfold rg0 fmR; rw [w_fmmap]
theorem w_fmrgA {f : PV → Res (Option PV)} {a : Int} {n : Nat} : fmGo f (rgA a n) = fmR n fun i _ => f (.int (a + i)) := by
  unfold rgA fmR; rw [w_fmmap]
theorem w_fcrg0 {f : PV → Res (List PV)} {n : Nat} : fmCat f (rg0 n) = fcR n fun i _ => f (.int i) := by
  unfold rg0 fcR; rw [w_fcmap]
theorem w_fcrgA {f : PV → Res (List PV)} {a : Int} {n : Nat} : fmCat f (rgA a n) = fcR n fun i _ => f (.int (a + i)) := by
  unfold rgA fcR; rw [w_fcmap]
/-! ### loops -/
/-- a for loop: I holds ahead of each turn; Q of the end -/
theorem forX_rule {α : Type} {t : T} {b : Ss} {l : List α} {f : α → PV} {en : Env} {Q : Out → Prop} (I : Nat → Env → Prop) (h0 : I 0 en)
    (hs : ∀ j x en, l[j]? = some x → I j en → ∃ en1, assign t (f x) en = some en1 ∧ ((∃ en', (evalSs C W b en1 = .nx en' ∨ evalSs C W b en1 = .ct en') ∧ I (j + 1) en') ∨ (∃ en', evalSs C W b en1 = .bk en' ∧ Q (.nx en')) ∨ (∃ v en', evalSs C W b en1 = .rt v en' ∧ Q (.rt v en')) ∨ (∃ c a en', evalSs C W b en1 = .raise c a en' ∧ Q (.raise c a en'))))
    (he : ∀ en', I l.length en' → Q (.nx en')) : Q (forX C W t b (l.map f) en) := by
  unfold forX
  induction l generalizing en I with
  | nil => exact he en h0
  | cons x l ih =>
    obtain ⟨en1, e1, h⟩ := hs 0 x en rfl h0
    rw [List.map_cons]
    show Q (match (ofO (assign t (f x) en)).out fun en1 => evalSs C W b en1 with
      | .nx e => forGo _ (l.map f) e
      | .ct e => forGo _ (l.map f) e
      | .bk e => .nx e
      | o => o)
    rw [e1]
    show Q (match evalSs C W b en1 with
      | .nx e => forGo _ (l.map f) e
      | .ct e => forGo _ (l.map f) e
      | .bk e => .nx e
      | o => o)
    rcases h with ⟨en', h | h, i⟩ | ⟨en', h, q⟩ | ⟨v, en', h, q⟩ | ⟨c, a, en', h, q⟩
    · rw [h]; exact ih (fun j en => I (j + 1) en) i (fun j y en hy hi => hs (j + 1) y en hy hi) he
    · rw [h]; exact ih (fun j en => I (j + 1) en) i (fun j y en hy hi => hs (j + 1) y en hy hi) he
    · rw [h]; exact q
    · rw [h]; exact q
    · rw [h]; exact q
/-- the same over the first items: turns without an end ahead -/
theorem forX_inv {α : Type} {t : T} {b : Ss} {l : List α} {f : α → PV} {en : Env} (I : Nat → Env → Prop) (h0 : I 0 en)
    (hs : ∀ j x en, l[j]? = some x → I j en → ∃ en1, assign t (f x) en = some en1 ∧ ∃ en', (evalSs C W b en1 = .nx en' ∨ evalSs C W b en1 = .ct en') ∧ I (j + 1) en') : ∃ en', forX C W t b (l.map f) en = .nx en' ∧ I l.length en' :=
  forX_rule (Q := fun o => ∃ en', o = .nx en' ∧ I l.length en') I h0 (fun j x en hx hi => by
    obtain ⟨en1, e1, en', h, i⟩ := hs j x en hx hi
    exact ⟨en1, e1, .inl ⟨en', h, i⟩⟩) fun en' i => ⟨en', rfl, i⟩
/-- a state st goes through the turns -/
theorem forX_fold {α σ : Type} {t : T} {b : Ss} {l : List α} {f : α → PV} (st : σ → PV → Env) (step : σ → α → σ) (S : Nat → σ → Prop) {s : σ} {j0 : PV} {Q : Out → Prop} (h0 : S 0 s)
    (hs : ∀ j x s z, l[j]? = some x → S j s → ∃ en1, assign t (f x) (st s z) = some en1 ∧ ∃ z', (evalSs C W b en1 = .nx (st (step s x) z') ∨ evalSs C W b en1 = .ct (st (step s x) z')) ∧ S (j + 1) (step s x))
    (he : ∀ z, S l.length (l.foldl step s) → Q (.nx (st (l.foldl step s) z))) : Q (forX C W t b (l.map f) (st s j0)) := by
  unfold forX
  induction l generalizing s j0 S with
  | nil => exact he j0 h0
  | cons x l ih =>
    obtain ⟨en1, e1, z', h, i⟩ := hs 0 x s j0 rfl h0
    rw [List.map_cons]
    show Q (match (ofO (assign t (f x) (st s j0))).out fun en1 => evalSs C W b en1 with
      | .nx e => forGo _ (l.map f) e
      | .ct e => forGo _ (l.map f) e
      | .bk e => .nx e
      | o => o)
    rw [e1]
    show Q (match evalSs C W b en1 with
      | .nx e => forGo _ (l.map f) e
      | .ct e => forGo _ (l.map f) e
      | .bk e => .nx e
      | o => o)
    rcases h with h | h <;> (rw [h]; exact ih (fun j s => S (j + 1) s) i (fun j y s z hy hi => hs (j + 1) y s z hy hi) he)
theorem whlX_rule {c : E} {b : Ss} {Q : Out → Prop} (I : Nat → Env → Prop)
    (hs : ∀ k en, I k en → ∃ v t en1, evalE C c en = .ok (v, en1) ∧ truth v = some t ∧ if t = true then ((∃ en' k', (evalSs C W b en1 = .nx en' ∨ evalSs C W b en1 = .ct en') ∧ k' < k ∧ I k' en') ∨ (∃ en', evalSs C W b en1 = .bk en' ∧ Q (.nx en')) ∨ (∃ v en', evalSs C W b en1 = .rt v en' ∧ Q (.rt v en')) ∨ (∃ c a en', evalSs C W b en1 = .raise c a en' ∧ Q (.raise c a en'))) else Q (.nx en1)) :
    ∀ {m k : Nat} {en : Env}, I k en → k < m → Q (whlX C W c b m en) := by
  intro m
  induction m with
  | zero => intro k en _ h; omega
  | succ m ih =>
    intro k en hi hk
    obtain ⟨v, t, en1, e1, e2, h⟩ := hs k en hi
    show Q ((evalE C c en).out fun r => (ofO (truth r.1)).out fun t => if t = true then match evalSs C W b r.2 with
      | .nx e => whlX C W c b m e
      | .ct e => whlX C W c b m e
      | .bk e => .nx e
      | o => o else .nx r.2)
    rw [e1]
    show Q ((ofO (truth v)).out fun t => if t = true then match evalSs C W b en1 with
      | .nx e => whlX C W c b m e
      | .ct e => whlX C W c b m e
      | .bk e => .nx e
      | o => o else .nx en1)
    rw [e2]
    show Q (if t = true then _ else _)
    cases t with
    | false => simpa using h
    | true =>
      simp only [if_true] at h ⊢
      rcases h with ⟨en', k', h | h, hk', i⟩ | ⟨en', h, q⟩ | ⟨v, en', h, q⟩ | ⟨c, a, en', h, q⟩
      · rw [h]; exact ih i (by omega)
      · rw [h]; exact ih i (by omega)
      · rw [h]; exact q
      · rw [h]; exact q
      · rw [h]; exact q
end Ev

/-! EvW4: typed values. -/
namespace Ev
open PySem
variable {W : Nat} {P : List Def} {C : Calls}
/-! ### forks that are decided -/
theorem w_decT : decide True = true := nrfl rfl
theorem w_decF : decide False = false := nrfl rfl
theorem w_nT : (!true) = false := nrfl rfl
theorem w_nF : (!false) = true := nrfl rfl
theorem w_aT {b : Bool} : (true && b) = b := nrfl rfl
theorem w_aF {b : Bool} : (false && b) = false := nrfl rfl
theorem w_oT {b : Bool} : (true || b) = true := nrfl rfl
theorem w_oF {b : Bool} : (false || b) = b := nrfl rfl
theorem w_aT' {b : Bool} : (b && true) = b := by cases b <;> rfl
theorem w_aF' {b : Bool} : (b && false) = false := by cases b <;> rfl
theorem w_oT' {b : Bool} : (b || true) = true := by cases b <;> rfl
theorem w_oF' {b : Bool} : (b || false) = b := by cases b <;> rfl
theorem w_bb1 {p q : Bool} : brA p q false = (p && q) := by cases p <;> rfl
theorem w_bb2 {p q : Bool} : brA p true q = (p || q) := by cases p <;> rfl
theorem w_bb3 {p q : Bool} : brA p q p = (p && q) := by cases p <;> rfl
theorem w_bb4 {p q : Bool} : brA p p q = (p || q) := by cases p <;> rfl
theorem w_dand {p q : Prop} [Decidable p] [Decidable q] : (decide p && decide q) = decide (p ∧ q) := by simp
theorem w_dor {p q : Prop} [Decidable p] [Decidable q] : (decide p || decide q) = decide (p ∨ q) := by simp
theorem w_dnot {p : Prop} [Decidable p] : (!decide p) = decide (¬ p) := by simp
theorem w_isE {α : Type} {l : List α} : l.isEmpty = decide (l.length = 0) := by cases l <;> rfl
theorem w_forkP {a b : Ss} {p : Prop} [Decidable p] {en : Env} (h : p) : forkS C W a b (some (decide p)) en = evalSs C W a en := by rw [decide_eq_true h]; rfl
theorem w_forkN {a b : Ss} {p : Prop} [Decidable p] {en : Env} (h : ¬ p) : forkS C W a b (some (decide p)) en = evalSs C W b en := by rw [decide_eq_false h]; rfl
theorem w_brP {α : Type} {x y : α} {p : Prop} [Decidable p] (h : p) : brA (decide p) x y = x := by rw [decide_eq_true h]; rfl
theorem w_brN {α : Type} {x y : α} {p : Prop} [Decidable p] (h : ¬ p) : brA (decide p) x y = y := by rw [decide_eq_false h]; rfl
theorem fork_pos {a b : Ss} {p : Prop} [Decidable p] {en : Env} : forkS C W a b (some (decide p)) en = if p then evalSs C W a en else evalSs C W b en := by
  by_cases h : p
  · rw [w_forkP h, if_pos h]
  · rw [w_forkN h, if_neg h]
/-! ### truth, kinds -/
theorem w_tb {b : Bool} : truth (.bl b) = some b := nrfl rfl
theorem w_ti {i : Int} : truth (.int i) = some (decide (¬ i = 0)) := by
  show some (i != 0) = _
  congr 1
  by_cases h : i = 0 <;> simp [h]
theorem w_tl {l : List PV} : truth (.lst l) = some (decide (¬ l.length = 0)) := by
  show some (!l.isEmpty) = _
  rw [w_isE, w_dnot]
theorem w_tt {l : List PV} : truth (.tup l) = some (decide (¬ l.length = 0)) := by
  show some (!l.isEmpty) = _
  rw [w_isE, w_dnot]
theorem w_tn : truth .non = some false := nrfl rfl
theorem w_ii {i : Int} {t : Ty} : isinst (.int i) t = some (t == .int) := isi_int
theorem w_it {l : List PV} {t : Ty} : isinst (.tup l) t = some (t == .tuple) := isi_tup
theorem w_il {l : List PV} {t : Ty} : isinst (.lst l) t = some (t == .list) := by cases t <;> rfl
theorem w_is {s : Str} {t : Ty} : isinst (.str s) t = some (t == .str) := by cases t <;> rfl
theorem w_ib {b : Bool} {t : Ty} : isinst (.bl b) t = some (t == .int || t == .bool) := by cases t <;> rfl
theorem w_in {t : Ty} : isinst .non t = some false := by cases t <;> rfl
theorem w_ivi {p : PV} (h : p.vl = true) : isinst p .int = some (isI p || isB p) := isi_i h
theorem w_ivb {p : PV} (h : p.vl = true) : isinst p .bool = some (isB p) := isi_b h
theorem w_ivt {p : PV} (h : p.vl = true) : isinst p .tuple = some (isT p) := isi_t h
theorem w_y1 : (Ty.int == Ty.int) = true := by decide
theorem w_y2 : (Ty.int == Ty.bool) = false := by decide
theorem w_y3 : (Ty.tuple == Ty.int) = false := by decide
theorem w_y4 : (Ty.tuple == Ty.bool) = false := by decide
theorem w_y5 : (Ty.str == Ty.int) = false := by decide
theorem w_y6 : (Ty.str == Ty.bool) = false := by decide
theorem w_y7 : (Ty.list == Ty.int) = false := by decide
theorem w_y8 : (Ty.int == Ty.tuple) = false := by decide
theorem w_y9 : (Ty.str == Ty.tuple) = false := by decide
theorem w_y10 : (Ty.int == Ty.str) = false := by decide
theorem w_y11 : (Ty.tuple == Ty.str) = false := by decide
theorem w_y12 : (Ty.list == Ty.tuple) = false := by decide
theorem w_y13 : (Ty.tuple == Ty.list) = false := by decide
theorem w_y14 : (Ty.bool == Ty.tuple) = false := by decide
theorem w_y15 : (Ty.bool == Ty.str) = false := by decide
theorem w_y16 : (Ty.tuple == Ty.tuple) = true := by decide
theorem w_y17 : (Ty.str == Ty.str) = true := by decide
theorem w_y18 : (Ty.bool == Ty.bool) = true := by decide
theorem w_y19 : (Ty.bool == Ty.int) = false := by decide
theorem w_st {l : List PV} : seqOf (.tup l) = some l := nrfl rfl
theorem w_sll {l : List PV} : seqOf (.lst l) = some l := nrfl rfl
theorem w_sc {l : List PV} : seqOf (.scr l) = some l := nrfl rfl
/-! ### numbers -/
theorem w_add {i j : Int} : binop .Add (.int i) (.int j) = some (.int (i + j)) := nrfl rfl
theorem w_sub {i j : Int} : binop .Sub (.int i) (.int j) = some (.int (i - j)) := nrfl rfl
theorem w_mul {i j : Int} (h : -(2 ^ 64) < i ∧ i < 2 ^ 64) : binop .Mult (.int i) (.int j) = some (.int (i * j)) := by
  show (if mulOk i j = true then some (PV.int (i * j)) else none) = _
  rw [if_pos]
  unfold mulOk
  simp only [Bool.or_eq_true, Bool.and_eq_true, decide_eq_true_eq]
  exact .inr h
theorem w_mul' {i j : Int} (h : -(2 ^ 64) < j ∧ j < 2 ^ 64) : binop .Mult (.int i) (.int j) = some (.int (i * j)) := by
  show (if mulOk i j = true then some (PV.int (i * j)) else none) = _
  rw [if_pos]
  unfold mulOk
  simp only [Bool.or_eq_true, Bool.and_eq_true, decide_eq_true_eq]
  exact .inl (.inr h)
theorem w_mod {i j : Int} (h : 0 < j) : binop .Mod (.int i) (.int j) = some (.int (i % j)) := by
  show (if j ≠ 0 then some (PV.int (i.fmod j)) else none) = _
  rw [if_pos (by omega), Int.fmod_eq_emod_of_nonneg _ (by omega)]
theorem w_fdiv {i j : Int} (h : 0 < j) (h1 : j < 1073741824) : binop .FloorDiv (.int i) (.int j) = some (.int (i / j)) := by
  rw [fdiv_c h h1, Int.fdiv_eq_ediv_of_nonneg _ (by omega)]
theorem w_auga {i j : Int} : augop .Add (.int i) (.int j) = some (.int (i + j)) := nrfl rfl
theorem w_augs {i j : Int} : augop .Sub (.int i) (.int j) = some (.int (i - j)) := nrfl rfl
theorem w_augd {i j : Int} (h : 0 < j) (h1 : j < 1073741824) : augop .FloorDiv (.int i) (.int j) = some (.int (i / j)) := if_pos ⟨h, h1⟩
theorem w_augt {l r : List PV} (h : l.length + r.length ≤ 1000000) : augop .Add (.tup l) (.tup r) = some (.tup (l ++ r)) := if_pos (by rw [sizeLine_eq]; omega)
theorem w_lt {i j : Int} : cmpop .Lt (.int i) (.int j) = some (decide (i < j)) := nrfl rfl
theorem w_le {i j : Int} : cmpop .LtE (.int i) (.int j) = some (decide (i ≤ j)) := nrfl rfl
theorem w_gt {i j : Int} : cmpop .Gt (.int i) (.int j) = some (decide (j < i)) := nrfl rfl
theorem w_ge {i j : Int} : cmpop .GtE (.int i) (.int j) = some (decide (j ≤ i)) := nrfl rfl
theorem w_eq {i j : Int} : cmpop .Eq (.int i) (.int j) = some (decide (i = j)) := cmp_eqi
theorem w_ne {i j : Int} : cmpop .NotEq (.int i) (.int j) = some (decide (¬ i = j)) := by rw [cmp_nei, w_dnot]
theorem w_eqs {s t : Str} : cmpop .Eq (.str s) (.str t) = some (decide (s = t)) := nrfl rfl
theorem w_nes {s t : Str} : cmpop .NotEq (.str s) (.str t) = some (decide (¬ s = t)) := by
  show some (!decide (s = t)) = _
  rw [w_dnot]
theorem w_isn1 : cmpop .Is .non .non = some true := nrfl rfl
theorem w_isn2 {i : Int} : cmpop .Is (.int i) .non = some false := nrfl rfl
theorem w_isn3 {l : List PV} : cmpop .Is (.tup l) .non = some false := nrfl rfl
theorem w_isn4 {l : List PV} : cmpop .Is (.lst l) .non = some false := nrfl rfl
theorem w_isn5 {s : Str} : cmpop .Is (.str s) .non = some false := nrfl rfl
theorem w_isn6 : cmpop .IsNot .non .non = some false := nrfl rfl
theorem w_isn7 {i : Int} : cmpop .IsNot (.int i) .non = some true := nrfl rfl
theorem w_isn8 {l : List PV} : cmpop .IsNot (.tup l) .non = some true := nrfl rfl
theorem w_isn9 {l : List PV} : cmpop .IsNot (.lst l) .non = some true := nrfl rfl
theorem w_isn10 {s : Str} : cmpop .IsNot (.str s) .non = some true := nrfl rfl
theorem w_abs {i : Int} : evalB .abs [.int i] = some (.int (ab i)) := nrfl rfl
theorem w_int {i : Int} : evalB .int [.int i] = some (.int i) := nrfl rfl
theorem w_lent {l : List PV} : evalB .len [.tup l] = some (.int l.length) := nrfl rfl
theorem w_lenl {l : List PV} : evalB .len [.lst l] = some (.int l.length) := nrfl rfl
theorem w_tupl {l : List PV} : evalB .tuple [.lst l] = some (.tup l) := nrfl rfl
theorem w_tupt {l : List PV} : evalB .tuple [.tup l] = some (.tup l) := nrfl rfl
theorem w_lisl {l : List PV} : evalB .list [.lst l] = some (.lst l) := nrfl rfl
theorem w_list {l : List PV} : evalB .list [.tup l] = some (.lst l) := nrfl rfl
theorem w_lisc {l : List PV} : evalB .list [.scr l] = some (.lst l) := nrfl rfl
theorem w_min2 {i j : Int} : evalB .min [.int i, .int j] = some (.int (min i j)) := by
  show some (PV.int (if j < i then j else i)) = _
  congr 2; omega
theorem w_max2 {i j : Int} : evalB .max [.int i, .int j] = some (.int (max i j)) := by
  show some (PV.int (if j > i then j else i)) = _
  congr 2; omega
theorem w_sum {l : List Int} : evalB .sum [.lst (l.map .int)] = some (.int l.sum) := blt_sum_map l
theorem w_all {α : Type} {l : List α} {g : α → Bool} : evalB .all [.lst ((l.map g).map .bl)] = some (.bl (l.all g)) := by
  rw [blt_all_map, List.all_map]; rfl
theorem blt_any_map (l : List Bool) : evalB .any [.lst (l.map .bl)] = some (.bl (l.any id)) := by
  show (asBlsP (l.map .bl)).map _ = _
  rw [asBlsP_map]; rfl
theorem w_any {α : Type} {l : List α} {g : α → Bool} : evalB .any [.lst ((l.map g).map .bl)] = some (.bl (l.any g)) := by
  rw [blt_any_map, List.any_map]; rfl
theorem w_lenm {α β : Type} {l : List α} {f : α → β} : (l.map f).length = l.length := List.length_map ..
theorem w_len0 {α : Type} : ([] : List α).length = 0 := nrfl rfl
theorem w_lenc {α : Type} {x : α} {l : List α} : (x :: l).length = l.length + 1 := nrfl rfl
theorem w_lena {α : Type} {l r : List α} : (l ++ r).length = l.length + r.length := List.length_append
theorem w_lenr {n : Nat} : (List.range n).length = n := List.length_range
/-! ### places -/
theorem w_i0 {x : PV} {l : List PV} : index (.tup (x :: l)) (.int 0) = some x := by
  show atI (x :: l) 0 = _
  unfold atI Ev.ixN
  rw [if_pos (by omega), if_pos (by simp only [List.length_cons]; omega)]; rfl
theorem w_i1 {x y : PV} {l : List PV} : index (.tup (x :: y :: l)) (.int 1) = some y := by
  show atI (x :: y :: l) 1 = _
  unfold atI Ev.ixN
  rw [if_pos (by omega), if_pos (by simp only [List.length_cons]; omega)]; rfl
theorem w_i2 {x y z : PV} {l : List PV} : index (.tup (x :: y :: z :: l)) (.int 2) = some z := by
  show atI (x :: y :: z :: l) 2 = _
  unfold atI Ev.ixN
  rw [if_pos (by omega), if_pos (by simp only [List.length_cons]; omega)]; rfl
theorem w_i3 {x y z u : PV} {l : List PV} : index (.tup (x :: y :: z :: u :: l)) (.int 3) = some u := by
  show atI (x :: y :: z :: u :: l) 3 = _
  unfold atI Ev.ixN
  rw [if_pos (by omega), if_pos (by simp only [List.length_cons]; omega)]; rfl
theorem w_j0 {x : PV} {l : List PV} : index (.lst (x :: l)) (.int 0) = some x := w_i0
theorem w_j1 {x y : PV} {l : List PV} : index (.lst (x :: y :: l)) (.int 1) = some y := w_i1
theorem w_j2 {x y z : PV} {l : List PV} : index (.lst (x :: y :: z :: l)) (.int 2) = some z := w_i2
theorem w_j3 {x y z u : PV} {l : List PV} : index (.lst (x :: y :: z :: u :: l)) (.int 3) = some u := w_i3
theorem atI_map {α : Type} [Inhabited α] {l : List α} {f : α → PV} {i : Int} (h0 : 0 ≤ i) (h1 : i < l.length) : atI (l.map f) i = some (f (l.getD i.toNat default)) := by
  unfold atI Ev.ixN
  rw [if_pos h0, if_pos (by rw [List.length_map]; exact h1)]
  have : i.toNat < l.length := by omega
  simp [this, List.getD_eq_getElem?_getD]
theorem atI_mapn {α : Type} [Inhabited α] {l : List α} {f : α → PV} {i : Int} (h0 : i < 0) (h1 : -(l.length : Int) ≤ i) : atI (l.map f) i = some (f (l.getD (i + l.length).toNat default)) := by
  unfold atI Ev.ixN
  rw [if_neg (by omega), if_pos (by rw [List.length_map]; exact h1)]
  have : (i + l.length).toNat < l.length := by omega
  simp [this, List.getD_eq_getElem?_getD]
theorem w_ixt {α : Type} [Inhabited α] {l : List α} {f : α → PV} {i : Int} (h0 : 0 ≤ i) (h1 : i < l.length) : index (.tup (l.map f)) (.int i) = some (f (l.getD i.toNat default)) := atI_map h0 h1
theorem w_ixl {α : Type} [Inhabited α] {l : List α} {f : α → PV} {i : Int} (h0 : 0 ≤ i) (h1 : i < l.length) : index (.lst (l.map f)) (.int i) = some (f (l.getD i.toNat default)) := atI_map h0 h1
theorem w_ixnt {α : Type} [Inhabited α] {l : List α} {f : α → PV} {i : Int} (h0 : i < 0) (h1 : -(l.length : Int) ≤ i) : index (.tup (l.map f)) (.int i) = some (f (l.getD (i + l.length).toNat default)) := atI_mapn h0 h1
theorem w_ixnl {α : Type} [Inhabited α] {l : List α} {f : α → PV} {i : Int} (h0 : i < 0) (h1 : -(l.length : Int) ≤ i) : index (.lst (l.map f)) (.int i) = some (f (l.getD (i + l.length).toNat default)) := atI_mapn h0 h1
theorem w_toN {n : Nat} : ((n : Nat) : Int).toNat = n := Int.toNat_natCast n
theorem w_toN1 {n : Nat} : (((n : Nat) : Int) + 1).toNat = n + 1 := by omega
theorem w_toN2 {n : Nat} : (((n : Nat) : Int) - 1).toNat = n - 1 := by omega
theorem w_toN3 {n m : Nat} : (((n : Nat) : Int) + ((m : Nat) : Int)).toNat = n + m := by omega
theorem w_toN4 {n m : Nat} : (((n : Nat) : Int) - ((m : Nat) : Int)).toNat = n - m := by omega
theorem w_toN5 {n : Nat} : (1 + ((n : Nat) : Int)).toNat = n + 1 := by omega
theorem w_toN6 {n : Nat} : (1 + ((n : Nat) : Int) - 1).toNat = n := by omega
theorem w_toN7 {n : Nat} : (-1 + ((n : Nat) : Int)).toNat = n - 1 := by omega
theorem w_toN8 {n : Nat} : (((n : Nat) : Int) - 2).toNat = n - 2 := by omega
theorem cut_map {α β : Type} {l : List α} {f : α → β} {a b : Option Int} : cut (l.map f) a b = (cut l a b).map f := by
  unfold cut
  rw [List.length_map, List.map_take, List.map_drop]
theorem w_slt {α : Type} {l : List α} {f : α → PV} {a b : Option Int} : slice (.tup (l.map f)) a b = some (.tup ((cut l a b).map f)) := by
  show some (PV.tup (cut (l.map f) a b)) = _
  rw [cut_map]
theorem w_sllm {α : Type} {l : List α} {f : α → PV} {a b : Option Int} : slice (.lst (l.map f)) a b = some (.lst ((cut l a b).map f)) := by
  show some (PV.lst (cut (l.map f) a b)) = _
  rw [cut_map]
theorem w_cut1 {α : Type} {l : List α} {a : Int} (h : 0 ≤ a) : cut l (some a) none = l.drop a.toNat := by
  unfold cut
  show (l.drop (if a < 0 then _ else min a.toNat l.length)).take (l.length - (if a < 0 then _ else min a.toNat l.length)) = _
  rw [if_neg (by omega)]
  by_cases h1 : a.toNat ≤ l.length
  · rw [Nat.min_eq_left h1, List.take_of_length_le (by simp)]
  · rw [Nat.min_eq_right (by omega), List.drop_of_length_le (by omega), List.drop_of_length_le (by omega)]; simp
theorem w_cut2 {α : Type} {l : List α} {b : Int} (h : 0 ≤ b) : cut l none (some b) = l.take b.toNat := by
  unfold cut
  show (l.drop 0).take ((if b < 0 then _ else min b.toNat l.length) - 0) = _
  rw [if_neg (by omega), List.drop_zero, Nat.sub_zero]
  by_cases h1 : b.toNat ≤ l.length
  · rw [Nat.min_eq_left h1]
  · rw [Nat.min_eq_right (by omega), List.take_of_length_le (by omega), List.take_of_length_le (by omega)]
theorem w_cut3 {α : Type} {l : List α} {a b : Int} (h : 0 ≤ a) (h1 : 0 ≤ b) : cut l (some a) (some b) = (l.drop a.toNat).take (b.toNat - a.toNat) := by
  unfold cut
  show (l.drop (if a < 0 then _ else min a.toNat l.length)).take ((if b < 0 then _ else min b.toNat l.length) - (if a < 0 then _ else min a.toNat l.length)) = _
  rw [if_neg (by omega), if_neg (by omega)]
  by_cases h2 : a.toNat ≤ l.length
  · rw [Nat.min_eq_left h2]
    by_cases h3 : b.toNat ≤ l.length
    · rw [Nat.min_eq_left h3]
    · rw [Nat.min_eq_right (show l.length ≤ b.toNat by omega), List.take_of_length_le (by simp), List.take_of_length_le (by simp; omega)]
  · rw [Nat.min_eq_right (show l.length ≤ a.toNat by omega), List.drop_of_length_le (Nat.le_refl _), List.drop_of_length_le (show l.length ≤ a.toNat by omega)]; simp
theorem w_rng1 {j : Int} (h0 : -1000000 ≤ j) (h : j ≤ 1000000) : ranges [.int j] = some (rg0 j.toNat) := by
  show (if small62 j = true then some (rng 0 j.toNat) else none) = _
  rw [if_pos (sm62 h0 h), rng0]; rfl
theorem w_rng2 {i j : Int} (h : -1000000 ≤ i) (h1 : i ≤ 1000000) (h2 : -1000000 ≤ j) (h3 : j ≤ 1000000) : ranges [.int i, .int j] = some (rgA i (j - i).toNat) := by
  rw [ranges2 h h1 h2 h3]
  congr 1
  unfold rgA
  apply List.ext_getElem?
  intro k
  by_cases hk : k < (j - i).toNat
  · rw [rng_get hk]; simp [hk]
  · rw [List.getElem?_eq_none (by rw [rng_len]; omega), List.getElem?_eq_none (by simp; omega)]
theorem pairs_map {α : Type} {l : List α} {f : α → PV} {n : Nat} : pairs n (l.map f) = (l.zipIdx n).map fun p => .tup [.int (p.2 : Nat), f p.1] := by
  induction l generalizing n with
  | nil => rfl
  | cons x l ih =>
    rw [List.map_cons, List.zipIdx_cons, List.map_cons, ← ih]
    rfl
theorem w_enum {α : Type} {l : List α} {f : α → PV} : enumOf (.tup (l.map f)) = some (l.zipIdx.map fun p => .tup [.int (p.2 : Nat), f p.1]) := by
  show some (pairs (0 : Nat) (l.map f)) = _
  rw [pairs_map]
theorem w_enuml {α : Type} {l : List α} {f : α → PV} : enumOf (.lst (l.map f)) = some (l.zipIdx.map fun p => .tup [.int (p.2 : Nat), f p.1]) := w_enum
theorem zips_mapG {α β : Type} (a : List α) (b : List β) (f : α → PV) (g : β → PV) : zips (a.map f) (b.map g) = (a.zip b).map fun p => .tup [f p.1, g p.2] := by
  induction a generalizing b with
  | nil => rfl
  | cons x a ih => cases b with
    | nil => rfl
    | cons y b => simp [zips, ih]
theorem w_zip {α β : Type} {a : List α} {b : List β} {f : α → PV} {g : β → PV} : zip2 (.tup (a.map f)) (.tup (b.map g)) = some ((a.zip b).map fun p => .tup [f p.1, g p.2]) := by
  show some (zips _ _) = _
  rw [zips_mapG]
/-! ### joined -/
theorem w_addt {l r : List PV} (h : l.length + r.length ≤ 1000000) : binop .Add (.tup l) (.tup r) = some (.tup (l ++ r)) := if_pos (by rw [sizeLine_eq]; omega)
theorem w_addl {l r : List PV} (h : l.length + r.length ≤ 1000000) : binop .Add (.lst l) (.lst r) = some (.lst (l ++ r)) := if_pos (by rw [sizeLine_eq]; omega)
theorem w_adds {l r : Str} (h : l.length + r.length ≤ 1000000) : binop .Add (.str l) (.str r) = some (.str (l ++ r)) := if_pos (by rw [sizeLine_eq]; omega)
theorem w_mapa {α β : Type} {l r : List α} {f : α → β} : l.map f ++ r.map f = (l ++ r).map f := List.map_append.symm
theorem w_appI {l : List Int} {x : Int} : l.map PV.int ++ [.int x] = (l ++ [x]).map .int := by simp
theorem w_consI {l : List Int} {x : Int} : PV.int x :: l.map .int = (x :: l).map .int := nrfl rfl
theorem w_appT {α : Type} {l : List (List α)} {x : List α} {f : α → PV} : l.map (fun y => PV.tup (y.map f)) ++ [.tup (x.map f)] = (l ++ [x]).map fun y => .tup (y.map f) := by simp
theorem w_appn {α : Type} {l : List α} : [] ++ l = l := nrfl rfl
theorem w_appn' {α : Type} {l : List α} : l ++ [] = l := List.append_nil l
theorem w_appc {α : Type} {x : α} {l r : List α} : (x :: l) ++ r = x :: (l ++ r) := nrfl rfl
theorem w_push {y : PV} {l : List PV} (h : l.length < 1000000) : pushP y l = some (.lst (l ++ [y])) := by
  unfold pushP
  rw [if_pos (by rw [sizeLine_eq]; omega)]
theorem w_setP {α : Type} {l : List α} {f : α → PV} {a : α} {i : Int} (h0 : 0 ≤ i) (h1 : i < l.length) : setP (f a) (.int i) (l.map f) = some (.lst ((l.set i.toNat a).map f)) := by
  show (ixN (l.map f).length i).map (fun j => PV.lst ((l.map f).set j (f a))) = _
  unfold Ev.ixN
  rw [if_pos h0, if_pos (by rw [List.length_map]; exact h1)]
  show some (PV.lst ((l.map f).set i.toNat (f a))) = _
  rw [List.map_set]
theorem w_setI {l : List Int} {a : Int} {i : Int} (h0 : 0 ≤ i) (h1 : i < l.length) : setP (.int a) (.int i) (l.map .int) = some (.lst ((l.set i.toNat a).map .int)) := w_setP h0 h1
/-! ### without lists -/
class LfE {α : Type} (f : α → PV) : Prop where
  lf : ∀ a, (f a).lf = true
theorem lfs_map {α : Type} {f : α → PV} [h : LfE f] {l : List α} : PV.lfs (l.map f) = true := by
  induction l with
  | nil => rfl
  | cons x l ih => show ((f x).lf && PV.lfs (l.map f)) = true; rw [h.lf, ih]; rfl
instance : LfE PV.int := ⟨fun _ => rfl⟩
instance : LfE PV.bl := ⟨fun _ => rfl⟩
instance : LfE PV.str := ⟨fun _ => rfl⟩
instance {α β : Type} {f : α → PV} [LfE f] {g : β → List α} : LfE (fun l => PV.tup ((g l).map f)) := ⟨fun l => lfs_map⟩
instance {α β : Type} {f : α → PV} [h : LfE f] {g : β → α} : LfE (fun l => f (g l)) := ⟨fun l => h.lf _⟩
theorem w_lfi {i : Int} : PV.lf (.int i) = true := nrfl rfl
theorem w_lfb {b : Bool} : PV.lf (.bl b) = true := nrfl rfl
theorem w_lfs' {s : Str} : PV.lf (.str s) = true := nrfl rfl
theorem w_lfn : PV.lf .non = true := nrfl rfl
theorem w_lft {l : List PV} : PV.lf (.tup l) = PV.lfs l := nrfl rfl
theorem w_lfl {l : List PV} : PV.lf (.lst l) = false := nrfl rfl
theorem w_lfv {p : PV} (h : p.vl = true) : PV.lf p = true := vl_lf p h
theorem w_lfs0 : PV.lfs [] = true := nrfl rfl
theorem w_lfsc {x : PV} {l : List PV} : PV.lfs (x :: l) = (x.lf && PV.lfs l) := nrfl rfl
theorem w_lfm {α : Type} {f : α → PV} [LfE f] {l : List α} : PV.lfs (l.map f) = true := lfs_map
/-! ### equal -/
class EncE {α : Type} (f : α → PV) (dp : outParam Nat) : Prop where
  eqv : ∀ a b, PyData.eqv (f a).pd (f b).pd = true ↔ a = b
  data : ∀ a, (f a).data = true
  lay : ∀ a, (f a).pd.canLay0 = true
  dep : ∀ a, (f a).pd.depth ≤ dp
theorem eqvAll_map {α : Type} {f : α → PV} {dp : Nat} [h : EncE f dp] : ∀ {a b : List α}, PyData.eqvAll (PV.pds (a.map f)) (PV.pds (b.map f)) = true ↔ a = b
  | [], [] => by simp [PV.pds, PyData.eqvAll]
  | [], _ :: _ => by simp [PV.pds, PyData.eqvAll]
  | _ :: _, [] => by simp [PV.pds, PyData.eqvAll]
  | x :: a, y :: b => by
    have := eqvAll_map (f := f) (a := a) (b := b)
    simp [PV.pds, PyData.eqvAll, h.eqv, this]
theorem data_map {α : Type} {f : α → PV} {dp : Nat} [h : EncE f dp] : ∀ {a : List α}, PV.datas (a.map f) = true
  | [] => rfl
  | x :: a => by
    have := data_map (f := f) (a := a)
    simp [PV.datas, h.data, this]
theorem lay_map {α : Type} {f : α → PV} {dp : Nat} [h : EncE f dp] : ∀ {a : List α}, PyData.canLayAll0 (PV.pds (a.map f)) = true
  | [] => rfl
  | x :: a => by
    have := lay_map (f := f) (a := a)
    simp [PV.pds, PyData.canLayAll0, h.lay, this]
theorem dep_map {α : Type} {f : α → PV} {dp : Nat} [h : EncE f dp] : ∀ {a : List α}, PyData.depthAll (PV.pds (a.map f)) ≤ dp
  | [] => Nat.zero_le _
  | x :: a => by
    have := dep_map (f := f) (a := a)
    simp only [List.map_cons, PV.pds, PyData.depthAll]
    exact Nat.max_le.mpr ⟨h.dep x, this⟩
instance : EncE PV.int 0 := ⟨fun a b => by simp [PV.pd, PyData.eqv], fun _ => rfl, fun _ => rfl, fun _ => Nat.le_refl _⟩
instance {α : Type} {f : α → PV} {dp : Nat} [h : EncE f dp] : EncE (fun l : List α => PV.tup (l.map f)) (dp + 1) :=
  ⟨fun a b => by simp only [PV.pd, PyData.eqv]; exact eqvAll_map, fun a => by simp only [PV.data]; exact data_map, fun a => by simp only [PV.pd, PyData.canLay0]; exact lay_map, fun a => by
    simp only [PV.pd, PyData.depth]
    have := dep_map (f := f) (a := a)
    omega⟩
instance {α : Type} {f : α → PV} {dp : Nat} [h : EncE f dp] : EncE (fun l : List α => PV.lst (l.map f)) (dp + 1) :=
  ⟨fun a b => by simp only [PV.pd, PyData.eqv]; exact eqvAll_map, fun a => by simp only [PV.data]; exact data_map, fun a => by simp only [PV.pd, PyData.canLay0]; exact lay_map, fun a => by
    simp only [PV.pd, PyData.depth]
    have := dep_map (f := f) (a := a)
    omega⟩
theorem eqOk_enc {α : Type} {f : α → PV} {dp : Nat} [h : EncE f dp] (hd : dp ≤ 64) {a b : α} : eqOk (f a) (f b) = true := by
  unfold eqOk SeqAt.shaped
  have h1 := h.dep a
  have h2 := h.dep b
  simp only [h.data, h.lay, Bool.true_and, Bool.and_true, Bool.and_eq_true, decide_eq_true_eq]
  omega
theorem cmp_eqE {α : Type} [DecidableEq α] {f : α → PV} {dp : Nat} [h : EncE f dp] (hd : dp ≤ 64) {a b : α} (hs : ∀ x, f a ≠ .str x) : cmpop .Eq (f a) (f b) = some (decide (a = b)) := by
  have e : cmpop .Eq (f a) (f b) = if eqOk (f a) (f b) = true then some (PyData.eqv (f a).pd (f b).pd) else none := by
    cases e1 : f a <;> try rfl
    rename_i x
    exact absurd e1 (hs x)
  rw [e, if_pos (eqOk_enc hd)]
  congr 1
  by_cases hab : a = b
  · rw [decide_eq_true hab, (h.eqv a b).mpr hab]
  · rw [decide_eq_false hab]
    cases e2 : PyData.eqv (f a).pd (f b).pd with
    | true => exact absurd ((h.eqv a b).mp e2) hab
    | false => rfl
theorem cmp_neE {α : Type} [DecidableEq α] {f : α → PV} {dp : Nat} [h : EncE f dp] (hd : dp ≤ 64) {a b : α} (hs : ∀ x, f a ≠ .str x) : cmpop .NotEq (f a) (f b) = some (decide (¬ a = b)) := by
  have e : cmpop .NotEq (f a) (f b) = if eqOk (f a) (f b) = true then some (!PyData.eqv (f a).pd (f b).pd) else none := by
    cases e1 : f a <;> try rfl
    rename_i x
    exact absurd e1 (hs x)
  rw [e, if_pos (eqOk_enc hd)]
  congr 1
  by_cases hab : a = b
  · rw [decide_eq_false (fun h => h hab), (h.eqv a b).mpr hab]; rfl
  · rw [decide_eq_true hab]
    cases e2 : PyData.eqv (f a).pd (f b).pd with
    | true => exact absurd ((h.eqv a b).mp e2) hab
    | false => rfl
theorem w_eqT {α : Type} [DecidableEq α] {f : α → PV} {dp : Nat} [h : EncE f dp] (hd : dp ≤ 63) {a b : List α} : cmpop .Eq (.tup (a.map f)) (.tup (b.map f)) = some (decide (a = b)) := cmp_eqE (f := fun l : List α => PV.tup (l.map f)) (by omega) fun _ h => by cases h
theorem w_neT {α : Type} [DecidableEq α] {f : α → PV} {dp : Nat} [h : EncE f dp] (hd : dp ≤ 63) {a b : List α} : cmpop .NotEq (.tup (a.map f)) (.tup (b.map f)) = some (decide (¬ a = b)) := cmp_neE (f := fun l : List α => PV.tup (l.map f)) (by omega) fun _ h => by cases h
theorem w_eqL {α : Type} [DecidableEq α] {f : α → PV} {dp : Nat} [h : EncE f dp] (hd : dp ≤ 63) {a b : List α} : cmpop .Eq (.lst (a.map f)) (.lst (b.map f)) = some (decide (a = b)) := cmp_eqE (f := fun l : List α => PV.lst (l.map f)) (by omega) fun _ h => by cases h
theorem w_neL {α : Type} [DecidableEq α] {f : α → PV} {dp : Nat} [h : EncE f dp] (hd : dp ≤ 63) {a b : List α} : cmpop .NotEq (.lst (a.map f)) (.lst (b.map f)) = some (decide (¬ a = b)) := cmp_neE (f := fun l : List α => PV.lst (l.map f)) (by omega) fun _ h => by cases h
theorem inP_map {α : Type} [DecidableEq α] {f : α → PV} {dp : Nat} [h : EncE f dp] {a : α} {l : List α} : inP (f a) (l.map f) = decide (a ∈ l) := by
  unfold inP
  induction l with
  | nil => simp [PV.pds]
  | cons x l ih =>
    simp only [List.map_cons, PV.pds, List.any_cons, ih]
    by_cases hx : x = a
    · rw [(h.eqv x a).mpr hx]; simp [hx]
    · cases e2 : PyData.eqv (f x).pd (f a).pd with
      | true => exact absurd ((h.eqv x a).mp e2) hx
      | false => simp [Ne.symm hx, List.mem_cons]
theorem inOk_map {α : Type} {f : α → PV} {dp : Nat} [h : EncE f dp] (hd : dp ≤ 63) {a : α} {l : List α} : inOk (f a) (l.map f) = true := by
  unfold inOk SeqAt.shaped
  have h1 := h.dep a
  have h2 := dep_map (f := f) (a := l)
  have h3 : PyData.depth (.list (PV.pds (l.map f))) ≤ 64 := by simp only [PyData.depth]; omega
  have h4 : PyData.canLay0 (.list (PV.pds (l.map f))) = true := by simp only [PyData.canLay0]; exact lay_map
  have h5 : (f a).pd.depth ≤ 64 := by omega
  simp only [h.data, h.lay, data_map, h4, h3, h5, decide_true, Bool.and_self]
theorem w_inI {a : Int} {l : List Int} : cmpop .In (.int a) (.tup (l.map .int)) = some (decide (a ∈ l)) := by
  show (if inOk _ _ = true then some (inP _ _) else none) = _
  rw [if_pos (inOk_map (f := PV.int) (by omega)), inP_map (f := PV.int)]
theorem w_inIl {a : Int} {l : List Int} : cmpop .In (.int a) (.lst (l.map .int)) = some (decide (a ∈ l)) := by
  show (if inOk _ _ = true then some (inP _ _) else none) = _
  rw [if_pos (inOk_map (f := PV.int) (by omega)), inP_map (f := PV.int)]
theorem w_ninI {a : Int} {l : List Int} : cmpop .NotIn (.int a) (.tup (l.map .int)) = some (decide (¬ a ∈ l)) := by
  show (if inOk _ _ = true then some (!inP _ _) else none) = _
  rw [if_pos (inOk_map (f := PV.int) (by omega)), inP_map (f := PV.int), w_dnot]
theorem w_ninIl {a : Int} {l : List Int} : cmpop .NotIn (.int a) (.lst (l.map .int)) = some (decide (¬ a ∈ l)) := by
  show (if inOk _ _ = true then some (!inP _ _) else none) = _
  rw [if_pos (inOk_map (f := PV.int) (by omega)), inP_map (f := PV.int), w_dnot]
/-! ### ends of defs -/
theorem w_fr {d : Def} {v : PV} {env : Env} (h : d.br = false) : Ev.finish d (.rt v env) = .ok v .undef := fin_no h
theorem w_fn' {d : Def} {env : Env} (h : d.br = false) : Ev.finish d (.nx env) = .ok .non .undef := fin_nx h
theorem w_fx {d : Def} {c : Nat} {a : PV} {env : Env} (h : d.br = false) : Ev.finish d (.raise c a env) = .raise c a .undef := fin_raise h
theorem w_frb {d : Def} {v b : PV} {env : Env} (h : d.br = true) (hb : b ≠ .undef) : Ev.finish d (.rt v (b :: env)) = .ok v b := by
  show (if d.br = true then match b with
    | .undef => CR.fail
    | b => .ok v b else .ok v .undef) = _
  rw [if_pos h]
  cases b <;> first | rfl | exact absurd rfl hb
end Ev

local macro_rules | `(tactic| simp! [$ls,*]) => `(tactic| simp (implicitDefEqProofs := false) (disch := (first | assumption | omega | (simp only [List.length_map, List.length_range, List.length_append, List.length_cons, List.length_nil, List.length_take, List.length_drop, List.length_set, List.length_zip, List.length_zipIdx] <;> omega) | rfl | decide)) only [Ev.w_kE1, Ev.w_kE2, Ev.w_kO1, Ev.w_kO2, Ev.w_kS1, Ev.w_kS2, Ev.w_kS3, Ev.w_kS4, Ev.w_kS5, Ev.w_pk, Ev.w_pS, Ev.w_pN, Ev.w_gvx, Ev.w_gvv, Ev.w_gvi, Ev.w_gvl, Ev.w_gvt, Ev.w_gvb, Ev.w_gvs, Ev.w_gvn, Ev.w_gvf, Ev.w_gvc, Ev.w_gve, Ev.w_gD0, Ev.w_gDS, Ev.w_sD0, Ev.w_sDS, Ev.w_gL, Ev.w_brT, Ev.w_brF, Ev.w_brid, Ev.w_brand, Ev.w_bror, Ev.w_brcmp, Ev.w_brok, Ev.w_brint, Ev.w_brbl, Ev.w_brstr, Ev.w_c, Ev.w_g, Ev.w_fn, Ev.w_v, Ev.w_m, Ev.w_mv, Ev.w_fMv, Ev.w_chk, Ev.w_fChk, Ev.w_chkL, Ev.w_fChk1, Ev.w_chk1, Ev.w_bin, Ev.w_fBin1, Ev.w_fBin2, Ev.w_negP, Ev.w_fNeg, Ev.w_neg, Ev.w_notB, Ev.w_fNot, Ev.w_not, Ev.w_andK, Ev.w_fAnd, Ev.w_and, Ev.w_fOr, Ev.w_or, Ev.w_fIfe, Ev.w_ife, Ev.w_blO, Ev.w_fCmp1, Ev.w_fCmp2, Ev.w_cmp, Ev.w_fCh1, Ev.w_fCh2, Ev.w_cmp2, Ev.w_fCall, Ev.w_call, Ev.w_r1, Ev.w_r2, Ev.w_r3, Ev.w_r4, Ev.w_fRef1, Ev.w_fRef2, Ev.w_fRef3, Ev.w_callr, Ev.w_fRm2, Ev.w_fRm1, Ev.w_callrm, Ev.w_vK, Ev.w_callv, Ev.w_fBlt, Ev.w_blt, Ev.w_mthP, Ev.w_fMth2, Ev.w_mK, Ev.w_mth, Ev.w_fIsi, Ev.w_isi, Ev.w_fTup, Ev.w_tup, Ev.w_fLst, Ev.w_lst, Ev.w_fIdx2, Ev.w_fIdx1, Ev.w_idx, Ev.w_fSl3, Ev.w_fSl2, Ev.w_fSl1, Ev.w_sl, Ev.w_revl, Ev.w_revt, Ev.w_fRev, Ev.w_rev, Ev.w_isxP, Ev.w_isx, Ev.w_fldP, Ev.w_fld, Ev.w_cno, Ev.w_fCso, Ev.w_cso, Ev.w_anil, Ev.w_fA2, Ev.w_fA1, Ev.w_acons, Ev.w_intP, Ev.w_fOs, Ev.w_ono, Ev.w_oso, Ev.w_fIe, Ev.w_ie, Ev.w_lfsP, Ev.w_fIm, Ev.w_im, Ev.w_fIr, Ev.w_irng, Ev.w_fIn, Ev.w_ienum, Ev.w_zipP, Ev.w_fIz, Ev.w_izip, Ev.w_fAsg, Ev.w_asg, Ev.w_fMasg, Ev.w_masg, Ev.w_fAug2, Ev.w_fAug1, Ev.w_aug, Ev.w_fApp3, Ev.w_fApp2, Ev.w_fApp1, Ev.w_app, Ev.w_fSet4, Ev.w_fSet3, Ev.w_fSet2, Ev.w_fSet1, Ev.w_set, Ev.w_fEx, Ev.w_ex, Ev.w_fRet, Ev.w_ret, Ev.w_retn, Ev.w_forkT, Ev.w_forkF, Ev.w_fIte, Ev.w_ite, Ev.w_brk, Ev.w_cont, Ev.w_pass, Ev.w_ssnil, Ev.w_fSs, Ev.w_sscons, Ev.w_raiseK, Ev.w_fRaiseS, Ev.w_raise, Ev.w_xs, Ev.w_for, Ev.w_whl, Ev.w_form, Ev.w_hdK, Ev.w_try, Ev.w_tryK1, Ev.w_tryK2, Ev.w_tryK3, Ev.w_tryf, Ev.w_tryF1, Ev.w_tryF2, Ev.w_tryF3, Ev.w_an, Ev.w_ani, Ev.w_fAc, Ev.w_ac, Ev.w_fmnil, Ev.w_consK, Ev.w_consO1, Ev.w_consO2, Ev.w_fmcons, Ev.w_fmmap, Ev.w_fmintM, Ev.w_ffintM, Ev.w_fmintR, Ev.w_ffintR, Ev.w_fmblM, Ev.w_ffblM, Ev.w_fmblR, Ev.w_ffblR, Ev.w_fmstrM, Ev.w_ffstrM, Ev.w_fmstrR, Ev.w_ffstrR, Ev.w_fmtupM, Ev.w_fftupM, Ev.w_fmtupR, Ev.w_fftupR, Ev.w_fmlstM, Ev.w_fflstM, Ev.w_fmlstR, Ev.w_fflstR, Ev.w_mapid, Ev.w_fSm, Ev.w_fCv2, Ev.w_nrK, Ev.w_nrB, Ev.w_cvK, Ev.w_cv, Ev.w_kQ, Ev.w_fCompP, Ev.w_comp, Ev.w_wip0, Ev.w_wipS, Ev.w_fcmap, Ev.w_fcmapM, Ev.w_fcmapR, Ev.w_fcbrM, Ev.w_fcbrR, Ev.w_fCc3, Ev.w_fCc2, Ev.w_ccK, Ev.w_cc, Ev.w_fComp2P, Ev.w_comp2, Ev.w_fmrg0, Ev.w_fmrgA, Ev.w_fcrg0, Ev.w_fcrgA, Ev.w_decT, Ev.w_decF, Ev.w_nT, Ev.w_nF, Ev.w_aT, Ev.w_aF, Ev.w_oT, Ev.w_oF, Ev.w_aT', Ev.w_aF', Ev.w_oT', Ev.w_oF', Ev.w_bb1, Ev.w_bb2, Ev.w_bb3, Ev.w_bb4, Ev.w_dand, Ev.w_dor, Ev.w_dnot, Ev.w_isE, Ev.w_forkP, Ev.w_forkN, Ev.w_brP, Ev.w_brN, Ev.w_tb, Ev.w_ti, Ev.w_tl, Ev.w_tt, Ev.w_tn, Ev.w_ii, Ev.w_it, Ev.w_il, Ev.w_is, Ev.w_ib, Ev.w_in, Ev.w_ivi, Ev.w_ivb, Ev.w_ivt, Ev.w_y1, Ev.w_y2, Ev.w_y3, Ev.w_y4, Ev.w_y5, Ev.w_y6, Ev.w_y7, Ev.w_y8, Ev.w_y9, Ev.w_y10, Ev.w_y11, Ev.w_y12, Ev.w_y13, Ev.w_y14, Ev.w_y15, Ev.w_y16, Ev.w_y17, Ev.w_y18, Ev.w_y19, Ev.w_st, Ev.w_sll, Ev.w_sc, Ev.w_add, Ev.w_sub, Ev.w_mul, Ev.w_mul', Ev.w_mod, Ev.w_fdiv, Ev.w_auga, Ev.w_augs, Ev.w_augd, Ev.w_augt, Ev.w_lt, Ev.w_le, Ev.w_gt, Ev.w_ge, Ev.w_eq, Ev.w_ne, Ev.w_eqs, Ev.w_nes, Ev.w_isn1, Ev.w_isn2, Ev.w_isn3, Ev.w_isn4, Ev.w_isn5, Ev.w_isn6, Ev.w_isn7, Ev.w_isn8, Ev.w_isn9, Ev.w_isn10, Ev.w_abs, Ev.w_int, Ev.w_lent, Ev.w_lenl, Ev.w_tupl, Ev.w_tupt, Ev.w_lisl, Ev.w_list, Ev.w_lisc, Ev.w_min2, Ev.w_max2, Ev.w_sum, Ev.w_all, Ev.w_any, Ev.w_lenm, Ev.w_len0, Ev.w_lenc, Ev.w_lena, Ev.w_lenr, Ev.w_i0, Ev.w_i1, Ev.w_i2, Ev.w_i3, Ev.w_j0, Ev.w_j1, Ev.w_j2, Ev.w_j3, Ev.w_ixt, Ev.w_ixl, Ev.w_ixnt, Ev.w_ixnl, Ev.w_toN, Ev.w_toN1, Ev.w_toN2, Ev.w_toN3, Ev.w_toN4, Ev.w_toN5, Ev.w_toN6, Ev.w_toN7, Ev.w_toN8, Ev.w_slt, Ev.w_sllm, Ev.w_cut1, Ev.w_cut2, Ev.w_cut3, Ev.w_rng1, Ev.w_rng2, Ev.w_enum, Ev.w_enuml, Ev.w_zip, Ev.w_addt, Ev.w_addl, Ev.w_adds, Ev.w_mapa, Ev.w_appI, Ev.w_consI, Ev.w_appT, Ev.w_appn, Ev.w_appn', Ev.w_appc, Ev.w_push, Ev.w_setP, Ev.w_setI, Ev.w_lfi, Ev.w_lfb, Ev.w_lfs', Ev.w_lfn, Ev.w_lft, Ev.w_lfl, Ev.w_lfv, Ev.w_lfs0, Ev.w_lfsc, Ev.w_lfm, Ev.w_eqT, Ev.w_neT, Ev.w_eqL, Ev.w_neL, Ev.w_inI, Ev.w_inIl, Ev.w_ninI, Ev.w_ninIl, Ev.w_fr, Ev.w_fn', Ev.w_fx, Ev.w_frb, eq_self, Classical.not_not, Int.reduceToNat, Int.reduceAdd, Int.reduceSub, Int.reduceNeg, Int.reduceLT, Int.reduceLE, Nat.reduceAdd, Nat.reduceSub, Nat.reduceMul, Int.reduceMul, $ls,*])
local macro_rules | `(tactic| simp!) => `(tactic| simp (implicitDefEqProofs := false) (disch := (first | assumption | omega | (simp only [List.length_map, List.length_range, List.length_append, List.length_cons, List.length_nil, List.length_take, List.length_drop, List.length_set, List.length_zip, List.length_zipIdx] <;> omega) | rfl | decide)) only [Ev.w_kE1, Ev.w_kE2, Ev.w_kO1, Ev.w_kO2, Ev.w_kS1, Ev.w_kS2, Ev.w_kS3, Ev.w_kS4, Ev.w_kS5, Ev.w_pk, Ev.w_pS, Ev.w_pN, Ev.w_gvx, Ev.w_gvv, Ev.w_gvi, Ev.w_gvl, Ev.w_gvt, Ev.w_gvb, Ev.w_gvs, Ev.w_gvn, Ev.w_gvf, Ev.w_gvc, Ev.w_gve, Ev.w_gD0, Ev.w_gDS, Ev.w_sD0, Ev.w_sDS, Ev.w_gL, Ev.w_brT, Ev.w_brF, Ev.w_brid, Ev.w_brand, Ev.w_bror, Ev.w_brcmp, Ev.w_brok, Ev.w_brint, Ev.w_brbl, Ev.w_brstr, Ev.w_c, Ev.w_g, Ev.w_fn, Ev.w_v, Ev.w_m, Ev.w_mv, Ev.w_fMv, Ev.w_chk, Ev.w_fChk, Ev.w_chkL, Ev.w_fChk1, Ev.w_chk1, Ev.w_bin, Ev.w_fBin1, Ev.w_fBin2, Ev.w_negP, Ev.w_fNeg, Ev.w_neg, Ev.w_notB, Ev.w_fNot, Ev.w_not, Ev.w_andK, Ev.w_fAnd, Ev.w_and, Ev.w_fOr, Ev.w_or, Ev.w_fIfe, Ev.w_ife, Ev.w_blO, Ev.w_fCmp1, Ev.w_fCmp2, Ev.w_cmp, Ev.w_fCh1, Ev.w_fCh2, Ev.w_cmp2, Ev.w_fCall, Ev.w_call, Ev.w_r1, Ev.w_r2, Ev.w_r3, Ev.w_r4, Ev.w_fRef1, Ev.w_fRef2, Ev.w_fRef3, Ev.w_callr, Ev.w_fRm2, Ev.w_fRm1, Ev.w_callrm, Ev.w_vK, Ev.w_callv, Ev.w_fBlt, Ev.w_blt, Ev.w_mthP, Ev.w_fMth2, Ev.w_mK, Ev.w_mth, Ev.w_fIsi, Ev.w_isi, Ev.w_fTup, Ev.w_tup, Ev.w_fLst, Ev.w_lst, Ev.w_fIdx2, Ev.w_fIdx1, Ev.w_idx, Ev.w_fSl3, Ev.w_fSl2, Ev.w_fSl1, Ev.w_sl, Ev.w_revl, Ev.w_revt, Ev.w_fRev, Ev.w_rev, Ev.w_isxP, Ev.w_isx, Ev.w_fldP, Ev.w_fld, Ev.w_cno, Ev.w_fCso, Ev.w_cso, Ev.w_anil, Ev.w_fA2, Ev.w_fA1, Ev.w_acons, Ev.w_intP, Ev.w_fOs, Ev.w_ono, Ev.w_oso, Ev.w_fIe, Ev.w_ie, Ev.w_lfsP, Ev.w_fIm, Ev.w_im, Ev.w_fIr, Ev.w_irng, Ev.w_fIn, Ev.w_ienum, Ev.w_zipP, Ev.w_fIz, Ev.w_izip, Ev.w_fAsg, Ev.w_asg, Ev.w_fMasg, Ev.w_masg, Ev.w_fAug2, Ev.w_fAug1, Ev.w_aug, Ev.w_fApp3, Ev.w_fApp2, Ev.w_fApp1, Ev.w_app, Ev.w_fSet4, Ev.w_fSet3, Ev.w_fSet2, Ev.w_fSet1, Ev.w_set, Ev.w_fEx, Ev.w_ex, Ev.w_fRet, Ev.w_ret, Ev.w_retn, Ev.w_forkT, Ev.w_forkF, Ev.w_fIte, Ev.w_ite, Ev.w_brk, Ev.w_cont, Ev.w_pass, Ev.w_ssnil, Ev.w_fSs, Ev.w_sscons, Ev.w_raiseK, Ev.w_fRaiseS, Ev.w_raise, Ev.w_xs, Ev.w_for, Ev.w_whl, Ev.w_form, Ev.w_hdK, Ev.w_try, Ev.w_tryK1, Ev.w_tryK2, Ev.w_tryK3, Ev.w_tryf, Ev.w_tryF1, Ev.w_tryF2, Ev.w_tryF3, Ev.w_an, Ev.w_ani, Ev.w_fAc, Ev.w_ac, Ev.w_fmnil, Ev.w_consK, Ev.w_consO1, Ev.w_consO2, Ev.w_fmcons, Ev.w_fmmap, Ev.w_fmintM, Ev.w_ffintM, Ev.w_fmintR, Ev.w_ffintR, Ev.w_fmblM, Ev.w_ffblM, Ev.w_fmblR, Ev.w_ffblR, Ev.w_fmstrM, Ev.w_ffstrM, Ev.w_fmstrR, Ev.w_ffstrR, Ev.w_fmtupM, Ev.w_fftupM, Ev.w_fmtupR, Ev.w_fftupR, Ev.w_fmlstM, Ev.w_fflstM, Ev.w_fmlstR, Ev.w_fflstR, Ev.w_mapid, Ev.w_fSm, Ev.w_fCv2, Ev.w_nrK, Ev.w_nrB, Ev.w_cvK, Ev.w_cv, Ev.w_kQ, Ev.w_fCompP, Ev.w_comp, Ev.w_wip0, Ev.w_wipS, Ev.w_fcmap, Ev.w_fcmapM, Ev.w_fcmapR, Ev.w_fcbrM, Ev.w_fcbrR, Ev.w_fCc3, Ev.w_fCc2, Ev.w_ccK, Ev.w_cc, Ev.w_fComp2P, Ev.w_comp2, Ev.w_fmrg0, Ev.w_fmrgA, Ev.w_fcrg0, Ev.w_fcrgA, Ev.w_decT, Ev.w_decF, Ev.w_nT, Ev.w_nF, Ev.w_aT, Ev.w_aF, Ev.w_oT, Ev.w_oF, Ev.w_aT', Ev.w_aF', Ev.w_oT', Ev.w_oF', Ev.w_bb1, Ev.w_bb2, Ev.w_bb3, Ev.w_bb4, Ev.w_dand, Ev.w_dor, Ev.w_dnot, Ev.w_isE, Ev.w_forkP, Ev.w_forkN, Ev.w_brP, Ev.w_brN, Ev.w_tb, Ev.w_ti, Ev.w_tl, Ev.w_tt, Ev.w_tn, Ev.w_ii, Ev.w_it, Ev.w_il, Ev.w_is, Ev.w_ib, Ev.w_in, Ev.w_ivi, Ev.w_ivb, Ev.w_ivt, Ev.w_y1, Ev.w_y2, Ev.w_y3, Ev.w_y4, Ev.w_y5, Ev.w_y6, Ev.w_y7, Ev.w_y8, Ev.w_y9, Ev.w_y10, Ev.w_y11, Ev.w_y12, Ev.w_y13, Ev.w_y14, Ev.w_y15, Ev.w_y16, Ev.w_y17, Ev.w_y18, Ev.w_y19, Ev.w_st, Ev.w_sll, Ev.w_sc, Ev.w_add, Ev.w_sub, Ev.w_mul, Ev.w_mul', Ev.w_mod, Ev.w_fdiv, Ev.w_auga, Ev.w_augs, Ev.w_augd, Ev.w_augt, Ev.w_lt, Ev.w_le, Ev.w_gt, Ev.w_ge, Ev.w_eq, Ev.w_ne, Ev.w_eqs, Ev.w_nes, Ev.w_isn1, Ev.w_isn2, Ev.w_isn3, Ev.w_isn4, Ev.w_isn5, Ev.w_isn6, Ev.w_isn7, Ev.w_isn8, Ev.w_isn9, Ev.w_isn10, Ev.w_abs, Ev.w_int, Ev.w_lent, Ev.w_lenl, Ev.w_tupl, Ev.w_tupt, Ev.w_lisl, Ev.w_list, Ev.w_lisc, Ev.w_min2, Ev.w_max2, Ev.w_sum, Ev.w_all, Ev.w_any, Ev.w_lenm, Ev.w_len0, Ev.w_lenc, Ev.w_lena, Ev.w_lenr, Ev.w_i0, Ev.w_i1, Ev.w_i2, Ev.w_i3, Ev.w_j0, Ev.w_j1, Ev.w_j2, Ev.w_j3, Ev.w_ixt, Ev.w_ixl, Ev.w_ixnt, Ev.w_ixnl, Ev.w_toN, Ev.w_toN1, Ev.w_toN2, Ev.w_toN3, Ev.w_toN4, Ev.w_toN5, Ev.w_toN6, Ev.w_toN7, Ev.w_toN8, Ev.w_slt, Ev.w_sllm, Ev.w_cut1, Ev.w_cut2, Ev.w_cut3, Ev.w_rng1, Ev.w_rng2, Ev.w_enum, Ev.w_enuml, Ev.w_zip, Ev.w_addt, Ev.w_addl, Ev.w_adds, Ev.w_mapa, Ev.w_appI, Ev.w_consI, Ev.w_appT, Ev.w_appn, Ev.w_appn', Ev.w_appc, Ev.w_push, Ev.w_setP, Ev.w_setI, Ev.w_lfi, Ev.w_lfb, Ev.w_lfs', Ev.w_lfn, Ev.w_lft, Ev.w_lfl, Ev.w_lfv, Ev.w_lfs0, Ev.w_lfsc, Ev.w_lfm, Ev.w_eqT, Ev.w_neT, Ev.w_eqL, Ev.w_neL, Ev.w_inI, Ev.w_inIl, Ev.w_ninI, Ev.w_ninIl, Ev.w_fr, Ev.w_fn', Ev.w_fx, Ev.w_frb, eq_self, Classical.not_not, Int.reduceToNat, Int.reduceAdd, Int.reduceSub, Int.reduceNeg, Int.reduceLT, Int.reduceLE, Nat.reduceAdd, Nat.reduceSub, Nat.reduceMul, Int.reduceMul])
/-! EvW5: ends of defs, the laws' state, asked and told. -/
namespace Ev
open PySem
variable {W : Nat} {P : List Def} {C : Calls}
/-! ### ends -/
def finR : Out → CR
  | .rt v _ => .ok v .undef
  | .nx _ => .ok .non .undef
  | .raise c a _ => .raise c a .undef
  | _ => .fail
theorem w_finR1 {v : PV} {e : Env} : finR (.rt v e) = .ok v .undef := nrfl rfl
theorem w_finR2 {e : Env} : finR (.nx e) = .ok .non .undef := nrfl rfl
theorem w_finR3 {c : Nat} {a : PV} {e : Env} : finR (.raise c a e) = .raise c a .undef := nrfl rfl
def okB (v : PV) : PV → CR
  | .undef => .fail
  | b => .ok v b
def xB (c : Nat) (a : PV) : PV → CR
  | .undef => .fail
  | b => .raise c a b
def finB : Out → CR
  | .rt v e => okB v (e.getD 0 .undef)
  | .nx e => okB .non (e.getD 0 .undef)
  | .raise c a e => xB c a (e.getD 0 .undef)
  | _ => .fail
theorem w_finB1 {v b : PV} {e : Env} : finB (.rt v (b :: e)) = okB v b := nrfl rfl
theorem w_finB2 {b : PV} {e : Env} : finB (.nx (b :: e)) = okB .non b := nrfl rfl
theorem w_finB3 {c : Nat} {a b : PV} {e : Env} : finB (.raise c a (b :: e)) = xB c a b := nrfl rfl
theorem w_okB {v : PV} {l : List PV} : okB v (.lst l) = .ok v (.lst l) := nrfl rfl
theorem w_xB {c : Nat} {a : PV} {l : List PV} : xB c a (.lst l) = .raise c a (.lst l) := nrfl rfl
theorem call_run {n k : Nat} {d : Def} {args : List PV} {b : Ss} {env : Env} {r : CR} (h : P[k]? = some d) (hl : args.length = d.np) (hb : d.body = b) (he : Ev.start d args = env) (hbr : d.br = false) (hr : finR (evalSs (callN W P n) W b env) = r) : callN W P (n + 1) k args = r := by
  rw [callN_succ h hl, hb, he, ← hr]
  cases evalSs (callN W P n) W b env <;> simp [Ev.finish, finR, hbr]
theorem call_runB {n k : Nat} {d : Def} {args : List PV} {b : Ss} {env : Env} {r : CR} (h : P[k]? = some d) (hl : args.length = d.np) (hb : d.body = b) (he : Ev.start d args = env) (hbr : d.br = true) (hr : finB (evalSs (callN W P n) W b env) = r) : callN W P (n + 1) k args = r := by
  rw [callN_succ h hl, hb, he, ← hr]
  cases evalSs (callN W P n) W b env with
  | rt v e => simp only [Ev.finish, finB, hbr, if_true]; cases e.getD 0 .undef <;> rfl
  | nx e => simp only [Ev.finish, finB, hbr, if_true]; cases e.getD 0 .undef <;> rfl
  | raise c a e => simp only [Ev.finish, finB, hbr, if_true]; cases e.getD 0 .undef <;> rfl
  | bk e => rfl
  | ct e => rfl
  | fail => rfl
/-- the same as an equation -/
theorem call_eq {n k : Nat} {d : Def} {args : List PV} (b : Ss) (env : Env) (h : P[k]? = some d) (hl : args.length = d.np) (hb : d.body = b) (he : Ev.start d args = env) (hbr : d.br = false) : callN W P (n + 1) k args = finR (evalSs (callN W P n) W b env) := call_run h hl hb he hbr rfl
theorem call_eqB {n k : Nat} {d : Def} {args : List PV} (b : Ss) (env : Env) (h : P[k]? = some d) (hl : args.length = d.np) (hb : d.body = b) (he : Ev.start d args = env) (hbr : d.br = true) : callN W P (n + 1) k args = finB (evalSs (callN W P n) W b env) := call_runB h hl hb he hbr rfl
/-! ### the laws' state -/
structure LSt where
  sc : List Int
  a : Int
  i : Nat
  b : Int
def stP (s : LSt) : PV := stV s.sc s.a s.i s.b
theorem w_gvst {env : Env} {s : LSt} : gv env (stP s) = .ok (stP s, env) := nrfl rfl
theorem w_okst {v : PV} {s : LSt} : okB v (stP s) = .ok v (stP s) := nrfl rfl
theorem w_xst {c : Nat} {a : PV} {s : LSt} : xB c a (stP s) = .raise c a (stP s) := nrfl rfl
theorem g_start {n k : Nat} (hk : P[k]? = some startD) (sc : List Int) : ∃ s : LSt, callN W P (n + 1) k [.scr (sc.map .int)] = .ok (stP s) .undef := by
  obtain ⟨b, h⟩ := c_start (W := W) (n := n) hk sc
  exact ⟨⟨sc, 0, 0, b⟩, h⟩
def LSt.dr (s : LSt) (m : Int) : Int × LSt :=
  if s.a = 0 then
    if s.sc.length ≤ s.i then ((((s.b * 48271 + 69621).fmod 2147483629).fdiv 13).fmod m, { s with b := (s.b * 48271 + 69621).fmod 2147483629 })
    else ((if s.sc.getD s.i 0 < 0 then -(s.sc.getD s.i 0) else s.sc.getD s.i 0).fmod m, { s with a := (if s.sc.getD s.i 0 < 0 then -(s.sc.getD s.i 0) else s.sc.getD s.i 0).fdiv m, i := s.i + 1 })
  else (s.a.fmod m, { s with a := s.a.fdiv m })
def dv (s : LSt) (m : Int) : Int := (s.dr m).1
def ds (s : LSt) (m : Int) : LSt := (s.dr m).2
theorem dv_lo {s : LSt} {m : Int} (h : 1 ≤ m) : 0 ≤ dv s m := by
  unfold dv LSt.dr
  split
  · split <;> exact fmod_lo (by omega)
  · exact fmod_lo (by omega)
theorem dv_hi {s : LSt} {m : Int} (h : 1 ≤ m) : dv s m < m := by
  unfold dv LSt.dr
  split
  · split <;> exact fmod_hi (by omega)
  · exact fmod_hi (by omega)
theorem g_draw {n k : Nat} (hk : P[k]? = some drawD) {s : LSt} {m : Int} (h0 : 1 ≤ m) (h1 : m < 1073741824) : callN W P (n + 1) k [stP s, .int m] = .ok (.int (dv s m)) (stP (ds s m)) := by
  obtain ⟨sc, a, i, b⟩ := s
  rw [callN_succ hk rfl]
  unfold dv ds LSt.dr stP
  have m0 : m ≠ 0 := by omega
  have f13 : ∀ x : Int, binop .FloorDiv (.int x) (.int 13) = some (.int (x.fdiv 13)) := fun x => fdiv_c (by decide) (by decide)
  have fm : ∀ x : Int, binop .FloorDiv (.int x) (.int m) = some (.int (x.fdiv m)) := fun x => fdiv_c (by omega) h1
  by_cases ha : a = 0
  · by_cases hi : sc.length ≤ i
    · have hi' : (sc.length : Int) ≤ (i : Int) := by omega
      simp [Ev.finish, drawD, drawB, Ev.start, Ev.get, stV, ha, hi, hi', f13, m0]
    · have hi' : ¬ (sc.length : Int) ≤ (i : Int) := by omega
      have ix : index (.lst (sc.map .int)) (.int (i : Nat)) = some (.int (sc.getD i 0)) := at_int (k := sc) (by omega)
      simp [Ev.finish, drawD, drawB, Ev.start, Ev.get, stV, ha, hi, hi', ix, m0, fm]
  · simp [Ev.finish, drawD, drawB, Ev.start, Ev.get, stV, ha, m0, fm]
/-- what is picked of a list -/
def pickV (s : LSt) (l : List PV) : PV := l.getD (dv s l.length).toNat .undef
theorem pick_mem {s : LSt} {l : List PV} (h : l ≠ []) : pickV s l ∈ l := by
  have hl : 1 ≤ l.length := by
    cases l with
    | nil => exact absurd rfl h
    | cons x l => simp
  have h0 := dv_lo (s := s) (m := (l.length : Int)) (by omega)
  have h1 := dv_hi (s := s) (m := (l.length : Int)) (by omega)
  have h2 : (dv s l.length).toNat < l.length := by omega
  unfold pickV
  rw [List.getD_eq_getElem?_getD, List.getElem?_eq_getElem h2]
  exact List.getElem_mem h2
theorem pick_map {α : Type} {s : LSt} {l : List α} {f : α → PV} (h : l ≠ []) : ∃ a ∈ l, pickV s (l.map f) = f a := by
  have := pick_mem (s := s) (l := l.map f) (by simpa using h)
  obtain ⟨a, ha, e⟩ := List.mem_map.mp this
  exact ⟨a, ha, e.symm⟩
theorem g_pick {n k j : Nat} (hk : P[k]? = some (pickD j)) (hj : P[j]? = some drawD) {s : LSt} {l : List PV} (h0 : 1 ≤ l.length) (h1 : l.length < 1000000) (hu : pickV s l ≠ .undef) : callN W P (n + 2) k [stP s, .lst l] = .ok (pickV s l) (stP (ds s l.length)) ∧ callN W P (n + 2) k [stP s, .tup l] = .ok (pickV s l) (stP (ds s l.length)) := by
  have h2 := dv_lo (s := s) (m := (l.length : Int)) (by omega)
  have h3 := dv_hi (s := s) (m := (l.length : Int)) (by omega)
  have hd := g_draw (W := W) (n := n) hj (s := s) (m := (l.length : Int)) (by omega) (by omega)
  have ha : atI l (dv s l.length) = some (pickV s l) := by
    unfold atI Ev.ixN pickV
    rw [if_pos h2, if_pos h3]
    have : (dv s l.length).toNat < l.length := by omega
    simp [this, List.getD_eq_getElem?_getD]
  have i0 : index (.lst l) (.int (dv s l.length)) = some (pickV s l) := ha
  have i1 : index (.tup l) (.int (dv s l.length)) = some (pickV s l) := ha
  constructor
  · rw [call_eqB (pickB j) [stP s, .lst l] hk rfl rfl rfl rfl]
    simp! [pickB, hd, i0, w_finB1, w_okst, w_gvst]
  · rw [call_eqB (pickB j) [stP s, .tup l] hk rfl rfl rfl rfl]
    simp! [pickB, hd, i1, w_finB1, w_okst, w_gvst]
/-- data without undef within, as a pick wants it -/
theorem pick_nu {s : LSt} {l : List PV} (h0 : l ≠ []) (h : ∀ x ∈ l, x ≠ .undef) : pickV s l ≠ .undef := h _ (pick_mem h0)
/-! ### sizes -/
/-- data whose text is short: depth, weight -/
def Sz (p : PV) (w : Nat) : Prop := ∃ d, d ≤ 50 ∧ Sm p d w
theorem Sz.mono {p : PV} {w v : Nat} (h : Sz p w) (hv : w ≤ v) : Sz p v := by
  obtain ⟨d, h1, h2⟩ := h
  exact ⟨d, h1, h2.mono (Nat.le_refl _) hv⟩
theorem g_sameS {n k : Nat} {r : PV} {dp w : Nat} (hk : P[k]? = some { np := 2, n := 2, br := false, fresh := false, ms := [], body := (.cons (.ret (.and (.cmp .Eq (.v 0) (.v 1)) (.cmp .Eq (.blt .repr (.cons (.v 0) .nil)) (.blt .repr (.cons (.v 1) .nil))))) .nil) }) (h : Sm r dp w) (hdp : dp ≤ 60) (hw : w ≤ 1048576) : callN W P (n + 1) k [r, r] = .ok (.bl true) .undef := by
  have rp := repr_ok h hdp hw
  have hn : r ≠ .undef := fun e => by have := h.da; rw [e] at this; cases this
  have c : cmpop .Eq r r = some true := by
    cases r with
    | str x => show some (decide (x = x)) = _; simp
    | _ => exact cmp_eq_self h (fun x hx => nomatch hx) (by omega)
  rw [call_eq _ [r, r] hk rfl rfl rfl rfl]
  simp! [c, rp, w_finR1]
/-! ### asked -/
def askW : CR → CR
  | .ok v _ => brA v.lf (brA v.ne (.ok v .undef) .fail) .fail
  | _ => .fail
def askK (w : List PV → CR) : CR → CR
  | .ok v _ => brA v.lf (.ok (.lst [v]) .undef) .fail
  | .raise c a _ => if c ∈ [1, 2, 3, 4, 5] then askW (w [.exc c a]) else .fail
  | .fail => .fail
theorem w_askK1 {w : List PV → CR} {v b : PV} : askK w (.ok v b) = brA v.lf (.ok (.lst [v]) .undef) .fail := nrfl rfl
theorem w_askK2 {w : List PV → CR} {c : Nat} {a b : PV} (h : c ∈ [1, 2, 3, 4, 5]) : askK w (.raise c a b) = askW (w [.exc c a]) := if_pos h
theorem w_askW {s : Str} {b : PV} : askW (.ok (.str s) b) = .ok (.str s) .undef := nrfl rfl
theorem g_askK {n k kf wk : Nat} {ks : List Nat} (hP : P[k]? = some (askD wk ks)) (hk : kf ∈ ks) {args : List PV} (h1 : 1 ≤ args.length) (h6 : args.length ≤ 6) : callN W P (n + 1) k [.fn kf, .lst args] = askK (callN W P n wk) (callN W P n kf args) := by
  rw [call_eq (askB wk ks) [.fn kf, .lst args, .undef] hP rfl rfl rfl rfl]
  have s := ask_suite (C := callN W P n) (W := W) (w := .undef) (wk := wk) hk h1 h6 (sb := _) (h := _) (c := _) (i := _) (cs := _) rfl
  unfold askB
  rw [w_sscons, w_try, s]
  cases e : callN W P n kf args with
  | ok v b =>
    show finR (kS _ (tryK _ _ _ _ _ _ ((if v.lf = true then Res.ok (v, _) else .fail).out _))) = brA v.lf _ _
    cases v.lf <;> rfl
  | raise c a b =>
    by_cases hc : c ∈ [1, 2, 3, 4, 5]
    · have ea : askK (callN W P n wk) (.raise c a b) = askW (callN W P n wk [.exc c a]) := if_pos hc
      rw [ea]
      show finR (kS _ (tryK _ _ 0 2 [1, 2, 3, 4, 5] _ (.raise c a [.fn kf, .lst args, .undef]))) = _
      rw [w_tryK1 hc (.inl rfl)]
      simp!
      cases e2 : callN W P n wk [.exc c a] with
      | ok v b =>
        simp!
        show finR (kS _ (hdK (kS _ (kO fRet (brA v.lf _ _))))) = brA v.lf _ _
        cases v.lf with
        | false => rfl
        | true =>
          show finR (kS _ (brA v.ne _ _)) = brA v.ne _ _
          cases v.ne <;> rfl
      | raise c a b => rfl
      | fail => rfl
    · have ea : askK (callN W P n wk) (.raise c a b) = .fail := if_neg hc
      rw [ea]
      show finR (kS _ (if c ∈ [1, 2, 3, 4, 5] then _ else _)) = _
      rw [if_neg hc]
      rfl
  | fail => rfl
/-! ### comprehensions that draw -/
theorem comp_gen {α β : Type} {own : List Nat} {tg : T} {it : It} {e : E} {l : List α} {fi : α → PV} {f : β → PV} (Good : β → Prop) (Ee : LSt → Env) {s0 : LSt} {env : Env} (hi : evalI C it env = .ok (l.map fi, Ee s0))
    (h : ∀ x ∈ l, ∀ s, ∃ en1 y s' en2, assign tg (fi x) (Ev.wipe own (Ee s)) = some en1 ∧ evalE C e en1 = .ok (f y, en2) ∧ Ev.wipe own en2 = Ev.wipe own (Ee s') ∧ Good y) (hl : l.length ≤ 1000000) (hr : ∀ s, restore own (Ee s0) (Ev.wipe own (Ee s)) = Ee s) :
    ∃ (ys : List β) (s' : LSt), evalE C (.comp own tg it .no e) env = .ok (.lst (ys.map f), Ee s') ∧ ys.length = l.length ∧ ∀ y ∈ ys, Good y := by
  have key : ∀ (l : List α) (s : LSt), (∀ x ∈ l, ∀ s, ∃ en1 y s' en2, assign tg (fi x) (Ev.wipe own (Ee s)) = some en1 ∧ evalE C e en1 = .ok (f y, en2) ∧ Ev.wipe own en2 = Ev.wipe own (Ee s') ∧ Good y) →
      ∃ (ys : List β) (s' : LSt), compGo (cbody C own tg .no e) (l.map fi) (Ev.wipe own (Ee s)) = .ok (ys.map f, Ev.wipe own (Ee s')) ∧ ys.length = l.length ∧ ∀ y ∈ ys, Good y := by
    intro l
    induction l with
    | nil => intro s _; exact ⟨[], s, rfl, rfl, fun y hy => by cases hy⟩
    | cons x l ih =>
      intro s h
      obtain ⟨en1, y, s1, en2, e1, e2, e3, g⟩ := h x (by simp) s
      obtain ⟨ys, s2, e4, hl, hg⟩ := ih s1 fun z hz => h z (by simp [hz])
      refine ⟨y :: ys, s2, ?_, by simp [hl], fun z hz => ?_⟩
      · rw [List.map_cons]
        unfold compGo
        have eb : cbody C own tg .no e (fi x) (Ev.wipe own (Ee s)) = .ok (some (f y), Ev.wipe own (Ee s1)) := by
          unfold cbody
          rw [e1]
          show ((evalE C e en1).bind _).nr = _
          rw [e2]
          show Res.ok (some (f y), Ev.wipe own en2) = _
          rw [e3]
        rw [eb]
        show (compGo _ (l.map fi) _).bind _ = _
        rw [e4]
        rfl
      · rcases List.mem_cons.mp hz with rfl | hz
        · exact g
        · exact hg z hz
  obtain ⟨ys, s', e1, h1, h2⟩ := key l s0 h
  refine ⟨ys, s', ?_, h1, h2⟩
  rw [comp_frame, hi, w_kE1]
  unfold fComp
  rw [e1, w_kE1]
  show (if (ys.map f).length ≤ sizeLine then Res.ok (PV.lst (ys.map f), restore own (Ee s0) (Ev.wipe own (Ee s'))) else .fail) = _
  rw [if_pos (by rw [List.length_map, h1, sizeLine_eq]; omega), hr]
theorem comp_sub {α : Type} {own : List Nat} {tg : T} {it : It} {c e : E} {l : List α} {fi : α → PV} (Ee : LSt → Env) {s0 : LSt} {env : Env} (hi : evalI C it env = .ok (l.map fi, Ee s0))
    (h : ∀ x ∈ l, ∀ s, ∃ en1 v t s' en2, assign tg (fi x) (Ev.wipe own (Ee s)) = some en1 ∧ evalE C c en1 = .ok (v, en2) ∧ truth v = some t ∧ Ev.wipe own en2 = Ev.wipe own (Ee s') ∧ evalE C e en2 = .ok (fi x, en2)) (hl : l.length ≤ 1000000) (hr : ∀ s, restore own (Ee s0) (Ev.wipe own (Ee s)) = Ee s) :
    ∃ (ys : List α) (s' : LSt), evalE C (.comp own tg it (.so c) e) env = .ok (.lst (ys.map fi), Ee s') ∧ ys.Sublist l := by
  have key : ∀ (l : List α) (s : LSt), (∀ x ∈ l, ∀ s, ∃ en1 v t s' en2, assign tg (fi x) (Ev.wipe own (Ee s)) = some en1 ∧ evalE C c en1 = .ok (v, en2) ∧ truth v = some t ∧ Ev.wipe own en2 = Ev.wipe own (Ee s') ∧ evalE C e en2 = .ok (fi x, en2)) →
      ∃ (ys : List α) (s' : LSt), compGo (cbody C own tg (.so c) e) (l.map fi) (Ev.wipe own (Ee s)) = .ok (ys.map fi, Ev.wipe own (Ee s')) ∧ ys.Sublist l := by
    intro l
    induction l with
    | nil => intro s _; exact ⟨[], s, rfl, .slnil⟩
    | cons x l ih =>
      intro s h
      obtain ⟨en1, v, t, s1, en2, e1, e2, e3, e4, e5⟩ := h x (by simp) s
      obtain ⟨ys, s2, e6, hs⟩ := ih s1 fun z hz => h z (by simp [hz])
      have eb : cbody C own tg (.so c) e (fi x) (Ev.wipe own (Ee s)) = .ok (if t = true then some (fi x) else none, Ev.wipe own (Ee s1)) := by
        unfold cbody
        rw [e1]
        show ((evalC C (.so c) en1).bind _).nr = _
        rw [w_cso, e2, w_kE1, w_fCso, e3, w_pk]
        cases t with
        | true =>
          show ((evalE C e en2).bind _).nr = _
          rw [e5]
          show Res.ok (some (fi x), Ev.wipe own en2) = _
          rw [e4]; rfl
        | false =>
          show Res.ok (none, Ev.wipe own en2) = _
          rw [e4]; rfl
      refine ⟨if t = true then x :: ys else ys, s2, ?_, ?_⟩
      · rw [List.map_cons]
        unfold compGo
        rw [eb]
        show (compGo _ (l.map fi) _).bind _ = _
        rw [e6]
        cases t <;> rfl
      · cases t with
        | true => exact hs.cons₂ x
        | false => exact hs.cons x
  obtain ⟨ys, s', e1, h1⟩ := key l s0 h
  refine ⟨ys, s', ?_, h1⟩
  rw [comp_frame, hi, w_kE1]
  unfold fComp
  rw [e1, w_kE1]
  show (if (ys.map fi).length ≤ sizeLine then Res.ok (PV.lst (ys.map fi), restore own (Ee s0) (Ev.wipe own (Ee s'))) else .fail) = _
  rw [if_pos (by have := h1.length_le; rw [List.length_map, sizeLine_eq]; omega), hr]
end Ev

local macro_rules | `(tactic| simp! [$ls,*]) => `(tactic| simp (implicitDefEqProofs := false) (disch := (first | assumption | omega | (simp only [List.length_map, List.length_range, List.length_append, List.length_cons, List.length_nil, List.length_take, List.length_drop, List.length_set, List.length_zip, List.length_zipIdx] <;> omega) | rfl | decide)) only [Ev.w_kE1, Ev.w_kE2, Ev.w_kO1, Ev.w_kO2, Ev.w_kS1, Ev.w_kS2, Ev.w_kS3, Ev.w_kS4, Ev.w_kS5, Ev.w_pk, Ev.w_pS, Ev.w_pN, Ev.w_gvx, Ev.w_gvv, Ev.w_gvi, Ev.w_gvl, Ev.w_gvt, Ev.w_gvb, Ev.w_gvs, Ev.w_gvn, Ev.w_gvf, Ev.w_gvc, Ev.w_gve, Ev.w_gD0, Ev.w_gDS, Ev.w_sD0, Ev.w_sDS, Ev.w_gL, Ev.w_brT, Ev.w_brF, Ev.w_brid, Ev.w_brand, Ev.w_bror, Ev.w_brcmp, Ev.w_brok, Ev.w_brint, Ev.w_brbl, Ev.w_brstr, Ev.w_c, Ev.w_g, Ev.w_fn, Ev.w_v, Ev.w_m, Ev.w_mv, Ev.w_fMv, Ev.w_chk, Ev.w_fChk, Ev.w_chkL, Ev.w_fChk1, Ev.w_chk1, Ev.w_bin, Ev.w_fBin1, Ev.w_fBin2, Ev.w_negP, Ev.w_fNeg, Ev.w_neg, Ev.w_notB, Ev.w_fNot, Ev.w_not, Ev.w_andK, Ev.w_fAnd, Ev.w_and, Ev.w_fOr, Ev.w_or, Ev.w_fIfe, Ev.w_ife, Ev.w_blO, Ev.w_fCmp1, Ev.w_fCmp2, Ev.w_cmp, Ev.w_fCh1, Ev.w_fCh2, Ev.w_cmp2, Ev.w_fCall, Ev.w_call, Ev.w_r1, Ev.w_r2, Ev.w_r3, Ev.w_r4, Ev.w_fRef1, Ev.w_fRef2, Ev.w_fRef3, Ev.w_callr, Ev.w_fRm2, Ev.w_fRm1, Ev.w_callrm, Ev.w_vK, Ev.w_callv, Ev.w_fBlt, Ev.w_blt, Ev.w_mthP, Ev.w_fMth2, Ev.w_mK, Ev.w_mth, Ev.w_fIsi, Ev.w_isi, Ev.w_fTup, Ev.w_tup, Ev.w_fLst, Ev.w_lst, Ev.w_fIdx2, Ev.w_fIdx1, Ev.w_idx, Ev.w_fSl3, Ev.w_fSl2, Ev.w_fSl1, Ev.w_sl, Ev.w_revl, Ev.w_revt, Ev.w_fRev, Ev.w_rev, Ev.w_isxP, Ev.w_isx, Ev.w_fldP, Ev.w_fld, Ev.w_cno, Ev.w_fCso, Ev.w_cso, Ev.w_anil, Ev.w_fA2, Ev.w_fA1, Ev.w_acons, Ev.w_intP, Ev.w_fOs, Ev.w_ono, Ev.w_oso, Ev.w_fIe, Ev.w_ie, Ev.w_lfsP, Ev.w_fIm, Ev.w_im, Ev.w_fIr, Ev.w_irng, Ev.w_fIn, Ev.w_ienum, Ev.w_zipP, Ev.w_fIz, Ev.w_izip, Ev.w_fAsg, Ev.w_asg, Ev.w_fMasg, Ev.w_masg, Ev.w_fAug2, Ev.w_fAug1, Ev.w_aug, Ev.w_fApp3, Ev.w_fApp2, Ev.w_fApp1, Ev.w_app, Ev.w_fSet4, Ev.w_fSet3, Ev.w_fSet2, Ev.w_fSet1, Ev.w_set, Ev.w_fEx, Ev.w_ex, Ev.w_fRet, Ev.w_ret, Ev.w_retn, Ev.w_forkT, Ev.w_forkF, Ev.w_fIte, Ev.w_ite, Ev.w_brk, Ev.w_cont, Ev.w_pass, Ev.w_ssnil, Ev.w_fSs, Ev.w_sscons, Ev.w_raiseK, Ev.w_fRaiseS, Ev.w_raise, Ev.w_xs, Ev.w_for, Ev.w_whl, Ev.w_form, Ev.w_hdK, Ev.w_try, Ev.w_tryK1, Ev.w_tryK2, Ev.w_tryK3, Ev.w_tryf, Ev.w_tryF1, Ev.w_tryF2, Ev.w_tryF3, Ev.w_an, Ev.w_ani, Ev.w_fAc, Ev.w_ac, Ev.w_fmnil, Ev.w_consK, Ev.w_consO1, Ev.w_consO2, Ev.w_fmcons, Ev.w_fmmap, Ev.w_fmintM, Ev.w_ffintM, Ev.w_fmintR, Ev.w_ffintR, Ev.w_fmblM, Ev.w_ffblM, Ev.w_fmblR, Ev.w_ffblR, Ev.w_fmstrM, Ev.w_ffstrM, Ev.w_fmstrR, Ev.w_ffstrR, Ev.w_fmtupM, Ev.w_fftupM, Ev.w_fmtupR, Ev.w_fftupR, Ev.w_fmlstM, Ev.w_fflstM, Ev.w_fmlstR, Ev.w_fflstR, Ev.w_mapid, Ev.w_fSm, Ev.w_fCv2, Ev.w_nrK, Ev.w_nrB, Ev.w_cvK, Ev.w_cv, Ev.w_kQ, Ev.w_fCompP, Ev.w_comp, Ev.w_wip0, Ev.w_wipS, Ev.w_fcmap, Ev.w_fcmapM, Ev.w_fcmapR, Ev.w_fcbrM, Ev.w_fcbrR, Ev.w_fCc3, Ev.w_fCc2, Ev.w_ccK, Ev.w_cc, Ev.w_fComp2P, Ev.w_comp2, Ev.w_fmrg0, Ev.w_fmrgA, Ev.w_fcrg0, Ev.w_fcrgA, Ev.w_decT, Ev.w_decF, Ev.w_nT, Ev.w_nF, Ev.w_aT, Ev.w_aF, Ev.w_oT, Ev.w_oF, Ev.w_aT', Ev.w_aF', Ev.w_oT', Ev.w_oF', Ev.w_bb1, Ev.w_bb2, Ev.w_bb3, Ev.w_bb4, Ev.w_dand, Ev.w_dor, Ev.w_dnot, Ev.w_isE, Ev.w_forkP, Ev.w_forkN, Ev.w_brP, Ev.w_brN, Ev.w_tb, Ev.w_ti, Ev.w_tl, Ev.w_tt, Ev.w_tn, Ev.w_ii, Ev.w_it, Ev.w_il, Ev.w_is, Ev.w_ib, Ev.w_in, Ev.w_ivi, Ev.w_ivb, Ev.w_ivt, Ev.w_y1, Ev.w_y2, Ev.w_y3, Ev.w_y4, Ev.w_y5, Ev.w_y6, Ev.w_y7, Ev.w_y8, Ev.w_y9, Ev.w_y10, Ev.w_y11, Ev.w_y12, Ev.w_y13, Ev.w_y14, Ev.w_y15, Ev.w_y16, Ev.w_y17, Ev.w_y18, Ev.w_y19, Ev.w_st, Ev.w_sll, Ev.w_sc, Ev.w_add, Ev.w_sub, Ev.w_mul, Ev.w_mul', Ev.w_mod, Ev.w_fdiv, Ev.w_auga, Ev.w_augs, Ev.w_augd, Ev.w_augt, Ev.w_lt, Ev.w_le, Ev.w_gt, Ev.w_ge, Ev.w_eq, Ev.w_ne, Ev.w_eqs, Ev.w_nes, Ev.w_isn1, Ev.w_isn2, Ev.w_isn3, Ev.w_isn4, Ev.w_isn5, Ev.w_isn6, Ev.w_isn7, Ev.w_isn8, Ev.w_isn9, Ev.w_isn10, Ev.w_abs, Ev.w_int, Ev.w_lent, Ev.w_lenl, Ev.w_tupl, Ev.w_tupt, Ev.w_lisl, Ev.w_list, Ev.w_lisc, Ev.w_min2, Ev.w_max2, Ev.w_sum, Ev.w_all, Ev.w_any, Ev.w_lenm, Ev.w_len0, Ev.w_lenc, Ev.w_lena, Ev.w_lenr, Ev.w_i0, Ev.w_i1, Ev.w_i2, Ev.w_i3, Ev.w_j0, Ev.w_j1, Ev.w_j2, Ev.w_j3, Ev.w_ixt, Ev.w_ixl, Ev.w_ixnt, Ev.w_ixnl, Ev.w_toN, Ev.w_toN1, Ev.w_toN2, Ev.w_toN3, Ev.w_toN4, Ev.w_toN5, Ev.w_toN6, Ev.w_toN7, Ev.w_toN8, Ev.w_slt, Ev.w_sllm, Ev.w_cut1, Ev.w_cut2, Ev.w_cut3, Ev.w_rng1, Ev.w_rng2, Ev.w_enum, Ev.w_enuml, Ev.w_zip, Ev.w_addt, Ev.w_addl, Ev.w_adds, Ev.w_mapa, Ev.w_appI, Ev.w_consI, Ev.w_appT, Ev.w_appn, Ev.w_appn', Ev.w_appc, Ev.w_push, Ev.w_setP, Ev.w_setI, Ev.w_lfi, Ev.w_lfb, Ev.w_lfs', Ev.w_lfn, Ev.w_lft, Ev.w_lfl, Ev.w_lfv, Ev.w_lfs0, Ev.w_lfsc, Ev.w_lfm, Ev.w_eqT, Ev.w_neT, Ev.w_eqL, Ev.w_neL, Ev.w_inI, Ev.w_inIl, Ev.w_ninI, Ev.w_ninIl, Ev.w_fr, Ev.w_fn', Ev.w_fx, Ev.w_frb, Ev.w_finR1, Ev.w_finR2, Ev.w_finR3, Ev.w_finB1, Ev.w_finB2, Ev.w_finB3, Ev.w_okB, Ev.w_xB, Ev.w_gvst, Ev.w_okst, Ev.w_xst, Ev.w_askK1, Ev.w_askK2, Ev.w_askW, eq_self, Classical.not_not, Int.reduceToNat, Int.reduceAdd, Int.reduceSub, Int.reduceNeg, Int.reduceLT, Int.reduceLE, Nat.reduceAdd, Nat.reduceSub, Nat.reduceMul, Int.reduceMul, $ls,*])
local macro_rules | `(tactic| simp!) => `(tactic| simp (implicitDefEqProofs := false) (disch := (first | assumption | omega | (simp only [List.length_map, List.length_range, List.length_append, List.length_cons, List.length_nil, List.length_take, List.length_drop, List.length_set, List.length_zip, List.length_zipIdx] <;> omega) | rfl | decide)) only [Ev.w_kE1, Ev.w_kE2, Ev.w_kO1, Ev.w_kO2, Ev.w_kS1, Ev.w_kS2, Ev.w_kS3, Ev.w_kS4, Ev.w_kS5, Ev.w_pk, Ev.w_pS, Ev.w_pN, Ev.w_gvx, Ev.w_gvv, Ev.w_gvi, Ev.w_gvl, Ev.w_gvt, Ev.w_gvb, Ev.w_gvs, Ev.w_gvn, Ev.w_gvf, Ev.w_gvc, Ev.w_gve, Ev.w_gD0, Ev.w_gDS, Ev.w_sD0, Ev.w_sDS, Ev.w_gL, Ev.w_brT, Ev.w_brF, Ev.w_brid, Ev.w_brand, Ev.w_bror, Ev.w_brcmp, Ev.w_brok, Ev.w_brint, Ev.w_brbl, Ev.w_brstr, Ev.w_c, Ev.w_g, Ev.w_fn, Ev.w_v, Ev.w_m, Ev.w_mv, Ev.w_fMv, Ev.w_chk, Ev.w_fChk, Ev.w_chkL, Ev.w_fChk1, Ev.w_chk1, Ev.w_bin, Ev.w_fBin1, Ev.w_fBin2, Ev.w_negP, Ev.w_fNeg, Ev.w_neg, Ev.w_notB, Ev.w_fNot, Ev.w_not, Ev.w_andK, Ev.w_fAnd, Ev.w_and, Ev.w_fOr, Ev.w_or, Ev.w_fIfe, Ev.w_ife, Ev.w_blO, Ev.w_fCmp1, Ev.w_fCmp2, Ev.w_cmp, Ev.w_fCh1, Ev.w_fCh2, Ev.w_cmp2, Ev.w_fCall, Ev.w_call, Ev.w_r1, Ev.w_r2, Ev.w_r3, Ev.w_r4, Ev.w_fRef1, Ev.w_fRef2, Ev.w_fRef3, Ev.w_callr, Ev.w_fRm2, Ev.w_fRm1, Ev.w_callrm, Ev.w_vK, Ev.w_callv, Ev.w_fBlt, Ev.w_blt, Ev.w_mthP, Ev.w_fMth2, Ev.w_mK, Ev.w_mth, Ev.w_fIsi, Ev.w_isi, Ev.w_fTup, Ev.w_tup, Ev.w_fLst, Ev.w_lst, Ev.w_fIdx2, Ev.w_fIdx1, Ev.w_idx, Ev.w_fSl3, Ev.w_fSl2, Ev.w_fSl1, Ev.w_sl, Ev.w_revl, Ev.w_revt, Ev.w_fRev, Ev.w_rev, Ev.w_isxP, Ev.w_isx, Ev.w_fldP, Ev.w_fld, Ev.w_cno, Ev.w_fCso, Ev.w_cso, Ev.w_anil, Ev.w_fA2, Ev.w_fA1, Ev.w_acons, Ev.w_intP, Ev.w_fOs, Ev.w_ono, Ev.w_oso, Ev.w_fIe, Ev.w_ie, Ev.w_lfsP, Ev.w_fIm, Ev.w_im, Ev.w_fIr, Ev.w_irng, Ev.w_fIn, Ev.w_ienum, Ev.w_zipP, Ev.w_fIz, Ev.w_izip, Ev.w_fAsg, Ev.w_asg, Ev.w_fMasg, Ev.w_masg, Ev.w_fAug2, Ev.w_fAug1, Ev.w_aug, Ev.w_fApp3, Ev.w_fApp2, Ev.w_fApp1, Ev.w_app, Ev.w_fSet4, Ev.w_fSet3, Ev.w_fSet2, Ev.w_fSet1, Ev.w_set, Ev.w_fEx, Ev.w_ex, Ev.w_fRet, Ev.w_ret, Ev.w_retn, Ev.w_forkT, Ev.w_forkF, Ev.w_fIte, Ev.w_ite, Ev.w_brk, Ev.w_cont, Ev.w_pass, Ev.w_ssnil, Ev.w_fSs, Ev.w_sscons, Ev.w_raiseK, Ev.w_fRaiseS, Ev.w_raise, Ev.w_xs, Ev.w_for, Ev.w_whl, Ev.w_form, Ev.w_hdK, Ev.w_try, Ev.w_tryK1, Ev.w_tryK2, Ev.w_tryK3, Ev.w_tryf, Ev.w_tryF1, Ev.w_tryF2, Ev.w_tryF3, Ev.w_an, Ev.w_ani, Ev.w_fAc, Ev.w_ac, Ev.w_fmnil, Ev.w_consK, Ev.w_consO1, Ev.w_consO2, Ev.w_fmcons, Ev.w_fmmap, Ev.w_fmintM, Ev.w_ffintM, Ev.w_fmintR, Ev.w_ffintR, Ev.w_fmblM, Ev.w_ffblM, Ev.w_fmblR, Ev.w_ffblR, Ev.w_fmstrM, Ev.w_ffstrM, Ev.w_fmstrR, Ev.w_ffstrR, Ev.w_fmtupM, Ev.w_fftupM, Ev.w_fmtupR, Ev.w_fftupR, Ev.w_fmlstM, Ev.w_fflstM, Ev.w_fmlstR, Ev.w_fflstR, Ev.w_mapid, Ev.w_fSm, Ev.w_fCv2, Ev.w_nrK, Ev.w_nrB, Ev.w_cvK, Ev.w_cv, Ev.w_kQ, Ev.w_fCompP, Ev.w_comp, Ev.w_wip0, Ev.w_wipS, Ev.w_fcmap, Ev.w_fcmapM, Ev.w_fcmapR, Ev.w_fcbrM, Ev.w_fcbrR, Ev.w_fCc3, Ev.w_fCc2, Ev.w_ccK, Ev.w_cc, Ev.w_fComp2P, Ev.w_comp2, Ev.w_fmrg0, Ev.w_fmrgA, Ev.w_fcrg0, Ev.w_fcrgA, Ev.w_decT, Ev.w_decF, Ev.w_nT, Ev.w_nF, Ev.w_aT, Ev.w_aF, Ev.w_oT, Ev.w_oF, Ev.w_aT', Ev.w_aF', Ev.w_oT', Ev.w_oF', Ev.w_bb1, Ev.w_bb2, Ev.w_bb3, Ev.w_bb4, Ev.w_dand, Ev.w_dor, Ev.w_dnot, Ev.w_isE, Ev.w_forkP, Ev.w_forkN, Ev.w_brP, Ev.w_brN, Ev.w_tb, Ev.w_ti, Ev.w_tl, Ev.w_tt, Ev.w_tn, Ev.w_ii, Ev.w_it, Ev.w_il, Ev.w_is, Ev.w_ib, Ev.w_in, Ev.w_ivi, Ev.w_ivb, Ev.w_ivt, Ev.w_y1, Ev.w_y2, Ev.w_y3, Ev.w_y4, Ev.w_y5, Ev.w_y6, Ev.w_y7, Ev.w_y8, Ev.w_y9, Ev.w_y10, Ev.w_y11, Ev.w_y12, Ev.w_y13, Ev.w_y14, Ev.w_y15, Ev.w_y16, Ev.w_y17, Ev.w_y18, Ev.w_y19, Ev.w_st, Ev.w_sll, Ev.w_sc, Ev.w_add, Ev.w_sub, Ev.w_mul, Ev.w_mul', Ev.w_mod, Ev.w_fdiv, Ev.w_auga, Ev.w_augs, Ev.w_augd, Ev.w_augt, Ev.w_lt, Ev.w_le, Ev.w_gt, Ev.w_ge, Ev.w_eq, Ev.w_ne, Ev.w_eqs, Ev.w_nes, Ev.w_isn1, Ev.w_isn2, Ev.w_isn3, Ev.w_isn4, Ev.w_isn5, Ev.w_isn6, Ev.w_isn7, Ev.w_isn8, Ev.w_isn9, Ev.w_isn10, Ev.w_abs, Ev.w_int, Ev.w_lent, Ev.w_lenl, Ev.w_tupl, Ev.w_tupt, Ev.w_lisl, Ev.w_list, Ev.w_lisc, Ev.w_min2, Ev.w_max2, Ev.w_sum, Ev.w_all, Ev.w_any, Ev.w_lenm, Ev.w_len0, Ev.w_lenc, Ev.w_lena, Ev.w_lenr, Ev.w_i0, Ev.w_i1, Ev.w_i2, Ev.w_i3, Ev.w_j0, Ev.w_j1, Ev.w_j2, Ev.w_j3, Ev.w_ixt, Ev.w_ixl, Ev.w_ixnt, Ev.w_ixnl, Ev.w_toN, Ev.w_toN1, Ev.w_toN2, Ev.w_toN3, Ev.w_toN4, Ev.w_toN5, Ev.w_toN6, Ev.w_toN7, Ev.w_toN8, Ev.w_slt, Ev.w_sllm, Ev.w_cut1, Ev.w_cut2, Ev.w_cut3, Ev.w_rng1, Ev.w_rng2, Ev.w_enum, Ev.w_enuml, Ev.w_zip, Ev.w_addt, Ev.w_addl, Ev.w_adds, Ev.w_mapa, Ev.w_appI, Ev.w_consI, Ev.w_appT, Ev.w_appn, Ev.w_appn', Ev.w_appc, Ev.w_push, Ev.w_setP, Ev.w_setI, Ev.w_lfi, Ev.w_lfb, Ev.w_lfs', Ev.w_lfn, Ev.w_lft, Ev.w_lfl, Ev.w_lfv, Ev.w_lfs0, Ev.w_lfsc, Ev.w_lfm, Ev.w_eqT, Ev.w_neT, Ev.w_eqL, Ev.w_neL, Ev.w_inI, Ev.w_inIl, Ev.w_ninI, Ev.w_ninIl, Ev.w_fr, Ev.w_fn', Ev.w_fx, Ev.w_frb, Ev.w_finR1, Ev.w_finR2, Ev.w_finR3, Ev.w_finB1, Ev.w_finB2, Ev.w_finB3, Ev.w_okB, Ev.w_xB, Ev.w_gvst, Ev.w_okst, Ev.w_xst, Ev.w_askK1, Ev.w_askK2, Ev.w_askW, eq_self, Classical.not_not, Int.reduceToNat, Int.reduceAdd, Int.reduceSub, Int.reduceNeg, Int.reduceLT, Int.reduceLE, Nat.reduceAdd, Nat.reduceSub, Nat.reduceMul, Int.reduceMul])
/-! EvW6: loops with an early return; small facts. -/
namespace Ev
open PySem
variable {W : Nat} {P : List Def} {C : Calls}
theorem forX_some {α : Type} {t : T} {b : Ss} {l : List α} {f : α → PV} {en : Env} (g : α → Option PV) (J : Env → Prop) (h0 : J en)
    (hs : ∀ x ∈ l, ∀ en, J en → ∃ en1, assign t (f x) en = some en1 ∧ (∀ v, g x = some v → ∃ en', evalSs C W b en1 = .rt v en') ∧ (g x = none → ∃ en', (evalSs C W b en1 = .nx en' ∨ evalSs C W b en1 = .ct en') ∧ J en')) :
    (∀ v, l.findSome? g = some v → ∃ en', forX C W t b (l.map f) en = .rt v en') ∧ (l.findSome? g = none → ∃ en', forX C W t b (l.map f) en = .nx en' ∧ J en') := by
  unfold forX
  induction l generalizing en with
  | nil => exact ⟨fun v h => (nomatch h), fun _ => ⟨en, rfl, h0⟩⟩
  | cons x l ih =>
    obtain ⟨en1, e1, h1, h2⟩ := hs x (by simp) en h0
    have hs' := fun y (hy : y ∈ l) => hs y (by simp [hy])
    have go : ∀ o, evalSs C W b en1 = o → forGo (fun x en => (ofO (assign t x en)).out fun en1 => evalSs C W b en1) ((x :: l).map f) en = match o with
      | .nx e => forGo (fun x en => (ofO (assign t x en)).out fun en1 => evalSs C W b en1) (l.map f) e
      | .ct e => forGo (fun x en => (ofO (assign t x en)).out fun en1 => evalSs C W b en1) (l.map f) e
      | .bk e => .nx e
      | o => o := by
      intro o ho
      subst ho
      show (match (ofO (assign t (f x) en)).out fun en1 => evalSs C W b en1 with
        | .nx e => forGo _ (l.map f) e
        | .ct e => forGo _ (l.map f) e
        | .bk e => .nx e
        | o => o) = _
      rw [e1]
      rfl
    rw [List.findSome?_cons]
    cases e : g x with
    | some v =>
      obtain ⟨en', e2⟩ := h1 v e
      refine ⟨fun w hw => ?_, fun hw => nomatch hw⟩
      cases hw
      exact ⟨en', go _ e2⟩
    | none =>
      obtain ⟨en', e2, j⟩ := h2 e
      rcases e2 with e2 | e2 <;> (rw [go _ e2]; exact ih j hs')
theorem w_sys0 {p : Nat} {d s : Int} : index (sysV p d s) (.int 0) = some (.int p) := nrfl rfl
theorem w_sys1 {p : Nat} {d s : Int} : index (sysV p d s) (.int 1) = some (.int d) := nrfl rfl
theorem w_sys2 {p : Nat} {d s : Int} : index (sysV p d s) (.int 2) = some (.int s) := nrfl rfl
theorem w_gvsys {env : Env} {p : Nat} {d s : Int} : gv env (sysV p d s) = .ok (sysV p d s, env) := nrfl rfl
theorem w_lfsys {p : Nat} {d s : Int} : PV.lf (sysV p d s) = true := nrfl rfl
theorem w_acsys {a r : T} {p : Nat} {d s : Int} {env : Env} : assign (.cons a r) (sysV p d s) env = assign (.cons a r) (.tup [.int p, .int d, .int s]) env := nrfl rfl
theorem w_sumt {l : List Int} : evalB .sum [.tup (l.map .int)] = some (.int l.sum) := by
  show (asIntsP (l.map .int)).map _ = _
  rw [asIntsP_map]; rfl
theorem take_snoc {α : Type} {l : List α} {j : Nat} {x : α} (h : l[j]? = some x) : l.take (j + 1) = l.take j ++ [x] := by rw [List.take_succ, h]; rfl
theorem flat_len {α β : Type} {l : List α} {g : α → List β} {k : Nat} (h : ∀ x ∈ l, (g x).length ≤ k) : (l.flatMap g).length ≤ l.length * k := by
  induction l with
  | nil => simp
  | cons x l ih =>
    have h1 := h x (by simp)
    have h2 := ih fun y hy => h y (by simp [hy])
    rw [List.flatMap_cons, List.length_append, List.length_cons, Nat.add_mul]
    omega
theorem formX_inv {α : Type} {t : T} {b : Ss} {i m : Nat} {l : List α} {f : α → PV} {en : Env} (hl : ∀ x ∈ l, (f x).lf = true) (I : Nat → Env → Prop) (hI : ∀ j en, I j en → en.getD i .undef = .lst (l.map f)) (h0 : I 0 en)
    (hs : ∀ j x en, l[j]? = some x → I j en → ∃ en1, assign t (f x) en = some en1 ∧ ∃ en', (evalSs C W b en1 = .nx en' ∨ evalSs C W b en1 = .ct en') ∧ I (j + 1) en') (hm : l.length < m) : ∃ en', formX C W t b i m 0 en = .nx en' ∧ I l.length en' := by
  have := formGo_for (f := fun x en => (ofO (assign t x en)).out fun en1 => evalSs C W b en1) (i := i) (l := l.map f) (fun x hx => by
    obtain ⟨a, ha, rfl⟩ := List.mem_map.mp hx
    exact hl a ha) I hI (fun j x en hx hj => by
      rw [List.getElem?_map, Option.map_eq_some_iff] at hx
      obtain ⟨a, ha, rfl⟩ := hx
      obtain ⟨en1, e1, en', h, k⟩ := hs j a en ha hj
      refine ⟨en', ?_, k⟩
      rw [e1]
      exact h) m 0 en (by rw [List.length_map]; omega) (Nat.zero_le _) h0
  rwa [List.length_map] at this
theorem pick_ints {n k j : Nat} (hk : P[k]? = some (pickD j)) (hj : P[j]? = some drawD) (s : LSt) (L : List Int) (h0 : L ≠ []) (h1 : L.length < 1000000) : ∃ a ∈ L, ∃ s', callN W P (n + 2) k [stP s, .lst (L.map .int)] = .ok (.int a) (stP s') := by
  obtain ⟨a, ha, e⟩ := pick_map (s := s) (f := PV.int) h0
  have hl : 1 ≤ (L.map PV.int).length := by
    cases L with
    | nil => exact absurd rfl h0
    | cons x l => simp
  have := (g_pick (W := W) (n := n) hk hj (s := s) (l := L.map .int) hl (by simpa using h1) (by rw [e]; nofun)).1
  rw [e] at this
  exact ⟨a, ha, _, this⟩
theorem pick_gen {α : Type} {n k j : Nat} (hk : P[k]? = some (pickD j)) (hj : P[j]? = some drawD) (s : LSt) (L : List α) (f : α → PV) (hf : ∀ a, f a ≠ .undef) (h0 : L ≠ []) (h1 : L.length < 1000000) : ∃ a ∈ L, ∃ s', callN W P (n + 2) k [stP s, .lst (L.map f)] = .ok (f a) (stP s') := by
  obtain ⟨a, ha, e⟩ := pick_map (s := s) (f := f) h0
  have hl : 1 ≤ (L.map f).length := by
    cases L with
    | nil => exact absurd rfl h0
    | cons x l => simp
  have := (g_pick (W := W) (n := n) hk hj (s := s) (l := L.map f) hl (by simpa using h1) (by rw [e]; exact hf a)).1
  rw [e] at this
  exact ⟨a, ha, _, this⟩
theorem draw_ex {n k : Nat} (hk : P[k]? = some drawD) (s : LSt) (m : Int) (h0 : 1 ≤ m) (h1 : m < 1073741824) : ∃ r s', callN W P (n + 1) k [stP s, .int m] = .ok (.int r) (stP s') ∧ 0 ≤ r ∧ r < m := ⟨_, _, g_draw hk h0 h1, dv_lo h0, dv_hi h0⟩
theorem getD_memD {α : Type} [Inhabited α] {l : List α} {i : Nat} (h : i < l.length) : l.getD i default ∈ l := by
  rw [List.getD_eq_getElem?_getD, List.getElem?_eq_getElem h]; exact List.getElem_mem h
theorem take_map_snoc {α β : Type} {l : List α} {j : Nat} {x : α} {g : α → β} (h : l[j]? = some x) : (l.take (j + 1)).map g = (l.take j).map g ++ [g x] := by rw [take_snoc h, List.map_append]; rfl
theorem filter_range {n m : Nat} (h : m ≤ n) {p : Nat → Bool} (hp : ∀ k, k < n → p k = decide (k < m)) : (List.range n).filter p = List.range m := by
  rw [List.filter_congr (q := fun k => decide (k < m)) fun x hx => hp x (List.mem_range.mp hx)]
  clear hp
  obtain ⟨d, rfl⟩ := Nat.le.dest h
  rw [List.range_add, List.filter_append, List.filter_eq_self.mpr fun x hx => decide_eq_true (List.mem_range.mp hx), List.filter_eq_nil_iff.mpr fun x hx => ?_, List.append_nil]
  obtain ⟨a, _, rfl⟩ := List.mem_map.mp hx
  simp
theorem whlX_inv {c : E} {b : Ss} {m k : Nat} {en : Env} (I : Nat → Env → Prop) (J : Env → Prop) (h0 : I k en) (hk : k < m)
    (hs : ∀ k en, I k en → ∃ v t en1, evalE C c en = .ok (v, en1) ∧ truth v = some t ∧ if t = true then ∃ en' k', (evalSs C W b en1 = .nx en' ∨ evalSs C W b en1 = .ct en') ∧ k' < k ∧ I k' en' else J en1) : ∃ en', whlX C W c b m en = .nx en' ∧ J en' :=
  whlX_rule (Q := fun o => ∃ en', o = .nx en' ∧ J en') I (fun k en hI => by
    obtain ⟨v, t, en1, e1, e2, h⟩ := hs k en hI
    refine ⟨v, t, en1, e1, e2, ?_⟩
    cases t with
    | true =>
      rw [if_pos rfl] at h ⊢
      exact .inl h
    | false =>
      rw [if_neg Bool.false_ne_true] at h ⊢
      exact ⟨en1, rfl, h⟩) h0 hk
theorem zipIdx_range {α : Type} [Inhabited α] {l : List α} : l.zipIdx = (List.range l.length).map fun i => (l.getD i default, i) := by
  apply List.ext_getElem
  · simp
  · intro i h1 h2
    have : i < l.length := by simpa using h1
    simp [List.getD_eq_getElem?_getD, this]
theorem zip_range {α β : Type} [Inhabited α] [Inhabited β] {a : List α} {b : List β} : a.zip b = (List.range (min a.length b.length)).map fun i => (a.getD i default, b.getD i default) := by
  apply List.ext_getElem
  · simp
  · intro i h1 h2
    have h : i < a.length ∧ i < b.length := by simp at h1; omega
    simp [List.getD_eq_getElem?_getD, h.1, h.2]
theorem getD_map {α β : Type} [Inhabited α] [Inhabited β] {l : List α} {f : α → β} {i : Nat} (h : i < l.length) : (l.map f).getD i default = f (l.getD i default) := by
  simp [List.getD_eq_getElem?_getD, h]
theorem getD_range {n i : Nat} (h : i < n) : (List.range n).getD i default = i := by
  simp [List.getD_eq_getElem?_getD, h]
theorem findSome_congr {α β : Type} {l : List α} {f g : α → Option β} (h : ∀ x ∈ l, f x = g x) : l.findSome? f = l.findSome? g := by
  induction l with
  | nil => rfl
  | cons x l ih => rw [List.findSome?_cons, List.findSome?_cons, h x (by simp), ih fun y hy => h y (by simp [hy])]
end Ev

namespace K12
open PySem PySem.Spec PyProof.Rows L2 Ev
def top (i : Nat) : Stmt := PySem.Challenge.pw_opensjust_k12_whole_wafers.main.body.getD i (.Pass ⟨0, 0, 0, 0⟩)
def s_is_integer : Stmt := top 8
def b_is_integer : Ss := (.cons (.ret (.and (.isi (.v 0) .int) (.not (.isi (.v 0) .bool)))) .nil)
def d_is_integer : Ev.Def := { np := 1, n := 1, br := false, fresh := false, ms := [], body := b_is_integer }
def i_is_integer : DefI := ⟨⟨("is_integer", none), "is_integer", "is_integer", defArgs s_is_integer, defBody s_is_integer, defScope s_is_integer, [], []⟩, d_is_integer, ["value"], ["value"], false, true⟩
def s_check_system : Stmt := top 13
def b_check_system : Ss := (.cons (.ite (.or (.not (.isi (.v 0) .tuple)) (.or (.cmp .NotEq (.blt .len (.cons (.v 0) .nil)) (.c (.int 3))) (.not (.blt .all (.cons (.comp [4] (.n 4) (.e (.v 0)) .no (.call 0 (.cons (.v 4) .nil))) .nil))))) (.cons (.raise 3 (.c (.str "system"))) .nil) .nil) (.cons (.asg (.cons (.n 1) (.cons (.n 2) (.cons (.n 3) .nil))) (.v 0)) (.cons (.ite (.or (.not (.cmp2 .LtE .LtE (.c (.int 1)) (.v 1) (.g "MAX_PINS" (.int (7))))) (.or (.not (.cmp2 .LtE .LtE (.c (.int 2)) (.v 2) (.g "MAX_DEPTHS" (.int (10))))) (.not (.cmp2 .LtE .LtE (.c (.int 0)) (.v 3) (.g "MAX_STEP" (.int (9))))))) (.cons (.raise 3 (.c (.str "system"))) .nil) .nil) .nil)))
def d_check_system : Ev.Def := { np := 1, n := 5, br := false, fresh := false, ms := [], body := b_check_system }
def i_check_system : DefI := ⟨⟨("check_system", none), "check_system", "check_system", defArgs s_check_system, defBody s_check_system, defScope s_check_system, [], []⟩, d_check_system, ["system", "pins", "depths", "step", "part"], ["system"], false, true⟩
def s_is_pin : Stmt := top 15
def b_is_pin : Ss := (.cons (.ite (.or (.not (.isi (.v 1) .tuple)) (.or (.not (.v 1)) (.not (.blt .all (.cons (.comp [3] (.n 3) (.e (.v 1)) .no (.and (.call 0 (.cons (.v 3) .nil)) (.cmp2 .LtE .Lt (.c (.int 0)) (.v 3) (.v 0)))) .nil))))) (.cons (.ret (.c (.bl false))) .nil) .nil) (.cons (.ret (.blt .all (.cons (.comp [2] (.n 2) (.rng (.cons (.bin .Sub (.blt .len (.cons (.v 1) .nil)) (.c (.int 1))) .nil)) .no (.cmp .Lt (.idx (.v 1) (.v 2)) (.idx (.v 1) (.bin .Add (.v 2) (.c (.int 1)))))) .nil))) .nil))
def d_is_pin : Ev.Def := { np := 2, n := 4, br := false, fresh := false, ms := [], body := b_is_pin }
def i_is_pin : DefI := ⟨⟨("is_pin", none), "is_pin", "is_pin", defArgs s_is_pin, defBody s_is_pin, defScope s_is_pin, [], []⟩, d_is_pin, ["depths", "value", "at", "cut"], ["depths", "value"], false, true⟩
def s_check_lock : Stmt := top 16
def b_check_lock : Ss := (.cons (.ex (.call 1 (.cons (.v 0) .nil))) (.cons (.ite (.or (.not (.isi (.v 1) .tuple)) (.cmp .NotEq (.blt .len (.cons (.v 1) .nil)) (.idx (.v 0) (.c (.int 0))))) (.cons (.raise 2 (.c (.str "form"))) .nil) .nil) (.cons (.ite (.not (.blt .all (.cons (.comp [2] (.n 2) (.e (.v 1)) .no (.call 2 (.cons (.idx (.v 0) (.c (.int 1))) (.cons (.v 2) .nil)))) .nil))) (.cons (.raise 2 (.c (.str "pin"))) .nil) .nil) .nil)))
def d_check_lock : Ev.Def := { np := 2, n := 3, br := false, fresh := false, ms := [], body := b_check_lock }
def i_check_lock : DefI := ⟨⟨("check_lock", none), "check_lock", "check_lock", defArgs s_check_lock, defBody s_check_lock, defScope s_check_lock, [], []⟩, d_check_lock, ["system", "lock", "pin"], ["system", "lock"], false, true⟩
def s_check_thick : Stmt := top 18
def b_check_thick : Ss := (.cons (.ite (.or (.not (.call 0 (.cons (.v 0) .nil))) (.not (.cmp2 .LtE .LtE (.c (.int 1)) (.v 0) (.c (.int 9))))) (.cons (.raise 3 (.c (.str "thick"))) .nil) .nil) .nil)
def d_check_thick : Ev.Def := { np := 1, n := 1, br := false, fresh := false, ms := [], body := b_check_thick }
def i_check_thick : DefI := ⟨⟨("check_thick", none), "check_thick", "check_thick", defArgs s_check_thick, defBody s_check_thick, defScope s_check_thick, [], []⟩, d_check_thick, ["thick"], ["thick"], false, true⟩
def s_stack_of : Stmt := top 19
def b_stack_of : Ss := (.cons (.ret (.bin .Add (.tup (.cons (.idx (.v 0) (.c (.int 0))) .nil)) (.blt .tuple (.cons (.comp [1] (.n 1) (.rng (.cons (.bin .Sub (.blt .len (.cons (.v 0) .nil)) (.c (.int 1))) .nil)) .no (.bin .Sub (.idx (.v 0) (.bin .Add (.v 1) (.c (.int 1)))) (.idx (.v 0) (.v 1)))) .nil)))) .nil)
def d_stack_of : Ev.Def := { np := 1, n := 2, br := false, fresh := false, ms := [], body := b_stack_of }
def i_stack_of : DefI := ⟨⟨("stack_of", none), "stack_of", "stack_of", defArgs s_stack_of, defBody s_stack_of, defScope s_stack_of, [], []⟩, d_stack_of, ["pin", "at"], ["pin"], false, true⟩
def s_judge_stacks : Stmt := top 20
def lb1_judge_stacks : Ss := (.cons (.ite (.cmp .Lt (.v 5) (.v 2)) (.cons (.ret (.tup (.cons (.c (.str "close")) (.cons (.v 3) (.cons (.v 6) .nil))))) .nil) .nil) .nil)
def lb2_judge_stacks : Ss := (.cons (.for (.cons (.n 5) (.cons (.n 6) .nil)) (.zip (.cons (.sl (.call 5 (.cons (.v 4) .nil)) (.so (.c (.int 1))) .no) (.cons (.v 4) .nil))) lb1_judge_stacks) .nil)
def b_judge_stacks : Ss := (.cons (.ex (.call 3 (.cons (.v 0) (.cons (.v 1) .nil)))) (.cons (.ex (.call 4 (.cons (.v 2) .nil))) (.cons (.for (.cons (.n 3) (.cons (.n 4) .nil)) (.enum (.v 1)) lb2_judge_stacks) (.cons (.ret (.tup (.cons (.c (.str "stacks")) (.cons (.blt .tuple (.cons (.comp [4] (.n 4) (.e (.v 1)) .no (.call 5 (.cons (.v 4) .nil))) .nil)) .nil)))) .nil))))
def d_judge_stacks : Ev.Def := { np := 3, n := 7, br := false, fresh := false, ms := [], body := b_judge_stacks }
def i_judge_stacks : DefI := ⟨⟨("judge_stacks", none), "judge_stacks", "judge_stacks", defArgs s_judge_stacks, defBody s_judge_stacks, defScope s_judge_stacks, [], []⟩, d_judge_stacks, ["system", "lock", "thick", "number", "pin", "part", "cut"], ["system", "lock", "thick"], false, true⟩
def s_lock_of_stacks : Stmt := top 21
def lb1_lock_of_stacks : Ss := (.cons (.ite (.or (.not (.isi (.v 3) .tuple)) (.or (.not (.v 3)) (.not (.blt .all (.cons (.comp [4] (.n 4) (.e (.v 3)) .no (.call 0 (.cons (.v 4) .nil))) .nil))))) (.cons (.raise 3 (.c (.str "stacks"))) .nil) .nil) (.cons (.ite (.or (.cmp .Lt (.idx (.v 3) (.c (.int 0))) (.c (.int 0))) (.or (.comp [4] (.n 4) (.e (.sl (.v 3) (.so (.c (.int 1))) .no)) (.so (.cmp .Lt (.v 4) (.c (.int 1)))) (.v 4)) (.cmp .GtE (.blt .sum (.cons (.v 3) .nil)) (.idx (.v 0) (.c (.int 1)))))) (.cons (.raise 3 (.c (.str "stacks"))) .nil) .nil) (.cons (.app 2 (.chk (.blt .tuple (.cons (.comp [5] (.n 5) (.rng (.cons (.blt .len (.cons (.v 3) .nil)) .nil)) .no (.blt .sum (.cons (.sl (.v 3) .no (.so (.bin .Add (.v 5) (.c (.int 1))))) .nil))) .nil)))) .nil)))
def b_lock_of_stacks : Ss := (.cons (.ex (.call 1 (.cons (.v 0) .nil))) (.cons (.ite (.or (.not (.isi (.v 1) .tuple)) (.cmp .NotEq (.blt .len (.cons (.v 1) .nil)) (.idx (.v 0) (.c (.int 0))))) (.cons (.raise 3 (.c (.str "stacks"))) .nil) .nil) (.cons (.masg 2 (.lst .nil)) (.cons (.for (.n 3) (.e (.v 1)) lb1_lock_of_stacks) (.cons (.ret (.chk (.blt .tuple (.cons (.m 2) .nil)))) .nil)))))
def d_lock_of_stacks : Ev.Def := { np := 2, n := 6, br := false, fresh := false, ms := [2], body := b_lock_of_stacks }
def i_lock_of_stacks : DefI := ⟨⟨("lock_of_stacks", none), "lock_of_stacks", "lock_of_stacks", defArgs s_lock_of_stacks, defBody s_lock_of_stacks, defScope s_lock_of_stacks, [], []⟩, d_lock_of_stacks, ["system", "stacks", "pins", "stack", "part", "at"], ["system", "stacks"], false, true⟩
def s_wafers_in : Stmt := top 22
def b_wafers_in : Ss := (.cons (.ex (.call 3 (.cons (.v 0) (.cons (.v 1) .nil)))) (.cons (.ret (.blt .sum (.cons (.comp [2] (.n 2) (.e (.v 1)) .no (.bin .Sub (.blt .len (.cons (.v 2) .nil)) (.c (.int 1)))) .nil))) .nil))
def d_wafers_in : Ev.Def := { np := 2, n := 3, br := false, fresh := false, ms := [], body := b_wafers_in }
def i_wafers_in : DefI := ⟨⟨("wafers_in", none), "wafers_in", "wafers_in", defArgs s_wafers_in, defBody s_wafers_in, defScope s_wafers_in, [], []⟩, d_wafers_in, ["system", "lock", "pin"], ["system", "lock"], false, true⟩
def s_count_stackable : Stmt := top 23
def lb1_count_stackable : Ss := (.cons (.app 2 (.chk (.bin .Add (.c (.int 1)) (.blt .sum (.cons (.sl (.m 2) .no (.so (.blt .max (.cons (.c (.int 0)) (.cons (.bin .Add (.bin .Sub (.v 3) (.v 1)) (.c (.int 1))) .nil))))) .nil))))) .nil)
def b_count_stackable : Ss := (.cons (.ite (.or (.not (.call 0 (.cons (.v 0) .nil))) (.not (.cmp2 .LtE .LtE (.c (.int 2)) (.v 0) (.c (.int 10))))) (.cons (.raise 3 (.c (.str "depths"))) .nil) .nil) (.cons (.ex (.call 4 (.cons (.v 1) .nil))) (.cons (.masg 2 (.lst .nil)) (.cons (.for (.n 3) (.rng (.cons (.v 0) .nil)) lb1_count_stackable) (.cons (.ret (.chk (.blt .sum (.cons (.m 2) .nil)))) .nil)))))
def d_count_stackable : Ev.Def := { np := 2, n := 4, br := false, fresh := false, ms := [2], body := b_count_stackable }
def i_count_stackable : DefI := ⟨⟨("count_stackable", none), "count_stackable", "count_stackable", defArgs s_count_stackable, defBody s_count_stackable, defScope s_count_stackable, [], []⟩, d_count_stackable, ["depths", "thick", "ends", "cut"], ["depths", "thick"], false, true⟩
def s_fewest_changes : Stmt := top 24
def lc1_fewest_changes : E := (.and (.cmp .Lt (.v 7) (.blt .min (.cons (.blt .len (.cons (.v 8) .nil)) (.cons (.blt .len (.cons (.v 9) .nil)) .nil)))) (.cmp .Eq (.idx (.v 8) (.v 7)) (.idx (.v 9) (.v 7))))
def lb2_fewest_changes : Ss := (.cons (.aug 7 .Add (.c (.int 1))) .nil)
def lb3_fewest_changes : Ss := (.cons (.asg (.cons (.n 8) (.cons (.n 9) .nil)) (.tup (.cons (.call 5 (.cons (.v 5) .nil)) (.cons (.call 5 (.cons (.v 6) .nil)) .nil)))) (.cons (.asg (.n 7) (.c (.int 0))) (.cons (.whl lc1_fewest_changes lb2_fewest_changes) (.cons (.app 4 (.chk (.bin .Sub (.bin .Add (.blt .len (.cons (.v 8) .nil)) (.blt .len (.cons (.v 9) .nil))) (.bin .Mult (.c (.int 2)) (.v 7))))) .nil))))
def b_fewest_changes : Ss := (.cons (.ex (.call 3 (.cons (.v 0) (.cons (.v 1) .nil)))) (.cons (.ex (.call 3 (.cons (.v 0) (.cons (.v 2) .nil)))) (.cons (.ex (.call 4 (.cons (.v 3) .nil))) (.cons (.masg 4 (.lst .nil)) (.cons (.for (.cons (.n 5) (.cons (.n 6) .nil)) (.zip (.cons (.v 1) (.cons (.v 2) .nil))) lb3_fewest_changes) (.cons (.ret (.chk (.blt .tuple (.cons (.m 4) .nil)))) .nil))))))
def d_fewest_changes : Ev.Def := { np := 4, n := 10, br := false, fresh := false, ms := [4], body := b_fewest_changes }
def i_fewest_changes : DefI := ⟨⟨("fewest_changes", none), "fewest_changes", "fewest_changes", defArgs s_fewest_changes, defBody s_fewest_changes, defScope s_fewest_changes, [], []⟩, d_fewest_changes, ["system", "lock", "other", "thick", "rows", "one", "two", "same", "first", "second"], ["system", "lock", "other", "thick"], false, true⟩
def s_accept_stacks : Stmt := top 25
def b_accept_stacks : Ss := (.cons (.ex (.call 3 (.cons (.v 0) (.cons (.v 1) .nil)))) (.cons (.ex (.call 4 (.cons (.v 2) .nil))) (.cons (.tryf (.cons (.asg (.n 4) (.call 7 (.cons (.v 0) (.cons (.v 3) .nil)))) .nil) 3 [1, 2, 3, 4, 5] 4 (.str "form")) (.cons (.ite (.cmp .NotEq (.v 4) (.v 1)) (.cons (.raise 4 (.c (.str "lock"))) .nil) .nil) (.cons (.ite (.comp2 [5, 6] (.n 5) (.e (.v 3)) .no [6] (.n 6) (.e (.sl (.v 5) (.so (.c (.int 1))) .no)) (.so (.cmp .Lt (.v 6) (.v 2))) (.v 6)) (.cons (.raise 4 (.c (.str "thick"))) .nil) .nil) .nil)))))
def d_accept_stacks : Ev.Def := { np := 4, n := 7, br := false, fresh := false, ms := [], body := b_accept_stacks }
def i_accept_stacks : DefI := ⟨⟨("accept_stacks", none), "accept_stacks", "accept_stacks", defArgs s_accept_stacks, defBody s_accept_stacks, defScope s_accept_stacks, [], []⟩, d_accept_stacks, ["system", "lock", "thick", "stacks", "made", "stack", "part"], ["system", "lock", "thick", "stacks"], false, false⟩
def s_law_start : Stmt := top 27
def lb1_law_start : Ss := (.cons (.asg (.n 1) (.bin .Add (.bin .Mod (.blt .int (.cons (.bin .Add (.bin .Mult (.v 1) (.c (.int 48271))) (.v 2)) .nil)) (.c (.int 2147483629))) (.c (.int 1)))) .nil)
def b_law_start : Ss := (.cons (.asg (.n 1) (.c (.int 7))) (.cons (.for (.n 2) (.e (.v 0)) lb1_law_start) (.cons (.ret (.lst (.cons (.chk1 (.blt .list (.cons (.v 0) .nil))) (.cons (.c (.int 0)) (.cons (.c (.int 0)) (.cons (.chk (.v 1)) .nil)))))) .nil)))
def d_law_start : Ev.Def := { np := 1, n := 3, br := false, fresh := true, ms := [], body := b_law_start }
def i_law_start : DefI := ⟨⟨("_law_start", none), "_law_start", "_law_start", defArgs s_law_start, defBody s_law_start, defScope s_law_start, [], []⟩, d_law_start, ["script", "seed", "cell"], ["script"], false, true⟩
def s_law_draw : Stmt := top 28
def b_law_draw : Ss := (.cons (.ite (.and (.cmp .Eq (.idx (.m 0) (.c (.int 1))) (.c (.int 0))) (.cmp .GtE (.idx (.m 0) (.c (.int 2))) (.blt .len (.cons (.idx (.m 0) (.c (.int 0))) .nil)))) (.cons (.set 0 (.c (.int 3)) (.chk (.bin .Mod (.blt .int (.cons (.bin .Add (.bin .Mult (.idx (.m 0) (.c (.int 3))) (.c (.int 48271))) (.c (.int 69621))) .nil)) (.c (.int 2147483629))))) (.cons (.ret (.chk (.bin .Mod (.blt .int (.cons (.bin .FloorDiv (.idx (.m 0) (.c (.int 3))) (.c (.int 13))) .nil)) (.v 1)))) .nil)) .nil) (.cons (.ite (.cmp .Eq (.idx (.m 0) (.c (.int 1))) (.c (.int 0))) (.cons (.set 0 (.c (.int 1)) (.chk (.blt .abs (.cons (.idx (.idx (.m 0) (.c (.int 0))) (.idx (.m 0) (.c (.int 2)))) .nil)))) (.cons (.set 0 (.c (.int 2)) (.chk (.bin .Add (.idx (.m 0) (.c (.int 2))) (.c (.int 1))))) .nil)) .nil) (.cons (.asg (.n 2) (.chk (.bin .Mod (.blt .int (.cons (.idx (.m 0) (.c (.int 1))) .nil)) (.v 1)))) (.cons (.set 0 (.c (.int 1)) (.chk (.bin .FloorDiv (.idx (.m 0) (.c (.int 1))) (.v 1)))) (.cons (.ret (.v 2)) .nil)))))
def d_law_draw : Ev.Def := { np := 2, n := 3, br := true, fresh := false, ms := [0], body := b_law_draw }
def i_law_draw : DefI := ⟨⟨("_law_draw", none), "_law_draw", "_law_draw", defArgs s_law_draw, defBody s_law_draw, defScope s_law_draw, [], []⟩, d_law_draw, ["state", "many", "value"], ["state", "many"], false, true⟩
def s_law_pick : Stmt := top 29
def b_law_pick : Ss := (.cons (.ret (.idx (.v 1) (.callr 13 0 (.cons (.blt .len (.cons (.v 1) .nil)) .nil)))) .nil)
def d_law_pick : Ev.Def := { np := 2, n := 2, br := true, fresh := false, ms := [0], body := b_law_pick }
def i_law_pick : DefI := ⟨⟨("_law_pick", none), "_law_pick", "_law_pick", defArgs s_law_pick, defBody s_law_pick, defScope s_law_pick, [], []⟩, d_law_pick, ["state", "some"], ["state", "some"], false, true⟩
def s_law_same : Stmt := top 30
def b_law_same : Ss := (.cons (.ret (.and (.cmp .Eq (.v 0) (.v 1)) (.cmp .Eq (.blt .repr (.cons (.v 0) .nil)) (.blt .repr (.cons (.v 1) .nil))))) .nil)
def d_law_same : Ev.Def := { np := 2, n := 2, br := false, fresh := false, ms := [], body := b_law_same }
def i_law_same : DefI := ⟨⟨("_law_same", none), "_law_same", "_law_same", defArgs s_law_same, defBody s_law_same, defScope s_law_same, [], []⟩, d_law_same, ["actual", "due"], ["actual", "due"], false, true⟩
def s_law_asked : Stmt := top 31
def b_law_asked : Ss := (.cons (.try (.cons (.ite (.cmp .Lt (.blt .len (.cons (.v 1) .nil)) (.c (.int 4))) (.cons (.ite (.cmp .Eq (.blt .len (.cons (.v 1) .nil)) (.c (.int 1))) (.cons (.ret (.lst (.cons (.chk (.callv 0 [9, 11, 6, 7, 8, 10] (.cons (.idx (.v 1) (.c (.int 0))) .nil))) .nil))) .nil) .nil) (.cons (.ret (.ife (.cmp .Eq (.blt .len (.cons (.v 1) .nil)) (.c (.int 2))) (.lst (.cons (.chk (.callv 0 [9, 11, 6, 7, 8, 10] (.cons (.idx (.v 1) (.c (.int 0))) (.cons (.idx (.v 1) (.c (.int 1))) .nil)))) .nil)) (.lst (.cons (.chk (.callv 0 [9, 11, 6, 7, 8, 10] (.cons (.idx (.v 1) (.c (.int 0))) (.cons (.idx (.v 1) (.c (.int 1))) (.cons (.idx (.v 1) (.c (.int 2))) .nil))))) .nil)))) .nil)) .nil) (.cons (.ite (.cmp .Eq (.blt .len (.cons (.v 1) .nil)) (.c (.int 4))) (.cons (.ret (.lst (.cons (.chk (.callv 0 [9, 11, 6, 7, 8, 10] (.cons (.idx (.v 1) (.c (.int 0))) (.cons (.idx (.v 1) (.c (.int 1))) (.cons (.idx (.v 1) (.c (.int 2))) (.cons (.idx (.v 1) (.c (.int 3))) .nil)))))) .nil))) .nil) .nil) (.cons (.ite (.cmp .Eq (.blt .len (.cons (.v 1) .nil)) (.c (.int 5))) (.cons (.ret (.lst (.cons (.chk (.callv 0 [9, 11, 6, 7, 8, 10] (.cons (.idx (.v 1) (.c (.int 0))) (.cons (.idx (.v 1) (.c (.int 1))) (.cons (.idx (.v 1) (.c (.int 2))) (.cons (.idx (.v 1) (.c (.int 3))) (.cons (.idx (.v 1) (.c (.int 4))) .nil))))))) .nil))) .nil) .nil) (.cons (.ret (.lst (.cons (.chk (.callv 0 [9, 11, 6, 7, 8, 10] (.cons (.idx (.v 1) (.c (.int 0))) (.cons (.idx (.v 1) (.c (.int 1))) (.cons (.idx (.v 1) (.c (.int 2))) (.cons (.idx (.v 1) (.c (.int 3))) (.cons (.idx (.v 1) (.c (.int 4))) (.cons (.idx (.v 1) (.c (.int 5))) .nil)))))))) .nil))) .nil)))) 0 2 [1, 2, 3, 4, 5] (.cons (.ret (.chk (.call 17 (.cons (.v 2) .nil)))) .nil)) .nil)
def d_law_asked : Ev.Def := { np := 2, n := 3, br := false, fresh := true, ms := [], body := b_law_asked }
def i_law_asked : DefI := ⟨⟨("_law_asked", none), "_law_asked", "_law_asked", defArgs s_law_asked, defBody s_law_asked, defScope s_law_asked, [], []⟩, d_law_asked, ["way", "some", "error"], ["way", "some"], false, false⟩
def s_law_word : Stmt := top 32
def b_law_word : Ss := (.cons (.asg (.n 1) (.lst (.cons (.c (.str "cut ")) (.cons (.c (.str "pin ")) (.cons (.c (.str "argument ")) (.cons (.c (.str "paper ")) (.cons (.c (.str "many ")) .nil))))))) (.cons (.asg (.n 2) (.lst (.cons (.isx 0 (some 1)) (.cons (.isx 0 (some 2)) (.cons (.isx 0 (some 3)) .nil))))) (.cons (.asg (.n 2) (.bin .Add (.v 2) (.lst (.cons (.isx 0 (some 4)) (.cons (.isx 0 (some 5)) .nil))))) (.cons (.ret (.chk (.ife (.and (.cmp .Eq (.mth .count (.v 2) (.c (.bl true))) (.c (.int 1))) (.isx 0 none)) (.bin .Add (.idx (.v 1) (.mth .index (.v 2) (.c (.bl true)))) (.fld 0 [1, 2, 3, 4, 5])) (.c (.str "other"))))) .nil))))
def d_law_word : Ev.Def := { np := 1, n := 3, br := false, fresh := false, ms := [], body := b_law_word }
def i_law_word : DefI := ⟨⟨("_law_word", none), "_law_word", "_law_word", defArgs s_law_word, defBody s_law_word, defScope s_law_word, [], []⟩, d_law_word, ["error", "heads", "found"], ["error"], true, false⟩
def s_law_system : Stmt := top 33
def b_law_system : Ss := (.cons (.asg (.cons (.n 1) (.cons (.n 2) .nil)) (.tup (.cons (.callr 14 0 (.cons (.lst (.cons (.c (.int 1)) (.cons (.c (.int 2)) (.cons (.c (.int 3)) (.cons (.c (.int 5)) (.cons (.c (.int 7)) .nil)))))) .nil)) (.cons (.callr 14 0 (.cons (.lst (.cons (.c (.int 2)) (.cons (.c (.int 3)) (.cons (.c (.int 5)) (.cons (.c (.int 9)) (.cons (.c (.int 10)) (.cons (.c (.int 10)) .nil))))))) .nil)) .nil)))) (.cons (.ret (.tup (.cons (.v 1) (.cons (.v 2) (.cons (.callr 13 0 (.cons (.c (.int 10)) .nil)) .nil))))) .nil))
def d_law_system : Ev.Def := { np := 1, n := 3, br := true, fresh := false, ms := [0], body := b_law_system }
def i_law_system : DefI := ⟨⟨("_law_system", none), "_law_system", "_law_system", defArgs s_law_system, defBody s_law_system, defScope s_law_system, [], []⟩, d_law_system, ["state", "pins", "depths"], ["state"], false, true⟩
def s_law_pin : Stmt := top 34
def b_law_pin : Ss := (.cons (.asg (.n 2) (.callr 14 0 (.cons (.lst (.cons (.c (.int 2)) (.cons (.c (.int 2)) (.cons (.c (.int 3)) (.cons (.c (.int 5)) .nil))))) .nil))) (.cons (.asg (.n 3) (.comp [4] (.n 4) (.rng (.cons (.v 1) .nil)) (.so (.cmp .Eq (.callr 13 0 (.cons (.v 2) .nil)) (.c (.int 0)))) (.v 4))) (.cons (.ret (.ife (.v 3) (.blt .tuple (.cons (.v 3) .nil)) (.tup (.cons (.callr 13 0 (.cons (.v 1) .nil)) .nil)))) .nil)))
def d_law_pin : Ev.Def := { np := 2, n := 5, br := true, fresh := false, ms := [0], body := b_law_pin }
def i_law_pin : DefI := ⟨⟨("_law_pin", none), "_law_pin", "_law_pin", defArgs s_law_pin, defBody s_law_pin, defScope s_law_pin, [], []⟩, d_law_pin, ["state", "depths", "often", "pin", "cut"], ["state", "depths"], false, true⟩
def s_law_lock : Stmt := top 35
def b_law_lock : Ss := (.cons (.ret (.blt .tuple (.cons (.comp [2] (.n 2) (.rng (.cons (.idx (.v 1) (.c (.int 0))) .nil)) .no (.callr 19 0 (.cons (.idx (.v 1) (.c (.int 1))) .nil))) .nil))) .nil)
def d_law_lock : Ev.Def := { np := 2, n := 3, br := true, fresh := false, ms := [0], body := b_law_lock }
def i_law_lock : DefI := ⟨⟨("_law_lock", none), "_law_lock", "_law_lock", defArgs s_law_lock, defBody s_law_lock, defScope s_law_lock, [], []⟩, d_law_lock, ["state", "system", "pin"], ["state", "system"], false, true⟩
def s_law_stack : Stmt := top 36
def b_law_stack : Ss := (.cons (.ret (.blt .tuple (.cons (.comp [1] (.n 1) (.rng (.cons (.blt .len (.cons (.v 0) .nil)) .nil)) .no (.bin .Sub (.idx (.v 0) (.v 1)) (.ife (.cmp .Gt (.v 1) (.c (.int 0))) (.idx (.v 0) (.bin .Sub (.v 1) (.c (.int 1)))) (.c (.int 0))))) .nil))) .nil)
def d_law_stack : Ev.Def := { np := 1, n := 2, br := false, fresh := false, ms := [], body := b_law_stack }
def i_law_stack : DefI := ⟨⟨("_law_stack", none), "_law_stack", "_law_stack", defArgs s_law_stack, defBody s_law_stack, defScope s_law_stack, [], []⟩, d_law_stack, ["pin", "k"], ["pin"], false, true⟩
def s_law_even_lock : Stmt := top 37
def lc1_law_even_lock : E := (.and (.cmp .Lt (.bin .Add (.idx (.m 5) (.neg (.c (.int 1)))) (.v 2)) (.idx (.v 1) (.c (.int 1)))) (.cmp .Gt (.callr 13 0 (.cons (.c (.int 4)) .nil)) (.c (.int 0))))
def lb2_law_even_lock : Ss := (.cons (.app 5 (.chk (.blt .min (.cons (.bin .Sub (.idx (.v 1) (.c (.int 1))) (.c (.int 1))) (.cons (.bin .Add (.chk (.bin .Add (.idx (.m 5) (.neg (.c (.int 1)))) (.v 2))) (.callr 14 0 (.cons (.lst (.cons (.c (.int 0)) (.cons (.c (.int 0)) (.cons (.c (.int 1)) .nil)))) .nil))) .nil))))) .nil)
def lb3_law_even_lock : Ss := (.cons (.masg 5 (.lst (.cons (.chk (.callr 13 0 (.cons (.idx (.v 1) (.c (.int 1))) .nil))) .nil))) (.cons (.whl lc1_law_even_lock lb2_law_even_lock) (.cons (.app 3 (.chk (.blt .tuple (.cons (.m 5) .nil)))) .nil)))
def b_law_even_lock : Ss := (.cons (.masg 3 (.lst .nil)) (.cons (.for (.n 4) (.rng (.cons (.idx (.v 1) (.c (.int 0))) .nil)) lb3_law_even_lock) (.cons (.ret (.chk (.blt .tuple (.cons (.m 3) .nil)))) .nil)))
def d_law_even_lock : Ev.Def := { np := 3, n := 6, br := true, fresh := false, ms := [0, 3, 5], body := b_law_even_lock }
def i_law_even_lock : DefI := ⟨⟨("_law_even_lock", none), "_law_even_lock", "_law_even_lock", defArgs s_law_even_lock, defBody s_law_even_lock, defScope s_law_even_lock, [], []⟩, d_law_even_lock, ["state", "system", "thick", "lock", "pin", "row"], ["state", "system", "thick"], false, true⟩
def s_law_judged : Stmt := top 38
def lb1_law_judged : Ss := (.cons (.ite (.cmp .Lt (.bin .Sub (.idx (.v 3) (.v 4)) (.idx (.v 3) (.bin .Sub (.v 4) (.c (.int 1))))) (.v 1)) (.cons (.ret (.tup (.cons (.c (.str "close")) (.cons (.v 2) (.cons (.idx (.v 3) (.bin .Sub (.v 4) (.c (.int 1)))) .nil))))) .nil) .nil) .nil)
def lb2_law_judged : Ss := (.cons (.asg (.n 3) (.idx (.v 0) (.v 2))) (.cons (.for (.n 4) (.rng (.cons (.c (.int 1)) (.cons (.blt .len (.cons (.v 3) .nil)) .nil))) lb1_law_judged) .nil))
def b_law_judged : Ss := (.cons (.for (.n 2) (.rng (.cons (.blt .len (.cons (.v 0) .nil)) .nil)) lb2_law_judged) (.cons (.ret (.tup (.cons (.c (.str "stacks")) (.cons (.blt .tuple (.cons (.comp [3] (.n 3) (.e (.v 0)) .no (.call 21 (.cons (.v 3) .nil))) .nil)) .nil)))) .nil))
def d_law_judged : Ev.Def := { np := 2, n := 5, br := false, fresh := false, ms := [], body := b_law_judged }
def i_law_judged : DefI := ⟨⟨("_law_judged", none), "_law_judged", "_law_judged", defArgs s_law_judged, defBody s_law_judged, defScope s_law_judged, [], []⟩, d_law_judged, ["lock", "thick", "number", "pin", "k"], ["lock", "thick"], false, true⟩
def s_law_stackable : Stmt := top 39
def lb1_law_stackable : Ss := (.cons (.asg (.n 2) (.bin .Add (.v 2) (.comp [4] (.n 4) (.e (.v 2)) (.so (.or (.not (.v 4)) (.cmp .GtE (.bin .Sub (.v 3) (.idx (.v 4) (.neg (.c (.int 1))))) (.v 1)))) (.bin .Add (.v 4) (.tup (.cons (.v 3) .nil)))))) .nil)
def b_law_stackable : Ss := (.cons (.asg (.n 2) (.lst (.cons (.tup .nil) .nil))) (.cons (.for (.n 3) (.rng (.cons (.v 0) .nil)) lb1_law_stackable) (.cons (.ret (.bin .Sub (.blt .len (.cons (.v 2) .nil)) (.c (.int 1)))) .nil)))
def d_law_stackable : Ev.Def := { np := 2, n := 5, br := false, fresh := false, ms := [], body := b_law_stackable }
def i_law_stackable : DefI := ⟨⟨("_law_stackable", none), "_law_stackable", "_law_stackable", defArgs s_law_stackable, defBody s_law_stackable, defScope s_law_stackable, [], []⟩, d_law_stackable, ["depths", "thick", "rows", "cut", "row"], ["depths", "thick"], false, true⟩
def s_law_changes : Stmt := top 40
def b_law_changes : Ss := (.cons (.asg (.cons (.n 3) (.cons (.n 4) .nil)) (.tup (.cons (.call 21 (.cons (.v 0) .nil)) (.cons (.call 21 (.cons (.v 1) .nil)) .nil)))) (.cons (.asg (.n 2) (.idx (.comp [5] (.n 5) (.rng (.cons (.bin .Add (.blt .min (.cons (.blt .len (.cons (.v 3) .nil)) (.cons (.blt .len (.cons (.v 4) .nil)) .nil))) (.c (.int 1))) .nil)) (.so (.cmp .Eq (.sl (.v 3) .no (.so (.v 5))) (.sl (.v 4) .no (.so (.v 5))))) (.v 5)) (.neg (.c (.int 1))))) (.cons (.ret (.bin .Sub (.bin .Add (.blt .len (.cons (.v 3) .nil)) (.blt .len (.cons (.v 4) .nil))) (.bin .Mult (.c (.int 2)) (.v 2)))) .nil)))
def d_law_changes : Ev.Def := { np := 2, n := 6, br := false, fresh := false, ms := [], body := b_law_changes }
def i_law_changes : DefI := ⟨⟨("_law_changes", none), "_law_changes", "_law_changes", defArgs s_law_changes, defBody s_law_changes, defScope s_law_changes, [], []⟩, d_law_changes, ["one", "other", "same", "first", "second", "k"], ["one", "other"], false, true⟩
def s_law : Stmt := top 41
def lb1_law : Ss := (.cons (.asg (.n 8) (.call 23 (.cons (.v 4) (.cons (.v 6) .nil)))) (.cons (.ite (.not (.call 15 (.cons (.call 16 (.cons (.fn 6) (.cons (.lst (.cons (.v 7) (.cons (.v 4) (.cons (.v 6) .nil)))) .nil))) (.cons (.lst (.cons (.v 8) .nil)) .nil)))) (.cons (.ret (.c (.bl false))) .nil) .nil) (.cons (.asg (.n 9) (.blt .tuple (.cons (.comp [13] (.n 13) (.e (.v 4)) .no (.call 21 (.cons (.v 13) .nil))) .nil))) (.cons (.ite (.not (.call 15 (.cons (.call 16 (.cons (.fn 7) (.cons (.lst (.cons (.v 7) (.cons (.v 9) .nil))) .nil))) (.cons (.lst (.cons (.v 4) .nil)) .nil)))) (.cons (.ret (.c (.bl false))) .nil) .nil) (.cons (.asg (.n 10) (.call 16 (.cons (.fn 11) (.cons (.lst (.cons (.v 7) (.cons (.v 4) (.cons (.v 6) (.cons (.v 9) .nil))))) .nil)))) (.cons (.ite (.not (.call 15 (.cons (.v 10) (.cons (.ife (.cmp .Eq (.idx (.v 8) (.c (.int 0))) (.c (.str "stacks"))) (.lst (.cons (.c .non) .nil)) (.c (.str "paper thick"))) .nil)))) (.cons (.ret (.c (.bl false))) .nil) .nil) (.cons (.ite (.not (.call 15 (.cons (.call 16 (.cons (.fn 8) (.cons (.lst (.cons (.v 7) (.cons (.v 4) .nil))) .nil))) (.cons (.lst (.cons (.bin .Sub (.blt .sum (.cons (.comp [13] (.n 13) (.e (.v 4)) .no (.blt .len (.cons (.v 13) .nil))) .nil)) (.idx (.v 7) (.c (.int 0)))) .nil)) .nil)))) (.cons (.ret (.c (.bl false))) .nil) .nil) (.cons (.asg (.n 11) (.chk (.callrm 14 1 3))) (.cons (.asg (.n 12) (.blt .tuple (.cons (.comp [13] (.n 13) (.rng (.cons (.idx (.v 7) (.c (.int 0))) .nil)) .no (.call 25 (.cons (.idx (.v 4) (.v 13)) (.cons (.idx (.v 11) (.v 13)) .nil)))) .nil))) (.cons (.ite (.not (.call 15 (.cons (.call 16 (.cons (.fn 10) (.cons (.lst (.cons (.v 7) (.cons (.v 4) (.cons (.v 11) (.cons (.v 6) .nil))))) .nil))) (.cons (.lst (.cons (.v 12) .nil)) .nil)))) (.cons (.ret (.c (.bl false))) .nil) .nil) .nil))))))))))
def lb2_law : Ss := (.cons (.asg (.cons (.n 7) (.cons (.n 6) .nil)) (.tup (.cons (.callr 18 1 .nil) (.cons (.callr 14 1 (.cons (.lst (.cons (.c (.int 1)) (.cons (.c (.int 2)) (.cons (.c (.int 3)) (.cons (.c (.int 9)) (.cons (.bin .Add (.c (.int 1)) (.callr 13 1 (.cons (.c (.int 9)) .nil))) .nil)))))) .nil)) .nil)))) (.cons (.masg 3 (.lst (.cons (.chk (.callr 20 1 (.cons (.v 7) .nil))) (.cons (.chk (.callr 22 1 (.cons (.v 7) (.cons (.v 6) .nil)))) (.cons (.chk (.callr 22 1 (.cons (.v 7) (.cons (.v 6) .nil)))) .nil))))) (.cons (.app 3 (.chk (.blt .tuple (.cons (.comp [13] (.n 13) (.rng (.cons (.idx (.v 7) (.c (.int 0))) .nil)) .no (.callr 14 1 (.cons (.lst (.cons (.chk (.idx (.idx (.m 3) (.c (.int 0))) (.v 13))) (.cons (.chk (.idx (.idx (.m 3) (.c (.int 1))) (.v 13))) (.cons (.chk (.sl (.idx (.idx (.m 3) (.c (.int 1))) (.v 13)) .no (.so (.c (.int 1))))) (.cons (.chk (.idx (.idx (.m 3) (.c (.int 2))) (.v 13))) .nil))))) .nil))) .nil)))) (.cons (.form (.n 4) 3 lb1_law) .nil))))
def b_law : Ss := (.cons (.masg 1 (.call 12 (.cons (.v 0) .nil))) (.cons (.for (.n 2) (.rng (.cons (.c (.int 4)) .nil)) lb2_law) (.cons (.asg (.cons (.n 5) (.cons (.n 6) .nil)) (.tup (.cons (.bin .Add (.c (.int 2)) (.callr 13 1 (.cons (.c (.int 9)) .nil))) (.cons (.bin .Add (.c (.int 1)) (.callr 13 1 (.cons (.c (.int 9)) .nil))) .nil)))) (.cons (.ret (.call 15 (.cons (.call 16 (.cons (.fn 9) (.cons (.lst (.cons (.v 5) (.cons (.v 6) .nil))) .nil))) (.cons (.lst (.cons (.call 24 (.cons (.v 5) (.cons (.v 6) .nil))) .nil)) .nil)))) .nil))))
def d_law : Ev.Def := { np := 1, n := 14, br := false, fresh := false, ms := [1, 3], body := b_law }
def i_law : DefI := ⟨⟨("law", none), "law", "law", defArgs s_law, defBody s_law, defScope s_law, [], []⟩, d_law, ["script", "state", "turn", "locks", "lock", "depths", "thick", "system", "due", "stacks", "told", "other", "rows", "pin"], ["script"], false, false⟩
def DI : List DefI := [i_is_integer, i_check_system, i_is_pin, i_check_lock, i_check_thick, i_stack_of, i_judge_stacks, i_lock_of_stacks, i_wafers_in, i_count_stackable, i_fewest_changes, i_accept_stacks, i_law_start, i_law_draw, i_law_pick, i_law_same, i_law_asked, i_law_word, i_law_system, i_law_pin, i_law_lock, i_law_stack, i_law_even_lock, i_law_judged, i_law_stackable, i_law_changes, i_law]
def x_CutError : XD := ⟨"CutError", "reason", "__init__", "CutError.__init__", defArgs (clsDef (top 2)), defScope (clsDef (top 2)), posOf (defBody (clsDef (top 2)))⟩
def x_PinError : XD := ⟨"PinError", "reason", "__init__", "PinError.__init__", defArgs (clsDef (top 3)), defScope (clsDef (top 3)), posOf (defBody (clsDef (top 3)))⟩
def x_ArgumentError : XD := ⟨"ArgumentError", "reason", "__init__", "ArgumentError.__init__", defArgs (clsDef (top 4)), defScope (clsDef (top 4)), posOf (defBody (clsDef (top 4)))⟩
def x_PaperError : XD := ⟨"PaperError", "reason", "__init__", "PaperError.__init__", defArgs (clsDef (top 5)), defScope (clsDef (top 5)), posOf (defBody (clsDef (top 5)))⟩
def x_TooMany : XD := ⟨"TooMany", "reason", "__init__", "TooMany.__init__", defArgs (clsDef (top 6)), defScope (clsDef (top 6)), posOf (defBody (clsDef (top 6)))⟩
def DX : List XC := [(⟨"LockError", "reason"⟩, none), (⟨"CutError", "reason"⟩, some x_CutError), (⟨"PinError", "reason"⟩, some x_PinError), (⟨"ArgumentError", "reason"⟩, some x_ArgumentError), (⟨"PaperError", "reason"⟩, some x_PaperError), (⟨"TooMany", "reason"⟩, some x_TooMany)]
theorem xb : ∀ d ∈ DX.filterMap (·.2), ∀ (K : PySem.W.Frag) (cc c : Addr) (doc pm ctv : Value), Binds K (NdefX.NF.fd ⟨d.name, d.qual, d.params, d.body, d.scope, [("__class__", cc)], c⟩ doc pm ctv) ["self", d.f] [] := by
  intro d hd
  have h : d = x_CutError ∨ d = x_PinError ∨ d = x_ArgumentError ∨ d = x_PaperError ∨ d = x_TooMany := by simpa [DX] using hd
  rcases h with rfl | rfl | rfl | rfl | rfl <;> (intro K cc c doc pm ctv; exact Binds.all fun us hl => match us, hl with | [_, _], _ => rfl)
def cs : List (Str × PV) := [("MAX_PINS", .int (7)), ("MAX_DEPTHS", .int (10)), ("MAX_STEP", .int (9))]
def lawAt : Nat := 41
def lawNo : Nat := 26
def loose : List Str := [("LockError" : Str), ("CutError" : Str), ("PinError" : Str), ("ArgumentError" : Str), ("PaperError" : Str), ("TooMany" : Str), ("is_integer" : Str), ("MAX_PINS" : Str), ("MAX_DEPTHS" : Str), ("MAX_STEP" : Str), ("check_system" : Str), ("is_pin" : Str), ("check_lock" : Str), ("check_thick" : Str), ("stack_of" : Str), ("judge_stacks" : Str), ("lock_of_stacks" : Str), ("wafers_in" : Str), ("count_stackable" : Str), ("fewest_changes" : Str), ("accept_stacks" : Str), ("_law_start" : Str), ("_law_draw" : Str), ("_law_pick" : Str), ("_law_same" : Str), ("_law_asked" : Str), ("_law_word" : Str), ("_law_system" : Str), ("_law_pin" : Str), ("_law_lock" : Str), ("_law_stack" : Str), ("_law_even_lock" : Str), ("_law_judged" : Str), ("_law_stackable" : Str), ("_law_changes" : Str)]
theorem bi_is_integer {K : PySem.W.Frag} {f : Addr} {fd : FuncData} (F : FunD K i_is_integer.he.name i_is_integer.he.qual i_is_integer.he.params i_is_integer.he.body i_is_integer.he.scope [] [] f fd) : Binds K fd i_is_integer.ps [] :=
  FunD.bindsN (ps := ["value"]) F fun _ _ _ _ _ _ us hl => match us, hl with | [_], _ => rfl
theorem bi_check_system {K : PySem.W.Frag} {f : Addr} {fd : FuncData} (F : FunD K i_check_system.he.name i_check_system.he.qual i_check_system.he.params i_check_system.he.body i_check_system.he.scope [] [] f fd) : Binds K fd i_check_system.ps [] :=
  FunD.bindsN (ps := ["system"]) F fun _ _ _ _ _ _ us hl => match us, hl with | [_], _ => rfl
theorem bi_is_pin {K : PySem.W.Frag} {f : Addr} {fd : FuncData} (F : FunD K i_is_pin.he.name i_is_pin.he.qual i_is_pin.he.params i_is_pin.he.body i_is_pin.he.scope [] [] f fd) : Binds K fd i_is_pin.ps [] :=
  FunD.bindsN (ps := ["depths", "value"]) F fun _ _ _ _ _ _ us hl => match us, hl with | [_, _], _ => rfl
theorem bi_check_lock {K : PySem.W.Frag} {f : Addr} {fd : FuncData} (F : FunD K i_check_lock.he.name i_check_lock.he.qual i_check_lock.he.params i_check_lock.he.body i_check_lock.he.scope [] [] f fd) : Binds K fd i_check_lock.ps [] :=
  FunD.bindsN (ps := ["system", "lock"]) F fun _ _ _ _ _ _ us hl => match us, hl with | [_, _], _ => rfl
theorem bi_check_thick {K : PySem.W.Frag} {f : Addr} {fd : FuncData} (F : FunD K i_check_thick.he.name i_check_thick.he.qual i_check_thick.he.params i_check_thick.he.body i_check_thick.he.scope [] [] f fd) : Binds K fd i_check_thick.ps [] :=
  FunD.bindsN (ps := ["thick"]) F fun _ _ _ _ _ _ us hl => match us, hl with | [_], _ => rfl
theorem bi_stack_of {K : PySem.W.Frag} {f : Addr} {fd : FuncData} (F : FunD K i_stack_of.he.name i_stack_of.he.qual i_stack_of.he.params i_stack_of.he.body i_stack_of.he.scope [] [] f fd) : Binds K fd i_stack_of.ps [] :=
  FunD.bindsN (ps := ["pin"]) F fun _ _ _ _ _ _ us hl => match us, hl with | [_], _ => rfl
theorem bi_judge_stacks {K : PySem.W.Frag} {f : Addr} {fd : FuncData} (F : FunD K i_judge_stacks.he.name i_judge_stacks.he.qual i_judge_stacks.he.params i_judge_stacks.he.body i_judge_stacks.he.scope [] [] f fd) : Binds K fd i_judge_stacks.ps [] :=
  FunD.bindsN (ps := ["system", "lock", "thick"]) F fun _ _ _ _ _ _ us hl => match us, hl with | [_, _, _], _ => rfl
theorem bi_lock_of_stacks {K : PySem.W.Frag} {f : Addr} {fd : FuncData} (F : FunD K i_lock_of_stacks.he.name i_lock_of_stacks.he.qual i_lock_of_stacks.he.params i_lock_of_stacks.he.body i_lock_of_stacks.he.scope [] [] f fd) : Binds K fd i_lock_of_stacks.ps [] :=
  FunD.bindsN (ps := ["system", "stacks"]) F fun _ _ _ _ _ _ us hl => match us, hl with | [_, _], _ => rfl
theorem bi_wafers_in {K : PySem.W.Frag} {f : Addr} {fd : FuncData} (F : FunD K i_wafers_in.he.name i_wafers_in.he.qual i_wafers_in.he.params i_wafers_in.he.body i_wafers_in.he.scope [] [] f fd) : Binds K fd i_wafers_in.ps [] :=
  FunD.bindsN (ps := ["system", "lock"]) F fun _ _ _ _ _ _ us hl => match us, hl with | [_, _], _ => rfl
theorem bi_count_stackable {K : PySem.W.Frag} {f : Addr} {fd : FuncData} (F : FunD K i_count_stackable.he.name i_count_stackable.he.qual i_count_stackable.he.params i_count_stackable.he.body i_count_stackable.he.scope [] [] f fd) : Binds K fd i_count_stackable.ps [] :=
  FunD.bindsN (ps := ["depths", "thick"]) F fun _ _ _ _ _ _ us hl => match us, hl with | [_, _], _ => rfl
theorem bi_fewest_changes {K : PySem.W.Frag} {f : Addr} {fd : FuncData} (F : FunD K i_fewest_changes.he.name i_fewest_changes.he.qual i_fewest_changes.he.params i_fewest_changes.he.body i_fewest_changes.he.scope [] [] f fd) : Binds K fd i_fewest_changes.ps [] :=
  FunD.bindsN (ps := ["system", "lock", "other", "thick"]) F fun _ _ _ _ _ _ us hl => match us, hl with | [_, _, _, _], _ => rfl
theorem bi_accept_stacks {K : PySem.W.Frag} {f : Addr} {fd : FuncData} (F : FunD K i_accept_stacks.he.name i_accept_stacks.he.qual i_accept_stacks.he.params i_accept_stacks.he.body i_accept_stacks.he.scope [] [] f fd) : Binds K fd i_accept_stacks.ps [] :=
  FunD.bindsN (ps := ["system", "lock", "thick", "stacks"]) F fun _ _ _ _ _ _ us hl => match us, hl with | [_, _, _, _], _ => rfl
theorem bi_law_start {K : PySem.W.Frag} {f : Addr} {fd : FuncData} (F : FunD K i_law_start.he.name i_law_start.he.qual i_law_start.he.params i_law_start.he.body i_law_start.he.scope [] [] f fd) : Binds K fd i_law_start.ps [] :=
  FunD.bindsN (ps := ["script"]) F fun _ _ _ _ _ _ us hl => match us, hl with | [_], _ => rfl
theorem bi_law_draw {K : PySem.W.Frag} {f : Addr} {fd : FuncData} (F : FunD K i_law_draw.he.name i_law_draw.he.qual i_law_draw.he.params i_law_draw.he.body i_law_draw.he.scope [] [] f fd) : Binds K fd i_law_draw.ps [] :=
  FunD.bindsN (ps := ["state", "many"]) F fun _ _ _ _ _ _ us hl => match us, hl with | [_, _], _ => rfl
theorem bi_law_pick {K : PySem.W.Frag} {f : Addr} {fd : FuncData} (F : FunD K i_law_pick.he.name i_law_pick.he.qual i_law_pick.he.params i_law_pick.he.body i_law_pick.he.scope [] [] f fd) : Binds K fd i_law_pick.ps [] :=
  FunD.bindsN (ps := ["state", "some"]) F fun _ _ _ _ _ _ us hl => match us, hl with | [_, _], _ => rfl
theorem bi_law_same {K : PySem.W.Frag} {f : Addr} {fd : FuncData} (F : FunD K i_law_same.he.name i_law_same.he.qual i_law_same.he.params i_law_same.he.body i_law_same.he.scope [] [] f fd) : Binds K fd i_law_same.ps [] :=
  FunD.bindsN (ps := ["actual", "due"]) F fun _ _ _ _ _ _ us hl => match us, hl with | [_, _], _ => rfl
theorem bi_law_asked {K : PySem.W.Frag} {f : Addr} {fd : FuncData} (F : FunD K i_law_asked.he.name i_law_asked.he.qual i_law_asked.he.params i_law_asked.he.body i_law_asked.he.scope [] [] f fd) : Binds K fd i_law_asked.ps [] :=
  FunD.bindsN (ps := ["way", "some"]) F fun _ _ _ _ _ _ us hl => match us, hl with | [_, _], _ => rfl
theorem bi_law_word {K : PySem.W.Frag} {f : Addr} {fd : FuncData} (F : FunD K i_law_word.he.name i_law_word.he.qual i_law_word.he.params i_law_word.he.body i_law_word.he.scope [] [] f fd) : Binds K fd i_law_word.ps [] :=
  FunD.bindsN (ps := ["error"]) F fun _ _ _ _ _ _ us hl => match us, hl with | [_], _ => rfl
theorem bi_law_system {K : PySem.W.Frag} {f : Addr} {fd : FuncData} (F : FunD K i_law_system.he.name i_law_system.he.qual i_law_system.he.params i_law_system.he.body i_law_system.he.scope [] [] f fd) : Binds K fd i_law_system.ps [] :=
  FunD.bindsN (ps := ["state"]) F fun _ _ _ _ _ _ us hl => match us, hl with | [_], _ => rfl
theorem bi_law_pin {K : PySem.W.Frag} {f : Addr} {fd : FuncData} (F : FunD K i_law_pin.he.name i_law_pin.he.qual i_law_pin.he.params i_law_pin.he.body i_law_pin.he.scope [] [] f fd) : Binds K fd i_law_pin.ps [] :=
  FunD.bindsN (ps := ["state", "depths"]) F fun _ _ _ _ _ _ us hl => match us, hl with | [_, _], _ => rfl
theorem bi_law_lock {K : PySem.W.Frag} {f : Addr} {fd : FuncData} (F : FunD K i_law_lock.he.name i_law_lock.he.qual i_law_lock.he.params i_law_lock.he.body i_law_lock.he.scope [] [] f fd) : Binds K fd i_law_lock.ps [] :=
  FunD.bindsN (ps := ["state", "system"]) F fun _ _ _ _ _ _ us hl => match us, hl with | [_, _], _ => rfl
theorem bi_law_stack {K : PySem.W.Frag} {f : Addr} {fd : FuncData} (F : FunD K i_law_stack.he.name i_law_stack.he.qual i_law_stack.he.params i_law_stack.he.body i_law_stack.he.scope [] [] f fd) : Binds K fd i_law_stack.ps [] :=
  FunD.bindsN (ps := ["pin"]) F fun _ _ _ _ _ _ us hl => match us, hl with | [_], _ => rfl
theorem bi_law_even_lock {K : PySem.W.Frag} {f : Addr} {fd : FuncData} (F : FunD K i_law_even_lock.he.name i_law_even_lock.he.qual i_law_even_lock.he.params i_law_even_lock.he.body i_law_even_lock.he.scope [] [] f fd) : Binds K fd i_law_even_lock.ps [] :=
  FunD.bindsN (ps := ["state", "system", "thick"]) F fun _ _ _ _ _ _ us hl => match us, hl with | [_, _, _], _ => rfl
theorem bi_law_judged {K : PySem.W.Frag} {f : Addr} {fd : FuncData} (F : FunD K i_law_judged.he.name i_law_judged.he.qual i_law_judged.he.params i_law_judged.he.body i_law_judged.he.scope [] [] f fd) : Binds K fd i_law_judged.ps [] :=
  FunD.bindsN (ps := ["lock", "thick"]) F fun _ _ _ _ _ _ us hl => match us, hl with | [_, _], _ => rfl
theorem bi_law_stackable {K : PySem.W.Frag} {f : Addr} {fd : FuncData} (F : FunD K i_law_stackable.he.name i_law_stackable.he.qual i_law_stackable.he.params i_law_stackable.he.body i_law_stackable.he.scope [] [] f fd) : Binds K fd i_law_stackable.ps [] :=
  FunD.bindsN (ps := ["depths", "thick"]) F fun _ _ _ _ _ _ us hl => match us, hl with | [_, _], _ => rfl
theorem bi_law_changes {K : PySem.W.Frag} {f : Addr} {fd : FuncData} (F : FunD K i_law_changes.he.name i_law_changes.he.qual i_law_changes.he.params i_law_changes.he.body i_law_changes.he.scope [] [] f fd) : Binds K fd i_law_changes.ps [] :=
  FunD.bindsN (ps := ["one", "other"]) F fun _ _ _ _ _ _ us hl => match us, hl with | [_, _], _ => rfl
theorem bi_law {K : PySem.W.Frag} {f : Addr} {fd : FuncData} (F : FunD K i_law.he.name i_law.he.qual i_law.he.params i_law.he.body i_law.he.scope [] [] f fd) : Binds K fd i_law.ps [] :=
  FunD.bindsN (ps := ["script"]) F fun _ _ _ _ _ _ us hl => match us, hl with | [_], _ => rfl
theorem bind (k : Nat) (D : DefI) (K : PySem.W.Frag) (f : Addr) (fd : FuncData) (h : DI[k]? = some D) (F : FunD K D.he.name D.he.qual D.he.params D.he.body D.he.scope [] [] f fd) : Binds K fd D.ps [] :=
  match k, h with
  | 0, rfl => bi_is_integer F
  | 1, rfl => bi_check_system F
  | 2, rfl => bi_is_pin F
  | 3, rfl => bi_check_lock F
  | 4, rfl => bi_check_thick F
  | 5, rfl => bi_stack_of F
  | 6, rfl => bi_judge_stacks F
  | 7, rfl => bi_lock_of_stacks F
  | 8, rfl => bi_wafers_in F
  | 9, rfl => bi_count_stackable F
  | 10, rfl => bi_fewest_changes F
  | 11, rfl => bi_accept_stacks F
  | 12, rfl => bi_law_start F
  | 13, rfl => bi_law_draw F
  | 14, rfl => bi_law_pick F
  | 15, rfl => bi_law_same F
  | 16, rfl => bi_law_asked F
  | 17, rfl => bi_law_word F
  | 18, rfl => bi_law_system F
  | 19, rfl => bi_law_pin F
  | 20, rfl => bi_law_lock F
  | 21, rfl => bi_law_stack F
  | 22, rfl => bi_law_even_lock F
  | 23, rfl => bi_law_judged F
  | 24, rfl => bi_law_stackable F
  | 25, rfl => bi_law_changes F
  | 26, rfl => bi_law F
end K12

local macro_rules | `(tactic| simp! [$ls,*]) => `(tactic| simp (implicitDefEqProofs := false) (disch := (first | assumption | omega | (simp only [List.length_map, List.length_range, List.length_append, List.length_cons, List.length_nil, List.length_take, List.length_drop, List.length_set, List.length_zip, List.length_zipIdx] <;> omega) | rfl | decide)) only [Ev.w_kE1, Ev.w_kE2, Ev.w_kO1, Ev.w_kO2, Ev.w_kS1, Ev.w_kS2, Ev.w_kS3, Ev.w_kS4, Ev.w_kS5, Ev.w_pk, Ev.w_pS, Ev.w_pN, Ev.w_gvx, Ev.w_gvv, Ev.w_gvi, Ev.w_gvl, Ev.w_gvt, Ev.w_gvb, Ev.w_gvs, Ev.w_gvn, Ev.w_gvf, Ev.w_gvc, Ev.w_gve, Ev.w_gD0, Ev.w_gDS, Ev.w_sD0, Ev.w_sDS, Ev.w_gL, Ev.w_brT, Ev.w_brF, Ev.w_brid, Ev.w_brand, Ev.w_bror, Ev.w_brcmp, Ev.w_brok, Ev.w_brint, Ev.w_brbl, Ev.w_brstr, Ev.w_c, Ev.w_g, Ev.w_fn, Ev.w_v, Ev.w_m, Ev.w_mv, Ev.w_fMv, Ev.w_chk, Ev.w_fChk, Ev.w_chkL, Ev.w_fChk1, Ev.w_chk1, Ev.w_bin, Ev.w_fBin1, Ev.w_fBin2, Ev.w_negP, Ev.w_fNeg, Ev.w_neg, Ev.w_notB, Ev.w_fNot, Ev.w_not, Ev.w_andK, Ev.w_fAnd, Ev.w_and, Ev.w_fOr, Ev.w_or, Ev.w_fIfe, Ev.w_ife, Ev.w_blO, Ev.w_fCmp1, Ev.w_fCmp2, Ev.w_cmp, Ev.w_fCh1, Ev.w_fCh2, Ev.w_cmp2, Ev.w_fCall, Ev.w_call, Ev.w_r1, Ev.w_r2, Ev.w_r3, Ev.w_r4, Ev.w_fRef1, Ev.w_fRef2, Ev.w_fRef3, Ev.w_callr, Ev.w_fRm2, Ev.w_fRm1, Ev.w_callrm, Ev.w_vK, Ev.w_callv, Ev.w_fBlt, Ev.w_blt, Ev.w_mthP, Ev.w_fMth2, Ev.w_mK, Ev.w_mth, Ev.w_fIsi, Ev.w_isi, Ev.w_fTup, Ev.w_tup, Ev.w_fLst, Ev.w_lst, Ev.w_fIdx2, Ev.w_fIdx1, Ev.w_idx, Ev.w_fSl3, Ev.w_fSl2, Ev.w_fSl1, Ev.w_sl, Ev.w_revl, Ev.w_revt, Ev.w_fRev, Ev.w_rev, Ev.w_isxP, Ev.w_isx, Ev.w_fldP, Ev.w_fld, Ev.w_cno, Ev.w_fCso, Ev.w_cso, Ev.w_anil, Ev.w_fA2, Ev.w_fA1, Ev.w_acons, Ev.w_intP, Ev.w_fOs, Ev.w_ono, Ev.w_oso, Ev.w_fIe, Ev.w_ie, Ev.w_lfsP, Ev.w_fIm, Ev.w_im, Ev.w_fIr, Ev.w_irng, Ev.w_fIn, Ev.w_ienum, Ev.w_zipP, Ev.w_fIz, Ev.w_izip, Ev.w_fAsg, Ev.w_asg, Ev.w_fMasg, Ev.w_masg, Ev.w_fAug2, Ev.w_fAug1, Ev.w_aug, Ev.w_fApp3, Ev.w_fApp2, Ev.w_fApp1, Ev.w_app, Ev.w_fSet4, Ev.w_fSet3, Ev.w_fSet2, Ev.w_fSet1, Ev.w_set, Ev.w_fEx, Ev.w_ex, Ev.w_fRet, Ev.w_ret, Ev.w_retn, Ev.w_forkT, Ev.w_forkF, Ev.w_fIte, Ev.w_ite, Ev.w_brk, Ev.w_cont, Ev.w_pass, Ev.w_ssnil, Ev.w_fSs, Ev.w_sscons, Ev.w_raiseK, Ev.w_fRaiseS, Ev.w_raise, Ev.w_xs, Ev.w_for, Ev.w_whl, Ev.w_form, Ev.w_hdK, Ev.w_try, Ev.w_tryK1, Ev.w_tryK2, Ev.w_tryK3, Ev.w_tryf, Ev.w_tryF1, Ev.w_tryF2, Ev.w_tryF3, Ev.w_an, Ev.w_ani, Ev.w_fAc, Ev.w_ac, Ev.w_fmnil, Ev.w_consK, Ev.w_consO1, Ev.w_consO2, Ev.w_fmcons, Ev.w_fmmap, Ev.w_fmintM, Ev.w_ffintM, Ev.w_fmintR, Ev.w_ffintR, Ev.w_fmblM, Ev.w_ffblM, Ev.w_fmblR, Ev.w_ffblR, Ev.w_fmstrM, Ev.w_ffstrM, Ev.w_fmstrR, Ev.w_ffstrR, Ev.w_fmtupM, Ev.w_fftupM, Ev.w_fmtupR, Ev.w_fftupR, Ev.w_fmlstM, Ev.w_fflstM, Ev.w_fmlstR, Ev.w_fflstR, Ev.w_mapid, Ev.w_fSm, Ev.w_fCv2, Ev.w_nrK, Ev.w_nrB, Ev.w_cvK, Ev.w_cv, Ev.w_kQ, Ev.w_fCompP, Ev.w_comp, Ev.w_wip0, Ev.w_wipS, Ev.w_fcmap, Ev.w_fcmapM, Ev.w_fcmapR, Ev.w_fcbrM, Ev.w_fcbrR, Ev.w_fCc3, Ev.w_fCc2, Ev.w_ccK, Ev.w_cc, Ev.w_fComp2P, Ev.w_comp2, Ev.w_fmrg0, Ev.w_fmrgA, Ev.w_fcrg0, Ev.w_fcrgA, Ev.w_decT, Ev.w_decF, Ev.w_nT, Ev.w_nF, Ev.w_aT, Ev.w_aF, Ev.w_oT, Ev.w_oF, Ev.w_aT', Ev.w_aF', Ev.w_oT', Ev.w_oF', Ev.w_bb1, Ev.w_bb2, Ev.w_bb3, Ev.w_bb4, Ev.w_dand, Ev.w_dor, Ev.w_dnot, Ev.w_isE, Ev.w_forkP, Ev.w_forkN, Ev.w_brP, Ev.w_brN, Ev.w_tb, Ev.w_ti, Ev.w_tl, Ev.w_tt, Ev.w_tn, Ev.w_ii, Ev.w_it, Ev.w_il, Ev.w_is, Ev.w_ib, Ev.w_in, Ev.w_ivi, Ev.w_ivb, Ev.w_ivt, Ev.w_y1, Ev.w_y2, Ev.w_y3, Ev.w_y4, Ev.w_y5, Ev.w_y6, Ev.w_y7, Ev.w_y8, Ev.w_y9, Ev.w_y10, Ev.w_y11, Ev.w_y12, Ev.w_y13, Ev.w_y14, Ev.w_y15, Ev.w_y16, Ev.w_y17, Ev.w_y18, Ev.w_y19, Ev.w_st, Ev.w_sll, Ev.w_sc, Ev.w_add, Ev.w_sub, Ev.w_mul, Ev.w_mul', Ev.w_mod, Ev.w_fdiv, Ev.w_auga, Ev.w_augs, Ev.w_augd, Ev.w_augt, Ev.w_lt, Ev.w_le, Ev.w_gt, Ev.w_ge, Ev.w_eq, Ev.w_ne, Ev.w_eqs, Ev.w_nes, Ev.w_isn1, Ev.w_isn2, Ev.w_isn3, Ev.w_isn4, Ev.w_isn5, Ev.w_isn6, Ev.w_isn7, Ev.w_isn8, Ev.w_isn9, Ev.w_isn10, Ev.w_abs, Ev.w_int, Ev.w_lent, Ev.w_lenl, Ev.w_tupl, Ev.w_tupt, Ev.w_lisl, Ev.w_list, Ev.w_lisc, Ev.w_min2, Ev.w_max2, Ev.w_sum, Ev.w_all, Ev.w_any, Ev.w_lenm, Ev.w_len0, Ev.w_lenc, Ev.w_lena, Ev.w_lenr, Ev.w_i0, Ev.w_i1, Ev.w_i2, Ev.w_i3, Ev.w_j0, Ev.w_j1, Ev.w_j2, Ev.w_j3, Ev.w_ixt, Ev.w_ixl, Ev.w_ixnt, Ev.w_ixnl, Ev.w_toN, Ev.w_toN1, Ev.w_toN2, Ev.w_toN3, Ev.w_toN4, Ev.w_toN5, Ev.w_toN6, Ev.w_toN7, Ev.w_toN8, Ev.w_slt, Ev.w_sllm, Ev.w_cut1, Ev.w_cut2, Ev.w_cut3, Ev.w_rng1, Ev.w_rng2, Ev.w_enum, Ev.w_enuml, Ev.w_zip, Ev.w_addt, Ev.w_addl, Ev.w_adds, Ev.w_mapa, Ev.w_appI, Ev.w_consI, Ev.w_appT, Ev.w_appn, Ev.w_appn', Ev.w_appc, Ev.w_push, Ev.w_setP, Ev.w_setI, Ev.w_lfi, Ev.w_lfb, Ev.w_lfs', Ev.w_lfn, Ev.w_lft, Ev.w_lfl, Ev.w_lfv, Ev.w_lfs0, Ev.w_lfsc, Ev.w_lfm, Ev.w_eqT, Ev.w_neT, Ev.w_eqL, Ev.w_neL, Ev.w_inI, Ev.w_inIl, Ev.w_ninI, Ev.w_ninIl, Ev.w_fr, Ev.w_fn', Ev.w_fx, Ev.w_frb, Ev.w_finR1, Ev.w_finR2, Ev.w_finR3, Ev.w_finB1, Ev.w_finB2, Ev.w_finB3, Ev.w_okB, Ev.w_xB, Ev.w_gvst, Ev.w_okst, Ev.w_xst, Ev.w_askK1, Ev.w_askK2, Ev.w_askW, Ev.w_sys0, Ev.w_sys1, Ev.w_sys2, Ev.w_gvsys, Ev.w_lfsys, Ev.w_acsys, Ev.w_sumt, eq_self, Classical.not_not, Int.reduceToNat, Int.reduceAdd, Int.reduceSub, Int.reduceNeg, Int.reduceLT, Int.reduceLE, Nat.reduceAdd, Nat.reduceSub, Nat.reduceMul, Int.reduceMul, $ls,*])
local macro_rules | `(tactic| simp!) => `(tactic| simp (implicitDefEqProofs := false) (disch := (first | assumption | omega | (simp only [List.length_map, List.length_range, List.length_append, List.length_cons, List.length_nil, List.length_take, List.length_drop, List.length_set, List.length_zip, List.length_zipIdx] <;> omega) | rfl | decide)) only [Ev.w_kE1, Ev.w_kE2, Ev.w_kO1, Ev.w_kO2, Ev.w_kS1, Ev.w_kS2, Ev.w_kS3, Ev.w_kS4, Ev.w_kS5, Ev.w_pk, Ev.w_pS, Ev.w_pN, Ev.w_gvx, Ev.w_gvv, Ev.w_gvi, Ev.w_gvl, Ev.w_gvt, Ev.w_gvb, Ev.w_gvs, Ev.w_gvn, Ev.w_gvf, Ev.w_gvc, Ev.w_gve, Ev.w_gD0, Ev.w_gDS, Ev.w_sD0, Ev.w_sDS, Ev.w_gL, Ev.w_brT, Ev.w_brF, Ev.w_brid, Ev.w_brand, Ev.w_bror, Ev.w_brcmp, Ev.w_brok, Ev.w_brint, Ev.w_brbl, Ev.w_brstr, Ev.w_c, Ev.w_g, Ev.w_fn, Ev.w_v, Ev.w_m, Ev.w_mv, Ev.w_fMv, Ev.w_chk, Ev.w_fChk, Ev.w_chkL, Ev.w_fChk1, Ev.w_chk1, Ev.w_bin, Ev.w_fBin1, Ev.w_fBin2, Ev.w_negP, Ev.w_fNeg, Ev.w_neg, Ev.w_notB, Ev.w_fNot, Ev.w_not, Ev.w_andK, Ev.w_fAnd, Ev.w_and, Ev.w_fOr, Ev.w_or, Ev.w_fIfe, Ev.w_ife, Ev.w_blO, Ev.w_fCmp1, Ev.w_fCmp2, Ev.w_cmp, Ev.w_fCh1, Ev.w_fCh2, Ev.w_cmp2, Ev.w_fCall, Ev.w_call, Ev.w_r1, Ev.w_r2, Ev.w_r3, Ev.w_r4, Ev.w_fRef1, Ev.w_fRef2, Ev.w_fRef3, Ev.w_callr, Ev.w_fRm2, Ev.w_fRm1, Ev.w_callrm, Ev.w_vK, Ev.w_callv, Ev.w_fBlt, Ev.w_blt, Ev.w_mthP, Ev.w_fMth2, Ev.w_mK, Ev.w_mth, Ev.w_fIsi, Ev.w_isi, Ev.w_fTup, Ev.w_tup, Ev.w_fLst, Ev.w_lst, Ev.w_fIdx2, Ev.w_fIdx1, Ev.w_idx, Ev.w_fSl3, Ev.w_fSl2, Ev.w_fSl1, Ev.w_sl, Ev.w_revl, Ev.w_revt, Ev.w_fRev, Ev.w_rev, Ev.w_isxP, Ev.w_isx, Ev.w_fldP, Ev.w_fld, Ev.w_cno, Ev.w_fCso, Ev.w_cso, Ev.w_anil, Ev.w_fA2, Ev.w_fA1, Ev.w_acons, Ev.w_intP, Ev.w_fOs, Ev.w_ono, Ev.w_oso, Ev.w_fIe, Ev.w_ie, Ev.w_lfsP, Ev.w_fIm, Ev.w_im, Ev.w_fIr, Ev.w_irng, Ev.w_fIn, Ev.w_ienum, Ev.w_zipP, Ev.w_fIz, Ev.w_izip, Ev.w_fAsg, Ev.w_asg, Ev.w_fMasg, Ev.w_masg, Ev.w_fAug2, Ev.w_fAug1, Ev.w_aug, Ev.w_fApp3, Ev.w_fApp2, Ev.w_fApp1, Ev.w_app, Ev.w_fSet4, Ev.w_fSet3, Ev.w_fSet2, Ev.w_fSet1, Ev.w_set, Ev.w_fEx, Ev.w_ex, Ev.w_fRet, Ev.w_ret, Ev.w_retn, Ev.w_forkT, Ev.w_forkF, Ev.w_fIte, Ev.w_ite, Ev.w_brk, Ev.w_cont, Ev.w_pass, Ev.w_ssnil, Ev.w_fSs, Ev.w_sscons, Ev.w_raiseK, Ev.w_fRaiseS, Ev.w_raise, Ev.w_xs, Ev.w_for, Ev.w_whl, Ev.w_form, Ev.w_hdK, Ev.w_try, Ev.w_tryK1, Ev.w_tryK2, Ev.w_tryK3, Ev.w_tryf, Ev.w_tryF1, Ev.w_tryF2, Ev.w_tryF3, Ev.w_an, Ev.w_ani, Ev.w_fAc, Ev.w_ac, Ev.w_fmnil, Ev.w_consK, Ev.w_consO1, Ev.w_consO2, Ev.w_fmcons, Ev.w_fmmap, Ev.w_fmintM, Ev.w_ffintM, Ev.w_fmintR, Ev.w_ffintR, Ev.w_fmblM, Ev.w_ffblM, Ev.w_fmblR, Ev.w_ffblR, Ev.w_fmstrM, Ev.w_ffstrM, Ev.w_fmstrR, Ev.w_ffstrR, Ev.w_fmtupM, Ev.w_fftupM, Ev.w_fmtupR, Ev.w_fftupR, Ev.w_fmlstM, Ev.w_fflstM, Ev.w_fmlstR, Ev.w_fflstR, Ev.w_mapid, Ev.w_fSm, Ev.w_fCv2, Ev.w_nrK, Ev.w_nrB, Ev.w_cvK, Ev.w_cv, Ev.w_kQ, Ev.w_fCompP, Ev.w_comp, Ev.w_wip0, Ev.w_wipS, Ev.w_fcmap, Ev.w_fcmapM, Ev.w_fcmapR, Ev.w_fcbrM, Ev.w_fcbrR, Ev.w_fCc3, Ev.w_fCc2, Ev.w_ccK, Ev.w_cc, Ev.w_fComp2P, Ev.w_comp2, Ev.w_fmrg0, Ev.w_fmrgA, Ev.w_fcrg0, Ev.w_fcrgA, Ev.w_decT, Ev.w_decF, Ev.w_nT, Ev.w_nF, Ev.w_aT, Ev.w_aF, Ev.w_oT, Ev.w_oF, Ev.w_aT', Ev.w_aF', Ev.w_oT', Ev.w_oF', Ev.w_bb1, Ev.w_bb2, Ev.w_bb3, Ev.w_bb4, Ev.w_dand, Ev.w_dor, Ev.w_dnot, Ev.w_isE, Ev.w_forkP, Ev.w_forkN, Ev.w_brP, Ev.w_brN, Ev.w_tb, Ev.w_ti, Ev.w_tl, Ev.w_tt, Ev.w_tn, Ev.w_ii, Ev.w_it, Ev.w_il, Ev.w_is, Ev.w_ib, Ev.w_in, Ev.w_ivi, Ev.w_ivb, Ev.w_ivt, Ev.w_y1, Ev.w_y2, Ev.w_y3, Ev.w_y4, Ev.w_y5, Ev.w_y6, Ev.w_y7, Ev.w_y8, Ev.w_y9, Ev.w_y10, Ev.w_y11, Ev.w_y12, Ev.w_y13, Ev.w_y14, Ev.w_y15, Ev.w_y16, Ev.w_y17, Ev.w_y18, Ev.w_y19, Ev.w_st, Ev.w_sll, Ev.w_sc, Ev.w_add, Ev.w_sub, Ev.w_mul, Ev.w_mul', Ev.w_mod, Ev.w_fdiv, Ev.w_auga, Ev.w_augs, Ev.w_augd, Ev.w_augt, Ev.w_lt, Ev.w_le, Ev.w_gt, Ev.w_ge, Ev.w_eq, Ev.w_ne, Ev.w_eqs, Ev.w_nes, Ev.w_isn1, Ev.w_isn2, Ev.w_isn3, Ev.w_isn4, Ev.w_isn5, Ev.w_isn6, Ev.w_isn7, Ev.w_isn8, Ev.w_isn9, Ev.w_isn10, Ev.w_abs, Ev.w_int, Ev.w_lent, Ev.w_lenl, Ev.w_tupl, Ev.w_tupt, Ev.w_lisl, Ev.w_list, Ev.w_lisc, Ev.w_min2, Ev.w_max2, Ev.w_sum, Ev.w_all, Ev.w_any, Ev.w_lenm, Ev.w_len0, Ev.w_lenc, Ev.w_lena, Ev.w_lenr, Ev.w_i0, Ev.w_i1, Ev.w_i2, Ev.w_i3, Ev.w_j0, Ev.w_j1, Ev.w_j2, Ev.w_j3, Ev.w_ixt, Ev.w_ixl, Ev.w_ixnt, Ev.w_ixnl, Ev.w_toN, Ev.w_toN1, Ev.w_toN2, Ev.w_toN3, Ev.w_toN4, Ev.w_toN5, Ev.w_toN6, Ev.w_toN7, Ev.w_toN8, Ev.w_slt, Ev.w_sllm, Ev.w_cut1, Ev.w_cut2, Ev.w_cut3, Ev.w_rng1, Ev.w_rng2, Ev.w_enum, Ev.w_enuml, Ev.w_zip, Ev.w_addt, Ev.w_addl, Ev.w_adds, Ev.w_mapa, Ev.w_appI, Ev.w_consI, Ev.w_appT, Ev.w_appn, Ev.w_appn', Ev.w_appc, Ev.w_push, Ev.w_setP, Ev.w_setI, Ev.w_lfi, Ev.w_lfb, Ev.w_lfs', Ev.w_lfn, Ev.w_lft, Ev.w_lfl, Ev.w_lfv, Ev.w_lfs0, Ev.w_lfsc, Ev.w_lfm, Ev.w_eqT, Ev.w_neT, Ev.w_eqL, Ev.w_neL, Ev.w_inI, Ev.w_inIl, Ev.w_ninI, Ev.w_ninIl, Ev.w_fr, Ev.w_fn', Ev.w_fx, Ev.w_frb, Ev.w_finR1, Ev.w_finR2, Ev.w_finR3, Ev.w_finB1, Ev.w_finB2, Ev.w_finB3, Ev.w_okB, Ev.w_xB, Ev.w_gvst, Ev.w_okst, Ev.w_xst, Ev.w_askK1, Ev.w_askK2, Ev.w_askW, Ev.w_sys0, Ev.w_sys1, Ev.w_sys2, Ev.w_gvsys, Ev.w_lfsys, Ev.w_acsys, Ev.w_sumt, eq_self, Classical.not_not, Int.reduceToNat, Int.reduceAdd, Int.reduceSub, Int.reduceNeg, Int.reduceLT, Int.reduceLE, Nat.reduceAdd, Nat.reduceSub, Nat.reduceMul, Int.reduceMul])
namespace K12
open PySem Ev
abbrev PP : List Ev.Def := DI.map DefI.d
variable {W n : Nat}
theorem h0 : PP[0]? = some isIntD := rfl
theorem h1 : PP[1]? = some (chkSysD 0 3) := rfl
theorem h2 : PP[2]? = some d_is_pin := rfl
theorem h3 : PP[3]? = some d_check_lock := rfl
theorem h4 : PP[4]? = some d_check_thick := rfl
theorem h5 : PP[5]? = some d_stack_of := rfl
theorem h6 : PP[6]? = some d_judge_stacks := rfl
theorem h7 : PP[7]? = some d_lock_of_stacks := rfl
theorem h8 : PP[8]? = some d_wafers_in := rfl
theorem h9 : PP[9]? = some d_count_stackable := rfl
theorem h10 : PP[10]? = some d_fewest_changes := rfl
theorem h11 : PP[11]? = some d_accept_stacks := rfl
theorem c_int (i : Int) : callN W PP (n + 1) 0 [.int i] = .ok (.bl true) .undef := g_is_integer h0 rfl
/-! ### what it computes -/
def pinOk (d : Int) (pin : List Int) : Prop := 0 < pin.length ∧ pin.length ≤ 10 ∧ (∀ c ∈ pin, 0 ≤ c ∧ c < d) ∧ ∀ i, i + 1 < pin.length → pin.getD i default < pin.getD (i + 1) default
def lockOk (p : Nat) (d : Int) (lock : List (List Int)) : Prop := lock.length = p ∧ ∀ pin ∈ lock, pinOk d pin
/-- the parts of a pin -/
def S (pin : List Int) : List Int := (List.range pin.length).map fun k => pin.getD k default - if 0 < k then pin.getD (k - 1) default else 0
abbrev tI (l : List Int) : PV := .tup (l.map .int)
abbrev tII (l : List (List Int)) : PV := .tup (l.map fun x => .tup (x.map .int))
theorem c_sys {p : Nat} {d s : Int} (h : sysOk p d s) : callN W PP (n + 2) 1 [sysV p d s] = .ok .non .undef := by
  rw [g_check_system h0 h1 rfl (by simp [tlen, sysV]), sysR_ok h]; rfl
theorem all_true {α : Type} {l : List α} : (l.all fun _ => true) = true := by simp
theorem c_is_pin {d : Int} {pin : List Int} (h : pinOk d pin) : callN W PP (n + 2) 2 [.int d, tI pin] = .ok (.bl true) .undef := by
  obtain ⟨l0, l1, hc, ha⟩ := h
  rw [call_eq b_is_pin [.int d, tI pin, .undef, .undef] h2 rfl rfl rfl rfl]
  have a1 : (pin.all fun a => decide (0 ≤ a ∧ a < d)) = true := by
    rw [List.all_eq_true]; intro c hm; exact decide_eq_true (hc c hm)
  have a2 : ((List.range (pin.length - 1)).all fun a => decide (pin.getD a default < pin.getD (a + 1) default)) = true := by
    rw [List.all_eq_true]; intro i hm; exact decide_eq_true (ha i (by have := List.mem_range.mp hm; omega))
  simp! [b_is_pin, c_int, a1, a2]
theorem c_check_lock {p : Nat} {d s : Int} {lock : List (List Int)} (h : sysOk p d s) (hl : lockOk p d lock) : callN W PP (n + 3) 3 [sysV p d s, tII lock] = .ok .non .undef := by
  rw [call_eq b_check_lock [sysV p d s, tII lock, .undef] h3 rfl rfl rfl rfl]
  obtain ⟨l1, l2⟩ := hl
  have h' := h
  unfold sysOk at h'
  have cp : ∀ a, a ∈ lock → callN W PP (n + 2) 2 [.int d, tI a] = .ok (.bl true) .undef := fun a ha => c_is_pin (l2 a ha)
  simp! [b_check_lock, c_sys h, l1, cp, all_true]
theorem c_thick {t : Int} (h : 1 ≤ t ∧ t ≤ 9) : callN W PP (n + 2) 4 [.int t] = .ok .non .undef := by
  rw [call_eq b_check_thick [.int t] h4 rfl rfl rfl rfl]
  simp! [b_check_thick, c_int]
theorem c_stack_of {pin : List Int} (h : 0 < pin.length) (hl : pin.length ≤ 10) : callN W PP (n + 1) 5 [tI pin] = .ok (tI (S pin)) .undef := by
  rw [call_eq b_stack_of [tI pin, .undef] h5 rfl rfl rfl rfl]
  simp! [b_stack_of]
  congr 3
  unfold S
  refine List.ext_getElem (by simp; omega) fun i h1 h2 => ?_
  cases i with
  | zero => simp
  | succ i => simp
theorem c_wafers {p : Nat} {d s : Int} {lock : List (List Int)} (h : sysOk p d s) (hl : lockOk p d lock) : callN W PP (n + 4) 8 [sysV p d s, tII lock] = .ok (.int ((lock.map fun pin => (pin.length : Int) - 1).sum)) .undef := by
  rw [call_eq b_wafers_in [sysV p d s, tII lock, .undef] h8 rfl rfl rfl rfl]
  obtain ⟨l1, l2⟩ := hl
  have h' := h
  unfold sysOk at h'
  simp! [b_wafers_in, c_check_lock h ⟨l1, l2⟩]
/-- the first cut above which the next is too near -/
def closeP (t : Int) (number : Int) (pin : List Int) : Option PV := (List.range (pin.length - 1)).findSome? fun i => if pin.getD (i + 1) default - pin.getD i default < t then some (.tup [.str "close", .int number, .int (pin.getD i default)]) else none
def close (t : Int) (lock : List (List Int)) : Option PV := (List.range lock.length).findSome? fun i : Nat => closeP t i (lock.getD i default)
def judged (t : Int) (lock : List (List Int)) : PV := (close t lock).getD (.tup [.str "stacks", tII (lock.map S)])
theorem S_len {pin : List Int} : (S pin).length = pin.length := by simp [S]
theorem S_succ {pin : List Int} {i : Nat} (h : i + 1 < pin.length) : (S pin).getD (i + 1) default = pin.getD (i + 1) default - pin.getD i default := by
  unfold S
  rw [List.getD_eq_getElem?_getD]
  simp [h]
theorem judge_inner {p : Nat} {d s t : Int} {lock : List (List Int)} {num : Nat} {pin : List Int} {x5 x6 : PV} (h0 : 0 < pin.length) (h1 : pin.length ≤ 10) :
    (∀ v, closeP t num pin = some v → ∃ en', evalSs (callN W PP (n + 3)) W lb2_judge_stacks [sysV p d s, tII lock, .int t, .int num, tI pin, x5, x6] = .rt v en') ∧
    (closeP t num pin = none → ∃ en', (evalSs (callN W PP (n + 3)) W lb2_judge_stacks [sysV p d s, tII lock, .int t, .int num, tI pin, x5, x6] = .nx en' ∨ evalSs (callN W PP (n + 3)) W lb2_judge_stacks [sysV p d s, tII lock, .int t, .int num, tI pin, x5, x6] = .ct en') ∧ ∃ z w, en' = [sysV p d s, tII lock, .int t, .int num, tI pin, z, w]) := by
  have st := c_stack_of (W := W) (n := n + 2) h0 h1
  have F := forX_some (C := callN W PP (n + 3)) (W := W) (t := .cons (.n 5) (.cons (.n 6) .nil)) (b := lb1_judge_stacks) (l := ((S pin).drop 1).zip pin) (f := fun p => .tup [.int p.1, .int p.2]) (en := [sysV p d s, tII lock, .int t, .int num, tI pin, x5, x6])
    (fun q => if q.1 < t then some (.tup [.str "close", .int num, .int q.2]) else none) (fun en => ∃ z w, en = [sysV p d s, tII lock, .int t, .int num, tI pin, z, w]) ⟨_, _, rfl⟩ fun q hq en hj => by
      obtain ⟨z, w, rfl⟩ := hj
      refine ⟨[sysV p d s, tII lock, .int t, .int num, tI pin, .int q.1, .int q.2], rfl, fun v hv => ?_, fun hv => ?_⟩
      · by_cases hc : q.1 < t
        · rw [if_pos hc] at hv; cases hv
          exact ⟨_, by simp! [lb1_judge_stacks] <;> rfl⟩
        · rw [if_neg hc] at hv; cases hv
      · by_cases hc : q.1 < t
        · rw [if_pos hc] at hv; cases hv
        · exact ⟨_, by simp! [lb1_judge_stacks]; exact .inl rfl, _, _, rfl⟩
  have e : (((S pin).drop 1).zip pin).findSome? (fun q => if q.1 < t then some (PV.tup [.str "close", .int num, .int q.2]) else none) = closeP t num pin := by
    rw [zip_range, List.findSome?_map]
    unfold closeP
    rw [show min ((S pin).drop 1).length pin.length = pin.length - 1 by simp [S_len]]
    refine findSome_congr fun i hi => ?_
    have hi := List.mem_range.mp hi
    have : ((S pin).drop 1).getD i default = pin.getD (i + 1) default - pin.getD i default := by
      rw [← S_succ (by omega)]
      simp [List.getD_eq_getElem?_getD, Nat.add_comm]
    show (if ((S pin).drop 1).getD i default < t then _ else _) = _
    rw [this]
  rw [e] at F
  constructor
  · intro v hv
    obtain ⟨en', h⟩ := F.1 v hv
    exact ⟨_, by simp! [lb2_judge_stacks, st, h] <;> rfl⟩
  · intro hv
    obtain ⟨en', h, z, w, rfl⟩ := F.2 hv
    exact ⟨_, .inl (by simp! [lb2_judge_stacks, st, h] <;> rfl), z, w, rfl⟩
theorem lock_len {p : Nat} {d s : Int} {lock : List (List Int)} (h : sysOk p d s) (hl : lockOk p d lock) : lock.length ≤ 7 := by
  have := h.2.1; have := hl.1; omega
theorem c_judge {p : Nat} {d s t : Int} {lock : List (List Int)} (h' : sysOk p d s) (hl : lockOk p d lock) (ht : 1 ≤ t ∧ t ≤ 9) : callN W PP (n + 4) 6 [sysV p d s, tII lock, .int t] = .ok (judged t lock) .undef := by
  rw [call_eq b_judge_stacks [sysV p d s, tII lock, .int t, .undef, .undef, .undef, .undef] h6 rfl rfl rfl rfl]
  simp! [b_judge_stacks, c_check_lock h' hl, c_thick ht]
  have F := forX_some (C := callN W PP (n + 3)) (W := W) (t := .cons (.n 3) (.cons (.n 4) .nil)) (b := lb2_judge_stacks) (l := lock.zipIdx) (f := fun p => .tup [.int p.2, tI p.1]) (en := [sysV p d s, tII lock, .int t, .undef, .undef, .undef, .undef])
    (fun q => closeP t q.2 q.1) (fun en => ∃ x y z w, en = [sysV p d s, tII lock, .int t, x, y, z, w]) ⟨_, _, _, _, rfl⟩ fun q hq en hj => by
      obtain ⟨x, y, z, w, rfl⟩ := hj
      have hm : q.1 ∈ lock := List.fst_mem_of_mem_zipIdx hq
      have := judge_inner (W := W) (n := n) (p := p) (d := d) (s := s) (t := t) (lock := lock) (num := q.2) (pin := q.1) (x5 := z) (x6 := w) (hl.2 _ hm).1 (hl.2 _ hm).2.1
      refine ⟨[sysV p d s, tII lock, .int t, .int q.2, tI q.1, z, w], rfl, this.1, fun hv => ?_⟩
      obtain ⟨en', h, z, w, e⟩ := this.2 hv
      exact ⟨en', h, _, _, z, w, e⟩
  have e : lock.zipIdx.findSome? (fun q => closeP t q.2 q.1) = close t lock := by
    rw [zipIdx_range, List.findSome?_map]; rfl
  rw [e] at F
  unfold judged
  cases ec : close t lock with
  | some v =>
    obtain ⟨en', h⟩ := F.1 v ec
    simp! [h, Option.getD_some]
  | none =>
    obtain ⟨en', h, x, y, z, w, rfl⟩ := F.2 ec
    have st : ∀ a, a ∈ lock → callN W PP (n + 3) 5 [tI a] = .ok (tI (S a)) .undef := fun a ha => c_stack_of (hl.2 a ha).1 (hl.2 a ha).2.1
    have hz := lock_len h' hl
    simp! [h, st, Option.getD_none]
end K12

namespace K12
open PySem Ev
variable {W n : Nat}
/-! ### lock_of_stacks -/
theorem S_get {pin : List Int} {k : Nat} (h : k < pin.length) : (S pin).getD k default = pin.getD k default - if 0 < k then pin.getD (k - 1) default else 0 := by
  unfold S
  rw [List.getD_eq_getElem?_getD]
  simp [h]
theorem S_sum {pin : List Int} : ∀ {k : Nat}, k < pin.length → ((S pin).take (k + 1)).sum = pin.getD k default
  | 0, h => by
    rw [List.take_succ]
    have : (S pin)[0]? = some (pin.getD 0 default - 0) := by
      have := S_get h
      rw [List.getD_eq_getElem?_getD] at this
      have hs : 0 < (S pin).length := by rw [S_len]; exact h
      simp [hs] at this ⊢
      simpa using this
    rw [this]; simp
  | k + 1, h => by
    have ih := S_sum (pin := pin) (k := k) (by omega)
    rw [List.take_succ, List.sum_append, ih]
    have hs : k + 1 < (S pin).length := by rw [S_len]; exact h
    have := S_succ (pin := pin) (i := k) h
    rw [List.getD_eq_getElem?_getD, List.getElem?_eq_getElem hs] at this
    rw [List.getElem?_eq_getElem hs]
    simp at this ⊢
    omega
theorem S_last {pin : List Int} (h : 0 < pin.length) : (S pin).sum = pin.getD (pin.length - 1) default := by
  have := S_sum (pin := pin) (k := pin.length - 1) (by omega)
  rwa [List.take_of_length_le (by rw [S_len]; omega)] at this
theorem getD_memI {l : List Int} {i : Nat} (h : i < l.length) : l.getD i default ∈ l := by
  rw [List.getD_eq_getElem?_getD, List.getElem?_eq_getElem h]; exact List.getElem_mem h
theorem S_drop {d : Int} {pin : List Int} (h : pinOk d pin) : ∀ x ∈ (S pin).drop 1, 1 ≤ x := by
  intro x hx
  obtain ⟨i, hi, rfl⟩ := List.getElem_of_mem hx
  have hi' : i + 1 < pin.length := by simp [S_len] at hi; omega
  have := S_succ hi'
  have h3 := h.2.2.2 i hi'
  rw [List.getD_eq_getElem?_getD, List.getElem?_eq_getElem (by rw [S_len]; exact hi')] at this
  have e : (S pin)[i + 1]'(by rw [S_len]; exact hi') = pin.getD (i + 1) default - pin.getD i default := by simpa using this
  rw [List.getElem_drop]
  have e2 : (S pin)[1 + i]'(by rw [S_len]; omega) = (S pin)[i + 1]'(by rw [S_len]; exact hi') := by congr 1; omega
  rw [e2, e]; omega
theorem S_pre {pin : List Int} : (List.range pin.length).map (fun k => ((S pin).take (k + 1)).sum) = pin := by
  refine List.ext_getElem (by simp) fun i h1 h2 => ?_
  have := S_sum (pin := pin) (k := i) h2
  rw [List.getElem_map, List.getElem_range, this, List.getD_eq_getElem?_getD, List.getElem?_eq_getElem h2]; rfl
theorem los_turn {p : Nat} {d s : Int} {acc : List (List Int)} {pin : List Int} {x1 x4 x5 : PV} (h : sysOk p d s) (hp : pinOk d pin) (ha : acc.length ≤ 100) :
    evalSs (callN W PP (n + 3)) W lb1_lock_of_stacks [sysV p d s, x1, .lst (acc.map fun x => .tup (x.map .int)), tI (S pin), x4, x5] = .nx [sysV p d s, x1, .lst ((acc ++ [pin]).map fun x => .tup (x.map .int)), tI (S pin), x4, x5] := by
  obtain ⟨l0, l1, hc, hs⟩ := id hp
  have f1 : ((S pin).drop 1).filter (fun a => decide (a < 1)) = [] := by
    rw [List.filter_eq_nil_iff]; intro a ha; have := S_drop hp a ha; simp; omega
  have f2 := S_last l0
  have f3 := hc _ (getD_memI (show pin.length - 1 < pin.length by omega))
  have f4 := S_get (pin := pin) (k := 0) l0
  have f5 := hc _ (getD_memI l0)
  have f6 : (S pin).length = pin.length := S_len
  have f7 : 0 ≤ (S pin).getD 0 default := by rw [f4]; simp at f5 ⊢; omega
  have f8 : (S pin).sum < d := by rw [f2]; exact f3.2
  have f9 := S_pre (pin := pin)
  simp! [lb1_lock_of_stacks, c_int, f1, f6, all_true, f9]
theorem c_los {p : Nat} {d s : Int} {lock : List (List Int)} (h : sysOk p d s) (hl : lockOk p d lock) : callN W PP (n + 4) 7 [sysV p d s, tII (lock.map S)] = .ok (tII lock) .undef := by
  rw [call_eq b_lock_of_stacks [sysV p d s, tII (lock.map S), .undef, .undef, .undef, .undef] h7 rfl rfl rfl rfl]
  have hz := lock_len h hl
  have h7 := hl.1
  simp! [b_lock_of_stacks, c_sys h, h7]
  obtain ⟨en', e, x, y, z, he⟩ := forX_inv (C := callN W PP (n + 3)) (W := W) (t := .n 3) (b := lb1_lock_of_stacks) (l := lock.map S) (f := fun x => .tup (x.map .int)) (en := [sysV p d s, tII (lock.map S), .lst [], .undef, .undef, .undef])
    (fun j en => ∃ x y z, en = [sysV p d s, tII (lock.map S), .lst ((lock.take j).map fun x => .tup (x.map .int)), x, y, z]) ⟨_, _, _, rfl⟩ fun j x en hx hI => by
      obtain ⟨u, y, z, rfl⟩ := hI
      rw [List.getElem?_map, Option.map_eq_some_iff] at hx
      obtain ⟨pin, hp, rfl⟩ := hx
      simp only [take_snoc hp]
      exact ⟨_, rfl, _, .inl (los_turn h (hl.2 pin (List.mem_of_getElem? hp)) (by simp; omega)), _, _, _, rfl⟩
  rw [List.take_of_length_le (by simp)] at he
  subst he
  simp! [e]
/-! ### accept_stacks -/
/-- some cut is too near -/
def near (t : Int) (lock : List (List Int)) : Prop := ∃ pin ∈ lock, ∃ i, i + 1 < pin.length ∧ pin.getD (i + 1) default - pin.getD i default < t
theorem close_near {t : Int} {lock : List (List Int)} : (close t lock).isSome = true ↔ near t lock := by
  unfold close closeP near
  simp only [List.findSome?_isSome_iff, List.mem_range]
  constructor
  · rintro ⟨i, hi, k, hk, h⟩
    refine ⟨_, getD_memD hi, k, by omega, ?_⟩
    by_cases hc : (lock.getD i default).getD (k + 1) default - (lock.getD i default).getD k default < t
    · exact hc
    · rw [if_neg hc] at h; cases h
  · rintro ⟨pin, hp, k, hk, h⟩
    obtain ⟨i, hi, rfl⟩ := List.getElem_of_mem hp
    refine ⟨i, hi, k, ?_, ?_⟩
    · rw [List.getD_eq_getElem?_getD, List.getElem?_eq_getElem hi]; simp; omega
    · have e : lock.getD i default = lock[i] := by rw [List.getD_eq_getElem?_getD, List.getElem?_eq_getElem hi]; rfl
      rw [e, if_pos h]; rfl
theorem mem_drop {pin : List Int} {x : Int} : x ∈ (S pin).drop 1 ↔ ∃ i, i + 1 < pin.length ∧ pin.getD (i + 1) default - pin.getD i default = x := by
  constructor
  · intro hx
    obtain ⟨i, hi, rfl⟩ := List.getElem_of_mem hx
    have hi' : i + 1 < pin.length := by simp [S_len] at hi; omega
    refine ⟨i, hi', ?_⟩
    rw [← S_succ hi', List.getD_eq_getElem?_getD, List.getElem?_eq_getElem (by rw [S_len]; exact hi'), List.getElem_drop]
    simp [Nat.add_comm]
  · rintro ⟨i, hi, rfl⟩
    rw [← S_succ hi]
    have : i < ((S pin).drop 1).length := by simp [S_len]; omega
    have e : (S pin).getD (i + 1) default = ((S pin).drop 1).getD i default := by simp [List.getD_eq_getElem?_getD, Nat.add_comm]
    rw [e]; exact getD_memD this
theorem flat_near {t : Int} {lock : List (List Int)} : ((lock.map S).flatMap fun a => (a.drop 1).filter fun a => decide (a < t)) ≠ [] ↔ near t lock := by
  rw [List.ne_nil_iff_exists_cons]
  unfold near
  constructor
  · rintro ⟨x, l, e⟩
    have hx : x ∈ ((lock.map S).flatMap fun a => (a.drop 1).filter fun a => decide (a < t)) := by rw [e]; simp
    rw [List.mem_flatMap] at hx
    obtain ⟨a, ha, hx⟩ := hx
    obtain ⟨pin, hp, rfl⟩ := List.mem_map.mp ha
    obtain ⟨h1, h2⟩ := List.mem_filter.mp hx
    obtain ⟨i, hi, rfl⟩ := mem_drop.mp h1
    exact ⟨pin, hp, i, hi, of_decide_eq_true h2⟩
  · rintro ⟨pin, hp, i, hi, h⟩
    have hx : pin.getD (i + 1) default - pin.getD i default ∈ ((lock.map S).flatMap fun a => (a.drop 1).filter fun a => decide (a < t)) := by
      rw [List.mem_flatMap]
      exact ⟨S pin, List.mem_map.mpr ⟨pin, hp, rfl⟩, List.mem_filter.mpr ⟨mem_drop.mpr ⟨i, hi, rfl⟩, decide_eq_true h⟩⟩
    cases e : ((lock.map S).flatMap fun a => (a.drop 1).filter fun a => decide (a < t)) with
    | nil => rw [e] at hx; cases hx
    | cons x l => exact ⟨x, l, rfl⟩
theorem c_accept {p : Nat} {d s t : Int} {lock : List (List Int)} (h : sysOk p d s) (hl : lockOk p d lock) (ht : 1 ≤ t ∧ t ≤ 9) : callN W PP (n + 5) 11 [sysV p d s, tII lock, .int t, tII (lock.map S)] = if (close t lock).isSome = true then .raise 4 (.str "thick") .undef else .ok .non .undef := by
  rw [call_eq b_accept_stacks [sysV p d s, tII lock, .int t, tII (lock.map S), .undef, .undef, .undef] h11 rfl rfl rfl rfl]
  have hz := lock_len h hl
  simp! [b_accept_stacks, c_check_lock h hl, c_thick ht, c_los h hl]
  have hf := flat_near (t := t) (lock := lock)
  have hlen : ((lock.map S).flatMap fun a => (a.drop 1).filter fun a => decide (a < t)).length ≤ 70 := by
    refine Nat.le_trans (flat_len (k := 10) fun x hx => ?_) (by rw [List.length_map]; omega)
    obtain ⟨pin, hp, rfl⟩ := List.mem_map.mp hx
    have h1 := List.length_filter_le (fun a => decide (a < t)) ((S pin).drop 1)
    have h2 := (hl.2 pin hp).2.1
    rw [List.length_drop, S_len] at h1
    omega
  rw [← close_near] at hf
  generalize ((lock.map S).flatMap fun a => (a.drop 1).filter fun a => decide (a < t)) = L at *
  by_cases hc : (close t lock).isSome = true
  · rw [if_pos hc]
    have : L.length ≠ 0 := by
      have := hf.mpr hc
      intro h; exact this (List.length_eq_zero_iff.mp h)
    simp!
  · rw [if_neg hc]
    have : L.length = 0 := by
      rw [List.length_eq_zero_iff]
      exact Decidable.byContradiction fun h => hc (hf.mp h)
    simp!
/-! ### count_stackable -/
def ends (d t : Int) : List Int := (List.range d.toNat).foldl (fun l (c : Nat) => l ++ [1 + (l.take (max 0 ((c : Int) - t + 1)).toNat).sum]) []
theorem c_count {d t : Int} (hd : 2 ≤ d ∧ d ≤ 10) (ht : 1 ≤ t ∧ t ≤ 9) : callN W PP (n + 4) 9 [.int d, .int t] = .ok (.int (ends d t).sum) .undef := by
  rw [call_eq b_count_stackable [.int d, .int t, .undef, .undef] h9 rfl rfl rfl rfl]
  simp! [b_count_stackable, c_int, c_thick ht]
  unfold rg0
  refine forX_fold (l := List.range d.toNat) (f := fun i : Nat => PV.int i) (Q := fun o => finR (kS _ o) = _) (fun l z => [.int d, .int t, .lst (l.map .int), z]) (fun l (c : Nat) => l ++ [1 + (l.take (max 0 ((c : Int) - t + 1)).toNat).sum]) (fun j l => l.length = j) (s := []) rfl (fun j x l z hx hj => ?_) (fun z hz => ?_)
  · have hx : j < d.toNat ∧ j = x := by
      by_cases hj : j < d.toNat
      · simpa [hj] using hx
      · rw [List.getElem?_eq_none (by simp; omega)] at hx; cases hx
    refine ⟨_, rfl, .int x, .inl ?_, by simp [hj]⟩
    simp! [lb1_count_stackable]
  · simp!
    rfl
end K12

namespace K12
open PySem Ev
variable {W n : Nat}
theorem h21 : PP[21]? = some d_law_stack := rfl
theorem h23 : PP[23]? = some d_law_judged := rfl
theorem h24 : PP[24]? = some d_law_stackable := rfl
theorem h25 : PP[25]? = some d_law_changes := rfl
/-- how many are the same from the beginning -/
def cp : List Int → List Int → Nat
  | x :: a, y :: b => if x = y then cp a b + 1 else 0
  | _, _ => 0
theorem cp_le : ∀ {a b : List Int}, cp a b ≤ a.length ∧ cp a b ≤ b.length
  | [], b => by simp [cp]
  | x :: a, [] => by simp [cp]
  | x :: a, y :: b => by
    have := cp_le (a := a) (b := b)
    unfold cp
    split <;> simp <;> omega
theorem cp_at : ∀ {a b : List Int} {m : Nat}, m ≤ cp a b → m < a.length → m < b.length → (a.getD m default = b.getD m default ↔ m < cp a b)
  | [], b, m, h, h1, h2 => by simp at h1
  | x :: a, [], m, h, h1, h2 => by simp at h2
  | x :: a, y :: b, 0, h, h1, h2 => by
    unfold cp
    show x = y ↔ _
    split <;> simp [*]
  | x :: a, y :: b, m + 1, h, h1, h2 => by
    unfold cp at h ⊢
    by_cases hx : x = y
    · rw [if_pos hx] at h ⊢
      have := cp_at (a := a) (b := b) (m := m) (by omega) (by simpa using h1) (by simpa using h2)
      show a.getD m default = b.getD m default ↔ _
      rw [this]; omega
    · rw [if_neg hx] at h; omega
theorem cp_take : ∀ {a b : List Int} {k : Nat}, k ≤ a.length → k ≤ b.length → (a.take k = b.take k ↔ k ≤ cp a b)
  | a, b, 0, _, _ => by simp
  | [], b, k + 1, h, _ => by simp at h
  | x :: a, [], k + 1, _, h => by simp at h
  | x :: a, y :: b, k + 1, h1, h2 => by
    have := cp_take (a := a) (b := b) (k := k) (by simpa using h1) (by simpa using h2)
    unfold cp
    simp only [List.take_succ_cons, List.cons.injEq, this]
    split <;> simp [*]
def chg (a b : List Int) : Int := (S a).length + (S b).length - 2 * cp (S a) (S b)
theorem fc_turn {p : Nat} {d s t : Int} {lock other acc : List (List Int)} {a b : List Int} {rows : List Int} {x7 x8 x9 : PV} (hW : 100 ≤ W) (ha : pinOk d a) (hb : pinOk d b) (hr : rows.length ≤ 100) :
    ∃ x y z, evalSs (callN W PP (n + 3)) W lb3_fewest_changes [sysV p d s, tII lock, tII other, .int t, .lst (rows.map .int), tI a, tI b, x7, x8, x9] = .nx [sysV p d s, tII lock, tII other, .int t, .lst ((rows ++ [chg a b]).map .int), tI a, tI b, x, y, z] := by
  have sa := c_stack_of (W := W) (n := n + 2) ha.1 ha.2.1
  have sb := c_stack_of (W := W) (n := n + 2) hb.1 hb.2.1
  have la : (S a).length ≤ 10 := by rw [S_len]; exact ha.2.1
  have lb : (S b).length ≤ 10 := by rw [S_len]; exact hb.2.1
  have hc := cp_le (a := S a) (b := S b)
  unfold chg
  simp! [lb3_fewest_changes, sa, sb]
  generalize S a = A at *
  generalize S b = B at *
  obtain ⟨en', e, he⟩ := whlX_inv (C := callN W PP (n + 3)) (W := W) (c := lc1_fewest_changes) (b := lb2_fewest_changes) (m := W) (k := 20) (en := [sysV p d s, tII lock, tII other, .int t, .lst (rows.map .int), tI a, tI b, .int 0, tI A, tI B])
    (fun k en => ∃ m : Nat, en = [sysV p d s, tII lock, tII other, .int t, .lst (rows.map .int), tI a, tI b, .int m, tI A, tI B] ∧ m ≤ cp A B ∧ k = 20 - m) (fun en => en = [sysV p d s, tII lock, tII other, .int t, .lst (rows.map .int), tI a, tI b, .int (cp A B), tI A, tI B]) ⟨0, rfl, by omega, by omega⟩ (by omega) fun k en hI => by
      obtain ⟨m, rfl, hm, hk⟩ := hI
      refine ⟨.bl (decide (m < cp A B)), _, [sysV p d s, tII lock, tII other, .int t, .lst (rows.map .int), tI a, tI b, .int m, tI A, tI B], ?_, rfl, ?_⟩
      · by_cases h1 : (m : Int) < min (A.length : Int) B.length
        · have := cp_at hm (by omega) (by omega)
          simp! [lc1_fewest_changes, this]
        · have : ¬ m < cp A B := by omega
          simp! [lc1_fewest_changes]
          simp [this]; omega
      · by_cases h2 : m < cp A B
        · rw [decide_eq_true h2, if_pos rfl]
          exact ⟨[sysV p d s, tII lock, tII other, .int t, .lst (rows.map .int), tI a, tI b, .int (m + 1 : Nat), tI A, tI B], k - 1, .inl (by simp! [lb2_fewest_changes]; simp), by omega, m + 1, rfl, by omega, by omega⟩
        · rw [decide_eq_false h2, if_neg Bool.false_ne_true]
          have : m = cp A B := by omega
          rw [this]
  subst he
  simp! [e]
  exact ⟨_, _, _, rfl⟩
theorem c_fewest {p : Nat} {d s t : Int} {lock other : List (List Int)} (hW : 100 ≤ W) (h : sysOk p d s) (hl : lockOk p d lock) (ho : lockOk p d other) (ht : 1 ≤ t ∧ t ≤ 9) : callN W PP (n + 4) 10 [sysV p d s, tII lock, tII other, .int t] = .ok (tI ((lock.zip other).map fun q => chg q.1 q.2)) .undef := by
  rw [call_eq b_fewest_changes [sysV p d s, tII lock, tII other, .int t, .undef, .undef, .undef, .undef, .undef, .undef] h10 rfl rfl rfl rfl]
  have hz := lock_len h hl
  simp! [b_fewest_changes, c_check_lock h hl, c_check_lock h ho, c_thick ht]
  obtain ⟨en', e, x, y, z, u, v, he⟩ := forX_inv (C := callN W PP (n + 3)) (W := W) (t := .cons (.n 5) (.cons (.n 6) .nil)) (b := lb3_fewest_changes) (l := lock.zip other) (f := fun q => .tup [tI q.1, tI q.2]) (en := [sysV p d s, tII lock, tII other, .int t, .lst [], .undef, .undef, .undef, .undef, .undef])
    (fun j en => ∃ x y z u v, en = [sysV p d s, tII lock, tII other, .int t, .lst ((((lock.zip other).take j).map fun q => chg q.1 q.2).map .int), x, y, z, u, v]) ⟨_, _, _, _, _, rfl⟩ fun j x en hx hI => by
      obtain ⟨x1, x2, x3, x4, x5, rfl⟩ := hI
      have hm := List.mem_of_getElem? hx
      simp only [take_map_snoc hx]
      obtain ⟨y, z, w, e⟩ := fc_turn (W := W) (n := n) (p := p) (d := d) (s := s) (t := t) (lock := lock) (other := other) (acc := []) (a := x.1) (b := x.2) (rows := ((lock.zip other).take j).map fun q => chg q.1 q.2) (x7 := x3) (x8 := x4) (x9 := x5) hW (hl.2 _ (List.of_mem_zip hm).1) (ho.2 _ (List.of_mem_zip hm).2) (by simp; omega)
      exact ⟨_, rfl, _, .inl e, _, _, y, z, w, rfl⟩
  rw [List.take_of_length_le (Nat.le_refl _)] at he
  subst he
  simp! [e]
/-! ### the law's own -/
theorem c_law_stack {pin : List Int} (hl : pin.length ≤ 10) : callN W PP (n + 1) 21 [tI pin] = .ok (tI (S pin)) .undef := by
  rw [call_eq b_law_stack [tI pin, .undef] h21 rfl rfl rfl rfl]
  simp! [b_law_stack]
  rw [fmR_eq (fun k => .int (pin.getD k default - if 0 < k then pin.getD (k - 1) default else 0)) fun i hi => by
    by_cases h0 : 0 < i
    · rw [if_pos h0]; simp!
    · rw [if_neg h0]; simp!]
  simp!
  unfold S tI
  rw [List.map_map]; rfl
theorem c_law_changes {a b : List Int} (ha : a.length ≤ 10) (hb : b.length ≤ 10) : callN W PP (n + 2) 25 [tI a, tI b] = .ok (.int (chg a b)) .undef := by
  rw [call_eq b_law_changes [tI a, tI b, .undef, .undef, .undef, .undef] h25 rfl rfl rfl rfl]
  have sa := c_law_stack (W := W) (n := n) ha
  have sb := c_law_stack (W := W) (n := n) hb
  have la : (S a).length ≤ 10 := by rw [S_len]; exact ha
  have lb : (S b).length ≤ 10 := by rw [S_len]; exact hb
  have hc := cp_le (a := S a) (b := S b)
  unfold chg
  have hf : (List.range (min (S a).length (S b).length + 1)).filter (fun k => decide ((S a).take k = (S b).take k)) = List.range (cp (S a) (S b) + 1) := by
    refine filter_range (by omega) fun k hk => ?_
    have := cp_take (a := S a) (b := S b) (k := k) (by omega) (by omega)
    exact decide_eq_decide.mpr (this.trans Nat.lt_succ_iff.symm)
  have ht : (min ((S a).length : Int) (S b).length + 1).toNat = min (S a).length (S b).length + 1 := by omega
  have hg : ((List.range (cp (S a) (S b) + 1)).map (Nat.cast : Nat → Int)).getD (cp (S a) (S b) + 1 - 1) default = cp (S a) (S b) := by
    simp [List.getD_eq_getElem?_getD]
  simp! [b_law_changes, sa, sb, ht, hf, hg]
end K12

namespace K12
open PySem Ev
variable {W n : Nat}
theorem h12 : PP[12]? = some startD := rfl
theorem h13 : PP[13]? = some drawD := rfl
theorem h14 : PP[14]? = some (pickD 13) := rfl
theorem h18 : PP[18]? = some d_law_system := rfl
theorem h19 : PP[19]? = some d_law_pin := rfl
theorem h20 : PP[20]? = some d_law_lock := rfl
theorem h22 : PP[22]? = some d_law_even_lock := rfl
/-! ### judged, stackable -/
theorem ljudge_inner {t : Int} {lock : List (List Int)} {num : Nat} {x3 x4 : PV} (hn : num < lock.length) (h1 : (lock.getD num default).length ≤ 10) :
    (∀ v, closeP t num (lock.getD num default) = some v → ∃ en', evalSs (callN W PP n) W lb2_law_judged [tII lock, .int t, .int num, x3, x4] = .rt v en') ∧
    (closeP t num (lock.getD num default) = none → ∃ en', (evalSs (callN W PP n) W lb2_law_judged [tII lock, .int t, .int num, x3, x4] = .nx en' ∨ evalSs (callN W PP n) W lb2_law_judged [tII lock, .int t, .int num, x3, x4] = .ct en') ∧ ∃ z w, en' = [tII lock, .int t, .int num, z, w]) := by
  have F := forX_some (C := callN W PP n) (W := W) (t := .n 4) (b := lb1_law_judged) (l := List.range ((lock.getD num default).length - 1)) (f := fun i : Nat => .int (1 + i)) (en := [tII lock, .int t, .int num, tI (lock.getD num default), x4])
    (fun i => if (lock.getD num default).getD (i + 1) default - (lock.getD num default).getD i default < t then some (.tup [.str "close", .int num, .int ((lock.getD num default).getD i default)]) else none) (fun en => ∃ z, en = [tII lock, .int t, .int num, tI (lock.getD num default), z]) ⟨_, rfl⟩ fun i hi en hj => by
      obtain ⟨z, rfl⟩ := hj
      have hi := List.mem_range.mp hi
      generalize lock.getD num default = pin at *
      refine ⟨[tII lock, .int t, .int num, tI pin, .int (1 + i)], rfl, fun v hv => ?_, fun hv => ?_⟩
      · by_cases hc : pin.getD (i + 1) default - pin.getD i default < t
        · rw [if_pos hc] at hv; cases hv
          exact ⟨_, by simp! [lb1_law_judged] <;> rfl⟩
        · rw [if_neg hc] at hv; cases hv
      · by_cases hc : pin.getD (i + 1) default - pin.getD i default < t
        · rw [if_pos hc] at hv; cases hv
        · exact ⟨_, by simp! [lb1_law_judged]; exact .inl rfl, _, rfl⟩
  have hr : ((lock.getD num default).length : Int) - 1 = (((lock.getD num default).length : Int) - 1) := rfl
  constructor
  · intro v hv
    obtain ⟨en', h⟩ := F.1 v hv
    have h : forX _ _ _ _ (rgA 1 ((lock.getD num default).length - 1)) _ = _ := h
    exact ⟨_, by simp! [lb2_law_judged, h] <;> rfl⟩
  · intro hv
    obtain ⟨en', h, z, rfl⟩ := F.2 hv
    have h : forX _ _ _ _ (rgA 1 ((lock.getD num default).length - 1)) _ = _ := h
    exact ⟨_, .inl (by simp! [lb2_law_judged, h] <;> rfl), _, z, rfl⟩
theorem c_law_judged {t : Int} {lock : List (List Int)} (hz : lock.length ≤ 7) (hl : ∀ pin ∈ lock, pin.length ≤ 10) : callN W PP (n + 2) 23 [tII lock, .int t] = .ok (judged t lock) .undef := by
  rw [call_eq b_law_judged [tII lock, .int t, .undef, .undef, .undef] h23 rfl rfl rfl rfl]
  have F := forX_some (C := callN W PP (n + 1)) (W := W) (t := .n 2) (b := lb2_law_judged) (l := List.range lock.length) (f := fun i : Nat => .int i) (en := [tII lock, .int t, .undef, .undef, .undef])
    (fun i : Nat => closeP t i (lock.getD i default)) (fun en => ∃ x y z, en = [tII lock, .int t, x, y, z]) ⟨_, _, _, rfl⟩ fun i hi en hj => by
      obtain ⟨x, y, z, rfl⟩ := hj
      have hi := List.mem_range.mp hi
      have := ljudge_inner (W := W) (n := n + 1) (t := t) (lock := lock) (num := i) (x3 := y) (x4 := z) hi (hl _ (getD_memD hi))
      refine ⟨[tII lock, .int t, .int i, y, z], rfl, this.1, fun hv => ?_⟩
      obtain ⟨en', h, z, w, e⟩ := this.2 hv
      exact ⟨en', h, _, z, w, e⟩
  have st : ∀ a, a ∈ lock → callN W PP (n + 1) 21 [tI a] = .ok (tI (S a)) .undef := fun a ha => c_law_stack (hl a ha)
  unfold judged
  cases ec : close t lock with
  | some v =>
    obtain ⟨en', h⟩ := F.1 v ec
    have h : forX _ _ _ _ (rg0 lock.length) _ = _ := h
    simp! [b_law_judged, h, Option.getD_some]
  | none =>
    obtain ⟨en', h, x, y, z, rfl⟩ := F.2 ec
    have h : forX _ _ _ _ (rg0 lock.length) _ = _ := h
    simp! [b_law_judged, h, st, Option.getD_none]
/-- the rows of cuts, by the law -/
def rowsL (d : Nat) (t : Int) : List (List Int) := (List.range d).foldl (fun rows (c : Nat) => rows ++ (rows.filter fun row => decide (row.length = 0) || decide (t ≤ (c : Int) - row.getD (row.length - 1) default)).map fun row => row ++ [(c : Int)]) [[]]
theorem ends_all : ∀ d : Nat, d < 11 → ∀ t : Nat, t < 10 → 2 ≤ d → 1 ≤ t → ((rowsL d t).length : Int) - 1 = (ends d t).sum := by decide +kernel
theorem rows_len (t : Int) : ∀ d : Nat, (rowsL d t).length ≤ 2 ^ d ∧ ∀ r ∈ rowsL d t, r.length ≤ d
  | 0 => by simp [rowsL]
  | d + 1 => by
    have ih := rows_len t d
    have e : rowsL (d + 1) t = rowsL d t ++ ((rowsL d t).filter fun row => decide (row.length = 0) || decide (t ≤ (d : Int) - row.getD (row.length - 1) default)).map fun row => row ++ [(d : Int)] := by
      unfold rowsL
      rw [List.range_succ, List.foldl_append]; rfl
    rw [e]
    constructor
    · have := List.length_filter_le (fun row : List Int => decide (row.length = 0) || decide (t ≤ (d : Int) - row.getD (row.length - 1) default)) (rowsL d t)
      rw [List.length_append, List.length_map, Nat.pow_succ]
      omega
    · intro r hr
      rcases List.mem_append.mp hr with hr | hr
      · have := ih.2 r hr; omega
      · obtain ⟨q, hq, rfl⟩ := List.mem_map.mp hr
        have := ih.2 q (List.mem_filter.mp hq).1
        simp; omega
theorem rowsL_succ (d : Nat) (t : Int) : rowsL (d + 1) t = rowsL d t ++ ((rowsL d t).filter fun row => decide (row.length = 0) || decide (t ≤ (d : Int) - row.getD (row.length - 1) default)).map fun row => row ++ [(d : Int)] := by
  unfold rowsL
  rw [List.range_succ, List.foldl_append]; rfl
theorem st_turn {dd : PV} {d : Nat} {t : Int} {R : List (List Int)} {x4 : PV} (h1 : R.length ≤ 2000) (h2 : ∀ r ∈ R, r.length ≤ 20) : evalSs (callN W PP n) W lb1_law_stackable [dd, .int t, .lst (R.map fun x => .tup (x.map .int)), .int d, x4] = .nx [dd, .int t, .lst ((R ++ (R.filter fun row => decide (row.length = 0) || decide (t ≤ (d : Int) - row.getD (row.length - 1) default)).map fun row => row ++ [(d : Int)]).map fun x => .tup (x.map .int)), .int d, x4] := by
  have hq := List.length_filter_le (fun row : List Int => decide (row.length = 0) || decide (t ≤ (d : Int) - row.getD (row.length - 1) default)) R
  simp! [lb1_law_stackable]
  rw [fmM_eqF (fun row => decide (row.length = 0 ∨ t ≤ (d : Int) - row.getD (row.length - 1) default)) (fun row => .tup ((row ++ [(d : Int)]).map .int)) fun a ha => by
    have := h2 a ha
    by_cases h0 : a.length = 0
    · simp!
    · by_cases h3 : t ≤ (d : Int) - a.getD (a.length - 1) default
      · simp!
      · simp!]
  rw [show (fun row : List Int => decide (row.length = 0) || decide (t ≤ (d : Int) - row.getD (row.length - 1) default)) = fun row => decide (row.length = 0 ∨ t ≤ (d : Int) - row.getD (row.length - 1) default) by funext r; simp] at hq
  generalize R.filter (fun row => decide (row.length = 0 ∨ t ≤ (d : Int) - row.getD (row.length - 1) default)) = F at *
  simp!
  simp
theorem c_stackable {d : Nat} {t : Int} (hd : d ≤ 10) : callN W PP (n + 1) 24 [.int d, .int t] = .ok (.int ((rowsL d t).length - 1)) .undef := by
  rw [call_eq b_law_stackable [.int d, .int t, .undef, .undef, .undef] h24 rfl rfl rfl rfl]
  obtain ⟨en', e, x, y, he⟩ := forX_inv (C := callN W PP n) (W := W) (t := .n 3) (b := lb1_law_stackable) (l := List.range d) (f := fun i : Nat => .int i) (en := [.int d, .int t, .lst [.tup []], .undef, .undef])
    (fun j en => ∃ x y, en = [.int d, .int t, .lst ((rowsL j t).map fun x => .tup (x.map .int)), x, y]) ⟨_, _, rfl⟩ fun j x en hx hI => by
      obtain ⟨x1, x2, rfl⟩ := hI
      have hx : j < d ∧ j = x := by
        by_cases hj : j < d
        · simpa [hj] using hx
        · rw [List.getElem?_eq_none (by simp; omega)] at hx; cases hx
      obtain ⟨hj, rfl⟩ := hx
      have hr := rows_len t j
      have h2 : 2 ^ j ≤ 2 ^ 10 := Nat.pow_le_pow_right (by omega) (by omega)
      simp only [rowsL_succ]
      exact ⟨_, rfl, _, .inl (st_turn (by omega) fun r hr' => by have := hr.2 r hr'; omega), _, _, rfl⟩
  have e : forX _ _ _ _ (rg0 d) _ = _ := e
  rw [List.length_range] at he
  subst he
  simp! [b_law_stackable, e]
/-! ### what the law makes -/
theorem c_law_system (st : LSt) : ∃ p d s st', callN W PP (n + 3) 18 [stP st] = .ok (sysV p d s) (stP st') ∧ sysOk p d s := by
  obtain ⟨a, ha, s1, e1⟩ := pick_ints (W := W) (n := n) h14 h13 st [1, 2, 3, 5, 7] (by simp) (by simp)
  obtain ⟨b, hb, s2, e2⟩ := pick_ints (W := W) (n := n) h14 h13 s1 [2, 3, 5, 9, 10, 10] (by simp) (by simp)
  obtain ⟨r, s3, e3, r0, r1⟩ := draw_ex (W := W) (n := n + 1) h13 s2 10 (by omega) (by omega)
  simp only [List.map_cons, List.map_nil] at e1 e2
  simp only [List.mem_cons, List.not_mem_nil, or_false] at ha hb
  refine ⟨a.toNat, b, r, s3, ?_, by omega, by omega, by omega, by omega, by omega, by omega⟩
  rw [call_eqB b_law_system [stP st, .undef, .undef] h18 rfl rfl rfl rfl]
  have : ((a.toNat : Nat) : Int) = a := by omega
  simp! [b_law_system, e1, e2, e3, sysV, this]
theorem c_law_pin {d : Int} (hd : 2 ≤ d ∧ d ≤ 10) (st : LSt) : ∃ pin st', callN W PP (n + 3) 19 [stP st, .int d] = .ok (tI pin) (stP st') ∧ pinOk d pin := by
  obtain ⟨a, ha, s1, e1⟩ := pick_ints (W := W) (n := n) h14 h13 st [2, 2, 3, 5] (by simp) (by simp)
  simp only [List.map_cons, List.map_nil] at e1
  simp only [List.mem_cons, List.not_mem_nil, or_false] at ha
  obtain ⟨ys, s2, e2, hs⟩ := comp_sub (C := callN W PP (n + 2)) (own := [4]) (tg := .n 4) (it := .rng (.cons (.v 1) .nil)) (c := .cmp .Eq (.callr 13 0 (.cons (.v 2) .nil)) (.c (.int 0))) (e := .v 4) (l := List.range d.toNat) (fi := fun i : Nat => .int i) (fun s => [stP s, .int d, .int a, .undef, .undef]) (s0 := s1) (env := [stP s1, .int d, .int a, .undef, .undef])
    (by simp!; rfl) (fun x hx s => by
      obtain ⟨r, s3, e3, r0, r1⟩ := draw_ex (W := W) (n := n + 1) h13 s a (by omega) (by omega)
      exact ⟨[stP s, .int d, .int a, .undef, .int x], .bl (decide (r = 0)), _, s3, [stP s3, .int d, .int a, .undef, .int x], rfl, by simp! [e3], rfl, rfl, by simp!⟩) (by simp; omega) fun s => rfl
  have hasc : ys.Pairwise (· < ·) := List.Pairwise.sublist hs List.pairwise_lt_range
  by_cases h0 : ys = []
  · subst h0
    obtain ⟨r, s3, e3, r0, r1⟩ := draw_ex (W := W) (n := n + 1) h13 s2 d (by omega) (by omega)
    refine ⟨[r], s3, ?_, by simp, by simp, by simp; omega, by simp⟩
    rw [call_eqB b_law_pin [stP st, .int d, .undef, .undef, .undef] h19 rfl rfl rfl rfl]
    simp! [b_law_pin, e1, e2, e3]
    rfl
  · have hp : 0 < ys.length := List.length_pos_iff.mpr h0
    have hq := hs.length_le
    rw [List.length_range] at hq
    refine ⟨ys.map fun i : Nat => (i : Int), s2, ?_, by simpa using hp, by simp; omega, fun c hc => ?_, fun i hi => ?_⟩
    · rw [call_eqB b_law_pin [stP st, .int d, .undef, .undef, .undef] h19 rfl rfl rfl rfl]
      simp! [b_law_pin, e1, e2]
      obtain ⟨r, s3, e3, r0, r1⟩ := draw_ex (W := W) (n := n + 1) h13 s2 d (by omega) (by omega)
      simp! [e3]
    · obtain ⟨i, hi, rfl⟩ := List.mem_map.mp hc
      have := List.mem_range.mp (hs.subset hi)
      omega
    · have hi : i + 1 < ys.length := by simpa using hi
      have := List.pairwise_iff_getElem.mp hasc i (i + 1) (by omega) hi (by omega)
      simp [List.getD_eq_getElem?_getD, hi, show i < ys.length by omega]
      exact this
theorem c_law_lock {p : Nat} {d s : Int} (h : sysOk p d s) (st : LSt) : ∃ lock st', callN W PP (n + 4) 20 [stP st, sysV p d s] = .ok (tII lock) (stP st') ∧ lockOk p d lock := by
  have h' := h
  unfold sysOk at h'
  obtain ⟨ys, s2, e2, hl, hg⟩ := comp_gen (C := callN W PP (n + 3)) (own := [2]) (tg := .n 2) (it := .rng (.cons (.idx (.v 1) (.c (.int 0))) .nil)) (e := .callr 19 0 (.cons (.idx (.v 1) (.c (.int 1))) .nil)) (l := List.range p) (fi := fun i : Nat => .int i) (f := fun x => .tup (x.map .int)) (pinOk d) (fun s' => [stP s', sysV p d s, .undef]) (s0 := st) (env := [stP st, sysV p d s, .undef])
    (by simp!; rfl) (fun x hx s' => by
      obtain ⟨pin, s3, e3, ok⟩ := c_law_pin (W := W) (n := n) (d := d) (by omega) s'
      exact ⟨[stP s', sysV p d s, .int x], pin, s3, [stP s3, sysV p d s, .int x], rfl, by simp! [e3], rfl, ok⟩) (by simp; omega) fun s => rfl
  rw [List.length_range] at hl
  refine ⟨ys, s2, ?_, hl, hg⟩
  rw [call_eqB b_law_lock [stP st, sysV p d s, .undef] h20 rfl rfl rfl rfl]
  simp! [b_law_lock, e2]
end K12

namespace K12
open PySem Ev
variable {W n : Nat}
def lastI (row : List Int) : Int := row.getD (row.length - 1) default
def rowOk (d : Int) (row : List Int) : Prop := 0 < row.length ∧ (row.length : Int) ≤ lastI row + 1 ∧ (∀ c ∈ row, 0 ≤ c ∧ c < d) ∧ ∀ i, i + 1 < row.length → row.getD i default < row.getD (i + 1) default
theorem last_app {row : List Int} {x : Int} : lastI (row ++ [x]) = x := by
  unfold lastI
  simp [List.getD_eq_getElem?_getD]
theorem last_mem {row : List Int} (h : 0 < row.length) : lastI row ∈ row := getD_memD (by omega)
theorem rowOk_pin {d : Int} {row : List Int} (hd : d ≤ 10) (h : rowOk d row) : pinOk d row := by
  obtain ⟨h1, h2, h3, h4⟩ := h
  have := h3 _ (last_mem h1)
  exact ⟨h1, by omega, h3, h4⟩
theorem rowOk_app {d x : Int} {row : List Int} (h : rowOk d row) (h1 : lastI row < x) (h2 : x < d) : rowOk d (row ++ [x]) := by
  obtain ⟨r1, r2, r3, r4⟩ := h
  have hl := r3 _ (last_mem r1)
  refine ⟨by simp, by rw [last_app]; simp; omega, fun c hc => ?_, fun i hi => ?_⟩
  · rcases List.mem_append.mp hc with hc | hc
    · exact r3 c hc
    · simp at hc; subst hc; omega
  · simp only [List.length_append, List.length_cons, List.length_nil] at hi
    by_cases hj : i + 1 < row.length
    · have := r4 i hj
      simpa [List.getD_eq_getElem?_getD, List.getElem?_append_left hj, List.getElem?_append_left (show i < row.length by omega)] using this
    · have e : i = row.length - 1 := by omega
      have e2 : i + 1 = row.length := by omega
      have ha : (row ++ [x]).getD i default = lastI row := by
        unfold lastI
        rw [e]
        simp [List.getD_eq_getElem?_getD, List.getElem?_append_left (show row.length - 1 < row.length by omega)]
      have hb : (row ++ [x]).getD (i + 1) default = x := by
        rw [e2]; simp [List.getD_eq_getElem?_getD]
      rw [ha, hb]; exact h1
theorem even_row {p : Nat} {d s t : Int} {L : PV} {x4 : PV} {row : List Int} (st : LSt) (hd : d ≤ 10) (ht : 1 ≤ t ∧ t ≤ 9) (hr : rowOk d row) (hW : 100 ≤ W) :
    ∃ en', whlX (callN W PP (n + 3)) W lc1_law_even_lock lb2_law_even_lock W [stP st, sysV p d s, .int t, L, x4, .lst (row.map .int)] = .nx en' ∧ ∃ st' row', en' = [stP st', sysV p d s, .int t, L, x4, .lst (row'.map .int)] ∧ rowOk d row' := by
  refine whlX_inv (m := W) (k := (d - lastI row).toNat) (fun k en => ∃ st' row', en = [stP st', sysV p d s, .int t, L, x4, .lst (row'.map .int)] ∧ rowOk d row' ∧ k = (d - lastI row').toNat) (fun en => ∃ st' row', en = [stP st', sysV p d s, .int t, L, x4, .lst (row'.map .int)] ∧ rowOk d row') ⟨st, row, rfl, hr, rfl⟩ (by have := (hr.2.2.1 _ (last_mem hr.1)).1; omega) fun k en hI => ?_
  obtain ⟨s1, row, rfl, hr, hk⟩ := hI
  have hpos := hr.1
  have hlast := hr.2.2.1 _ (last_mem hr.1)
  have hlen := hr.2.1
  by_cases h1 : lastI row + t < d
  · obtain ⟨r, s2, e2, r0, r1⟩ := draw_ex (W := W) (n := n + 2) h13 s1 4 (by omega) (by omega)
    refine ⟨.bl (decide (0 < r)), decide (0 < r), [stP s2, sysV p d s, .int t, L, x4, .lst (row.map .int)], ?_, rfl, ?_⟩
    · unfold lastI at h1
      simp! [lc1_law_even_lock, e2]
    · by_cases hr0 : 0 < r
      · rw [decide_eq_true hr0, if_pos rfl]
        obtain ⟨a, ha, s3, e3⟩ := pick_ints (W := W) (n := n + 1) h14 h13 s2 [0, 0, 1] (by simp) (by simp)
        simp only [List.map_cons, List.map_nil] at e3
        simp only [List.mem_cons, List.not_mem_nil, or_false] at ha
        have e4 : evalSs (callN W PP (n + 3)) W lb2_law_even_lock [stP s2, sysV p d s, .int t, L, x4, .lst (row.map .int)] = .nx [stP s3, sysV p d s, .int t, L, x4, .lst ((row ++ [min (d - 1) (lastI row + t + a)]).map .int)] := by
          unfold lastI
          simp! [lb2_law_even_lock, e3]
        have ok := rowOk_app hr (x := min (d - 1) (lastI row + t + a)) (by omega) (by omega)
        exact ⟨_, (d - lastI (row ++ [min (d - 1) (lastI row + t + a)])).toNat, .inl e4, by rw [last_app]; omega, s3, _, rfl, ok, rfl⟩
      · rw [decide_eq_false hr0, if_neg Bool.false_ne_true]
        exact ⟨s2, row, rfl, hr⟩
  · refine ⟨.bl (decide (lastI row + t < d)), decide (lastI row + t < d), [stP s1, sysV p d s, .int t, L, x4, .lst (row.map .int)], ?_, rfl, ?_⟩
    · unfold lastI at h1 ⊢
      simp! [lc1_law_even_lock]
    · rw [decide_eq_false h1, if_neg Bool.false_ne_true]
      exact ⟨s1, row, rfl, hr⟩
theorem c_even {p : Nat} {d s t : Int} (hW : 100 ≤ W) (h : sysOk p d s) (ht : 1 ≤ t ∧ t ≤ 9) (st : LSt) : ∃ lock st', callN W PP (n + 4) 22 [stP st, sysV p d s, .int t] = .ok (tII lock) (stP st') ∧ lockOk p d lock := by
  have h' := h
  unfold sysOk at h'
  obtain ⟨en', e, s1, lock, x, y, rfl, hl, hg⟩ := forX_inv (C := callN W PP (n + 3)) (W := W) (t := .n 4) (b := lb3_law_even_lock) (l := List.range p) (f := fun i : Nat => .int i) (en := [stP st, sysV p d s, .int t, .lst [], .undef, .undef])
    (fun j en => ∃ s' lock x y, en = [stP s', sysV p d s, .int t, .lst (lock.map fun x => .tup (x.map .int)), x, y] ∧ lock.length = j ∧ ∀ pin ∈ lock, pinOk d pin) ⟨st, [], _, _, rfl, rfl, by simp⟩ fun j x en hx hI => by
      obtain ⟨s1, lock, x1, x2, rfl, hl, hg⟩ := hI
      have hj : j < p := by have := (List.getElem?_eq_some_iff.mp hx).1; simpa using this
      obtain ⟨r, s2, e2, r0, r1⟩ := draw_ex (W := W) (n := n + 2) h13 s1 d (by omega) (by omega)
      obtain ⟨en', e3, s3, row, rfl, ok⟩ := even_row (W := W) (n := n) (p := p) (s := s) (L := .lst (lock.map fun x => .tup (x.map .int))) (x4 := .int x) (row := [r]) s2 (by omega : d ≤ 10) ht ⟨by simp, by simp [lastI]; omega, by simp; omega, by simp⟩ hW
      have hp := rowOk_pin (by omega : d ≤ 10) ok
      have hlen := hp.2.1
      simp only [List.map_cons, List.map_nil] at e3
      refine ⟨_, rfl, [stP s3, sysV p d s, .int t, .lst ((lock ++ [row]).map fun x => .tup (x.map .int)), .int x, .lst (row.map .int)], .inl ?_, s3, lock ++ [row], _, _, rfl, by simp [hl], fun pin hpin => ?_⟩
      · simp! [lb3_law_even_lock, e2, e3]
      · rcases List.mem_append.mp hpin with hpin | hpin
        · exact hg pin hpin
        · simp at hpin; subst hpin; exact hp
  have e : forX _ _ _ _ (rg0 p) _ = _ := e
  rw [List.length_range] at hl
  refine ⟨lock, s1, ?_, hl, hg⟩
  rw [call_eqB b_law_even_lock [stP st, sysV p d s, .int t, .undef, .undef, .undef] h22 rfl rfl rfl rfl]
  simp! [b_law_even_lock, e]
end K12

namespace K12
open PySem Ev
variable {W n : Nat}
theorem h15 : PP[15]? = some { np := 2, n := 2, br := false, fresh := false, ms := [], body := (.cons (.ret (.and (.cmp .Eq (.v 0) (.v 1)) (.cmp .Eq (.blt .repr (.cons (.v 0) .nil)) (.blt .repr (.cons (.v 1) .nil))))) .nil) } := rfl
theorem h16 : PP[16]? = some (askD 17 [9, 11, 6, 7, 8, 10]) := rfl
theorem h17 : PP[17]? = some wordD := rfl
theorem h26 : PP[26]? = some d_law := rfl
theorem ask {kf : Nat} {args : List PV} (hk : kf ∈ [9, 11, 6, 7, 8, 10]) (h1 : 1 ≤ args.length) (h6 : args.length ≤ 6) : callN W PP (n + 1) 16 [.fn kf, .lst args] = askK (callN W PP n 17) (callN W PP n kf args) := g_askK h16 hk h1 h6
theorem word {c : Nat} (hc : c ∈ [1, 2, 3, 4, 5]) {z : Str} (hz : z.length ≤ 1000) : callN W PP (n + 1) 17 [.exc c (.str z)] = .ok (.str (headOf c ++ z)) .undef := g_word h17 hc hz
theorem pt : (headOf 4 ++ "thick" : Str) = "paper thick" := by decide +kernel
/-! ### sizes -/
theorem sm_tI {l : List Int} (hl : l.length ≤ 10) (h : ∀ x ∈ l, -99999999999 ≤ x ∧ x ≤ 99999999999) : Sm (tI l) 1 411 := by
  refine (Sm.tup (l := l.map PV.int) (dp := 0) (w := 40) fun x hx => ?_).mono (Nat.le_refl _) (by simp; omega)
  obtain ⟨i, hi, rfl⟩ := List.mem_map.mp hx
  exact Sm.num (h i hi).1 (h i hi).2
theorem sm_tII {l : List (List Int)} (hl : l.length ≤ 10) (h : ∀ p ∈ l, p.length ≤ 10 ∧ ∀ x ∈ p, -99999999999 ≤ x ∧ x ≤ 99999999999) : Sm (tII l) 2 4121 := by
  refine (Sm.tup (l := l.map tI) (dp := 1) (w := 411) fun x hx => ?_).mono (Nat.le_refl _) (by simp; omega)
  obtain ⟨i, hi, rfl⟩ := List.mem_map.mp hx
  exact sm_tI (h i hi).1 (h i hi).2
theorem sm_one {p : PV} {d w : Nat} (h : Sm p d w) (hd : d ≤ 20) (hw : w ≤ 20000) : Sm (.lst [p]) 21 20002 :=
  (Sm.lst (l := [p]) (dp := 20) (w := 20000) fun x hx => by
    simp at hx; subst hx; exact h.mono hd hw).mono (Nat.le_refl _) (by simp)
theorem same {p : PV} {d w : Nat} (h : Sm p d w) (hd : d ≤ 60) (hw : w ≤ 1048576) : callN W PP (n + 1) 15 [p, p] = .ok (.bl true) .undef := g_sameS h15 h hd hw
theorem close_some {t : Int} {lock : List (List Int)} {v : PV} (hz : lock.length ≤ 7) (hl : ∀ pin ∈ lock, ∀ c ∈ pin, 0 ≤ c ∧ c < 10) (h : close t lock = some v) : ∃ a b, v = .tup [.str "close", .int a, .int b] ∧ 0 ≤ a ∧ a ≤ 10 ∧ 0 ≤ b ∧ b ≤ 10 := by
  unfold close at h
  obtain ⟨i, hi, h⟩ := List.exists_of_findSome?_eq_some h
  unfold closeP at h
  obtain ⟨k, hk, h⟩ := List.exists_of_findSome?_eq_some h
  have hi := List.mem_range.mp hi
  have hk := List.mem_range.mp hk
  split at h
  · cases h
    have := hl _ (getD_memD hi) _ (getD_memD (show k < (lock.getD i default).length by omega))
    exact ⟨_, _, rfl, by omega, by omega, by omega, by omega⟩
  · cases h
theorem sm_str5 : Sm (.str "close") 0 40 ∧ Sm (.str "stacks") 0 40 ∧ Sm (.str "paper thick") 0 40 := ⟨⟨rfl, by decide +kernel, by decide +kernel, by decide +kernel, by decide +kernel, by decide +kernel⟩, ⟨rfl, by decide +kernel, by decide +kernel, by decide +kernel, by decide +kernel, by decide +kernel⟩, ⟨rfl, by decide +kernel, by decide +kernel, by decide +kernel, by decide +kernel, by decide +kernel⟩⟩
end K12

namespace K12
open PySem Ev
variable {W n : Nat}
theorem sum_sub {l : List (List Int)} : (l.map fun pin => (pin.length : Int)).sum - l.length = (l.map fun pin => (pin.length : Int) - 1).sum := by
  induction l with
  | nil => rfl
  | cons x l ih => simp only [List.map_cons, List.sum_cons, List.length_cons]; omega
theorem sum_le {l : List (List Int)} (h : ∀ p ∈ l, p.length ≤ 10) : 0 ≤ (l.map fun pin => (pin.length : Int)).sum ∧ (l.map fun pin => (pin.length : Int)).sum ≤ 10 * l.length := by
  induction l with
  | nil => simp
  | cons x l ih =>
    have := ih fun p hp => h p (by simp [hp])
    have := h x (by simp)
    simp only [List.map_cons, List.sum_cons, List.length_cons]; omega
theorem S_bd {d : Int} {pin : List Int} (hd : d ≤ 10) (h : pinOk d pin) : ∀ x ∈ S pin, -99999999999 ≤ x ∧ x ≤ 99999999999 := by
  intro x hx
  unfold S at hx
  obtain ⟨k, hk, rfl⟩ := List.mem_map.mp hx
  have hk := List.mem_range.mp hk
  have h1 := h.2.2.1 _ (getD_memD hk)
  by_cases h0 : 0 < k
  · rw [if_pos h0]
    have h2 := h.2.2.1 _ (getD_memD (show k - 1 < pin.length by omega))
    omega
  · rw [if_neg h0]; omega
theorem lock_sm {p : Nat} {d s : Int} {lock : List (List Int)} (h : sysOk p d s) (hl : lockOk p d lock) : Sm (tII lock) 2 4121 ∧ Sm (tII (lock.map S)) 2 4121 := by
  have hz := lock_len h hl
  have hd := h.2.2.2.1
  refine ⟨sm_tII (by omega) fun q hq => ⟨(hl.2 q hq).2.1, fun x hx => ?_⟩, sm_tII (by rw [List.length_map]; omega) fun q hq => ?_⟩
  · have := (hl.2 q hq).2.2.1 x hx; omega
  · obtain ⟨r, hr, rfl⟩ := List.mem_map.mp hq
    exact ⟨by rw [S_len]; exact (hl.2 r hr).2.1, S_bd hd (hl.2 r hr)⟩
theorem judged_facts {p : Nat} {d s t : Int} {lock : List (List Int)} (h : sysOk p d s) (hl : lockOk p d lock) : Sm (judged t lock) 3 13000 ∧ (judged t lock).lf = true ∧ index (judged t lock) (.int 0) = some (.str (if (close t lock).isSome = true then "close" else "stacks")) ∧ judged t lock ≠ .undef := by
  have hz := lock_len h hl
  have hd := h.2.2.2.1
  unfold judged
  cases ec : close t lock with
  | some v =>
    obtain ⟨a, b, rfl, a0, a1, b0, b1⟩ := close_some hz (fun q hq c hc => by have := (hl.2 q hq).2.2.1 c hc; omega) ec
    refine ⟨?_, rfl, rfl, nofun⟩
    refine (Sm.tup (l := [.str "close", .int a, .int b]) (dp := 0) (w := 40) fun x hx => ?_).mono (by omega) (by simp)
    simp at hx
    rcases hx with rfl | rfl | rfl
    · exact sm_str5.1
    · exact Sm.num (by omega) (by omega)
    · exact Sm.num (by omega) (by omega)
  | none =>
    refine ⟨?_, ?_, rfl, nofun⟩
    · refine (Sm.tup (l := [.str "stacks", tII (lock.map S)]) (dp := 2) (w := 4121) fun x hx => ?_).mono (by omega) (by simp)
      simp at hx
      rcases hx with rfl | rfl
      · exact sm_str5.2.1.mono (by omega) (by omega)
      · exact (lock_sm h hl).2
    · show (PV.lf (.str "stacks") && (PV.lfs ((lock.map S).map _) && true)) = true
      rw [lfs_map]; rfl
theorem chg_sm {p : Nat} {d s : Int} {lock other : List (List Int)} (h : sysOk p d s) (hl : lockOk p d lock) (ho : lockOk p d other) : Sm (tI ((lock.zip other).map fun q => chg q.1 q.2)) 1 411 := by
  have hz := lock_len h hl
  refine sm_tI (by simp; omega) fun x hx => ?_
  obtain ⟨q, hq, rfl⟩ := List.mem_map.mp hx
  have h1 := (hl.2 _ (List.of_mem_zip hq).1).2.1
  have h2 := (ho.2 _ (List.of_mem_zip hq).2).2.1
  have h3 := cp_le (a := S q.1) (b := S q.2)
  have h4 : (S q.1).length = q.1.length := S_len
  have h5 : (S q.2).length = q.2.length := S_len
  unfold chg
  omega
theorem lock_turn {p : Nat} {d s t : Int} {locks : List (List (List Int))} {lock : List (List Int)} {sc tn x5 x8 x9 x10 x11 x12 : PV} (hW : 100 ≤ W) (h : sysOk p d s) (ht : 1 ≤ t ∧ t ≤ 9) (hl : lockOk p d lock) (hls : ∀ l ∈ locks, lockOk p d l) (hne : locks ≠ []) (hnl : locks.length ≤ 10) (st : LSt) :
    ∃ st' y8 y9 y10 y11 y12, evalSs (callN W PP (n + 8)) W lb1_law [sc, stP st, tn, .lst (locks.map fun l => .tup (l.map fun x => .tup (x.map .int))), tII lock, x5, .int t, sysV p d s, x8, x9, x10, x11, x12, .undef] =
      .nx [sc, stP st', tn, .lst (locks.map fun l => .tup (l.map fun x => .tup (x.map .int))), tII lock, x5, .int t, sysV p d s, y8, y9, y10, y11, y12, .undef] := by
  have hz := lock_len h hl
  have hp := hl.1
  obtain ⟨j1, j2, j3, j4⟩ := judged_facts (t := t) h hl
  obtain ⟨other, ho, s1, ep⟩ := pick_gen (W := W) (n := n + 6) h14 h13 st locks (fun l => .tup (l.map fun x => .tup (x.map .int))) (fun _ => nofun) hne (by omega)
  have ho' := hls other ho
  have hzo := lock_len h ho'
  have hpo := ho'.1
  have e23 := c_law_judged (W := W) (n := n + 6) (t := t) hz fun q hq => (hl.2 q hq).2.1
  have e6 := c_judge (W := W) (n := n + 3) h hl ht
  have e7 := c_los (W := W) (n := n + 3) h hl
  have e8 := c_wafers (W := W) (n := n + 3) h hl
  have e10 := c_fewest (W := W) (n := n + 3) hW h hl ho' ht
  have e11 := c_accept (W := W) (n := n + 2) h hl ht
  have e21 : ∀ a, a ∈ lock → callN W PP (n + 8) 21 [tI a] = .ok (tI (S a)) .undef := fun a ha => c_law_stack (hl.2 a ha).2.1
  have e25 : ∀ i : Nat, i < p → callN W PP (n + 8) 25 [tI (lock.getD i default), tI (other.getD i default)] = .ok (.int (chg (lock.getD i default) (other.getD i default))) .undef := fun i hi =>
    c_law_changes (hl.2 _ (getD_memD (by omega))).2.1 (ho'.2 _ (getD_memD (by omega))).2.1
  have s6 := same (W := W) (n := n + 7) (sm_one j1 (by omega) (by omega)) (by omega) (by omega)
  have s7 := same (W := W) (n := n + 7) (sm_one (lock_sm h hl).1 (by omega) (by omega)) (by omega) (by omega)
  have s8 := same (W := W) (n := n + 7) (sm_one (Sm.num (i := (lock.map fun pin => (pin.length : Int) - 1).sum) (by have := sum_le (l := lock) fun q hq => (hl.2 q hq).2.1; rw [← sum_sub]; omega) (by have := sum_le (l := lock) fun q hq => (hl.2 q hq).2.1; rw [← sum_sub]; omega)) (by omega) (by omega)) (by omega) (by omega)
  have s10 := same (W := W) (n := n + 7) (sm_one (chg_sm h hl ho') (by omega) (by omega)) (by omega) (by omega)
  have sN := same (W := W) (n := n + 7) (sm_one Sm.non (by omega) (by omega)) (by omega) (by omega)
  have sT := same (W := W) (n := n + 7) sm_str5.2.2 (by omega) (by omega)
  have ez : (List.range p).map (fun i => chg (lock.getD i default) (other.getD i default)) = (lock.zip other).map fun q => chg q.1 q.2 := by
    rw [zip_range, List.map_map, show min lock.length other.length = p by omega]; rfl
  have es : (lock.map fun pin => (pin.length : Int)).sum - (p : Int) = (lock.map fun pin => (pin.length : Int) - 1).sum := by rw [← sum_sub, hp]
  have n1 : ¬ ("close" : Str) = "stacks" := by decide +kernel
  have gj := fun env : Ev.Env => w_gvx (env := env) j4
  refine ⟨s1, judged t lock, tII (lock.map S), ?_⟩
  by_cases ec : (close t lock).isSome = true
  · rw [if_pos ec] at j3 e11
    refine ⟨.str "paper thick", tII other, tI ((lock.zip other).map fun q => chg q.1 q.2), ?_⟩
    simp! [lb1_law, e23, ask, word, e6, j2, j3, s6, gj, e21, e7, s7, e11, pt, n1, sT, e8, hp, es, s8, ep, e25, ez, e10, s10]
  · rw [if_neg ec] at j3 e11
    refine ⟨.lst [.non], tII other, tI ((lock.zip other).map fun q => chg q.1 q.2), ?_⟩
    simp! [lb1_law, e23, ask, word, e6, j2, j3, s6, gj, e21, e7, s7, e11, pt, sN, e8, hp, es, s8, ep, e25, ez, e10, s10]
end K12

namespace K12
open PySem Ev
variable {W n : Nat}
theorem pin_take {d : Int} {pin : List Int} (h : pinOk d pin) : pinOk d (pin.take 1) := by
  obtain ⟨h1, h2, h3, h4⟩ := h
  refine ⟨by simp; omega, by simp; omega, fun c hc => h3 c (List.mem_of_mem_take hc), fun i hi => ?_⟩
  simp at hi; omega
abbrev lockV (l : List (List Int)) : PV := .tup (l.map fun x => .tup (x.map .int))
theorem turn_ok {sc tn x4 x5 x6 x7 x8 x9 x10 x11 x12 L : PV} (hW : 100 ≤ W) (st : LSt) : ∃ st' L' y4 y6 y7 y8 y9 y10 y11 y12, evalSs (callN W PP (n + 8)) W lb2_law [sc, stP st, tn, L, x4, x5, x6, x7, x8, x9, x10, x11, x12, .undef] =
      .nx [sc, stP st', tn, L', y4, x5, y6, y7, y8, y9, y10, y11, y12, .undef] := by
  obtain ⟨p, d, s, s1, e1, h⟩ := c_law_system (W := W) (n := n + 5) st
  have h' := h
  unfold sysOk at h'
  obtain ⟨r, s2, e2, r0, r1⟩ := draw_ex (W := W) (n := n + 7) h13 s1 9 (by omega) (by omega)
  obtain ⟨t, ht, s3, e3⟩ := pick_ints (W := W) (n := n + 6) h14 h13 s2 [1, 2, 3, 9, 1 + r] (by simp) (by simp)
  simp only [List.map_cons, List.map_nil] at e3
  have ht : 1 ≤ t ∧ t ≤ 9 := by simp at ht; omega
  obtain ⟨l0, s4, e4, k0⟩ := c_law_lock (W := W) (n := n + 4) h s3
  obtain ⟨l1, s5, e5, k1⟩ := c_even (W := W) (n := n + 4) hW h ht s4
  obtain ⟨l2, s6, e6, k2⟩ := c_even (W := W) (n := n + 4) hW h ht s5
  have z0 := lock_len h k0
  have z1 := lock_len h k1
  have z2 := lock_len h k2
  obtain ⟨l3, s7, e7, hl, hg⟩ := comp_gen (C := callN W PP (n + 8)) (own := [13]) (tg := .n 13) (it := .rng (.cons (.idx (.v 7) (.c (.int 0))) .nil)) (e := .callr 14 1 (.cons (.lst (.cons (.chk (.idx (.idx (.m 3) (.c (.int 0))) (.v 13))) (.cons (.chk (.idx (.idx (.m 3) (.c (.int 1))) (.v 13))) (.cons (.chk (.sl (.idx (.idx (.m 3) (.c (.int 1))) (.v 13)) .no (.so (.c (.int 1))))) (.cons (.chk (.idx (.idx (.m 3) (.c (.int 2))) (.v 13))) .nil))))) .nil)) (l := List.range p) (fi := fun i : Nat => .int i) (f := fun x => .tup (x.map .int)) (pinOk d)
    (fun s' => [sc, stP s', tn, .lst [tII l0, tII l1, tII l2], x4, x5, .int t, sysV p d s, x8, x9, x10, x11, x12, .undef]) (s0 := s6) (env := [sc, stP s6, tn, .lst [tII l0, tII l1, tII l2], x4, x5, .int t, sysV p d s, x8, x9, x10, x11, x12, .undef])
    (by simp!; rfl) (fun i hi s' => by
      have hi := List.mem_range.mp hi
      have q0 := k0.1
      have q1 := k1.1
      have q2 := k2.1
      have g0 := k0.2 _ (getD_memD (show i < l0.length by omega))
      have g1 := k1.2 _ (getD_memD (show i < l1.length by omega))
      have g2 := k2.2 _ (getD_memD (show i < l2.length by omega))
      obtain ⟨pin, hp, s8, e8⟩ := pick_gen (W := W) (n := n + 6) h14 h13 s' [l0.getD i default, l1.getD i default, (l1.getD i default).take 1, l2.getD i default] (fun x => .tup (x.map .int)) (fun _ => nofun) (by simp) (by simp)
      simp only [List.map_cons, List.map_nil] at e8
      refine ⟨[sc, stP s', tn, .lst [tII l0, tII l1, tII l2], x4, x5, .int t, sysV p d s, x8, x9, x10, x11, x12, .int i], pin, s8, [sc, stP s8, tn, .lst [tII l0, tII l1, tII l2], x4, x5, .int t, sysV p d s, x8, x9, x10, x11, x12, .int i], rfl, by simp! [e8], rfl, ?_⟩
      simp at hp
      rcases hp with rfl | rfl | rfl | rfl
      · simpa using g0
      · simpa using g1
      · simpa using pin_take g1
      · simpa using g2) (by simp; omega) fun s => rfl
  rw [List.length_range] at hl
  have z3 : lockOk p d l3 := ⟨hl, hg⟩
  have hls : ∀ l ∈ [l0, l1, l2, l3], lockOk p d l := by
    intro l hl
    simp at hl
    rcases hl with rfl | rfl | rfl | rfl <;> assumption
  obtain ⟨en', e9, st', y4, y8, y9, y10, y11, y12, rfl⟩ := formX_inv (C := callN W PP (n + 8)) (W := W) (t := .n 4) (b := lb1_law) (i := 3) (m := W) (l := [l0, l1, l2, l3]) (f := lockV) (en := [sc, stP s7, tn, .lst [tII l0, tII l1, tII l2, tII l3], x4, x5, .int t, sysV p d s, x8, x9, x10, x11, x12, .undef])
    (fun x hx => by show PV.lfs _ = true; exact lfs_map) (fun j en => ∃ s' y4 y8 y9 y10 y11 y12, en = [sc, stP s', tn, .lst [tII l0, tII l1, tII l2, tII l3], y4, x5, .int t, sysV p d s, y8, y9, y10, y11, y12, .undef]) (fun j en hj => by
      obtain ⟨s', y4, y8, y9, y10, y11, y12, rfl⟩ := hj; rfl) ⟨s7, _, _, _, _, _, _, rfl⟩ (fun j lock en hx hI => by
      obtain ⟨s', y4, y8, y9, y10, y11, y12, rfl⟩ := hI
      have hm := List.mem_of_getElem? hx
      obtain ⟨s8, z8, z9, z10, z11, z12, e⟩ := lock_turn (W := W) (n := n) (sc := sc) (tn := tn) (x5 := x5) (x8 := y8) (x9 := y9) (x10 := y10) (x11 := y11) (x12 := y12) hW h ht (hls lock hm) hls (by simp) (by simp) s'
      exact ⟨_, rfl, _, .inl e, s8, _, z8, z9, z10, z11, z12, rfl⟩) (by simp; omega)
  refine ⟨st', .lst [tII l0, tII l1, tII l2, tII l3], y4, .int t, sysV p d s, y8, y9, y10, y11, y12, ?_⟩
  simp! [lb2_law, e1, e2, e3, e4, e5, e6, e7, e9]
theorem c_law (ns : List Int) (hW : 100 ≤ W) : callN W PP (n + 9) 26 [.scr (ns.map .int)] = .ok (.bl true) .undef := by
  rw [call_eq b_law [.scr (ns.map .int), .undef, .undef, .undef, .undef, .undef, .undef, .undef, .undef, .undef, .undef, .undef, .undef, .undef] h26 rfl rfl rfl rfl]
  obtain ⟨s0, e0⟩ := g_start (W := W) (n := n + 7) h12 ns
  obtain ⟨en', e, s1, x2, x3, x4, x5, x6, x7, x8, x9, x10, x11, x12, rfl⟩ := forX_inv (C := callN W PP (n + 8)) (W := W) (t := .n 2) (b := lb2_law) (l := List.range 4) (f := fun i : Nat => .int i) (en := [.scr (ns.map .int), stP s0, .undef, .undef, .undef, .undef, .undef, .undef, .undef, .undef, .undef, .undef, .undef, .undef])
    (fun j en => ∃ s1 x2 x3 x4 x5 x6 x7 x8 x9 x10 x11 x12, en = [.scr (ns.map .int), stP s1, x2, x3, x4, x5, x6, x7, x8, x9, x10, x11, x12, .undef]) ⟨s0, _, _, _, _, _, _, _, _, _, _, _, rfl⟩ fun j x en hx hI => by
      obtain ⟨s1, x2, x3, x4, x5, x6, x7, x8, x9, x10, x11, x12, rfl⟩ := hI
      obtain ⟨st', L', y4, y6, y7, y8, y9, y10, y11, y12, e⟩ := turn_ok (W := W) (n := n) (sc := .scr (ns.map .int)) (tn := .int x) (x4 := x4) (x5 := x5) (x6 := x6) (x7 := x7) (x8 := x8) (x9 := x9) (x10 := x10) (x11 := x11) (x12 := x12) (L := x3) hW s1
      exact ⟨_, rfl, _, .inl e, st', _, L', y4, _, y6, y7, y8, y9, y10, y11, y12, rfl⟩
  have e : forX _ _ _ _ (rg0 4) _ = _ := e
  obtain ⟨r, s2, e2, r0, r1⟩ := draw_ex (W := W) (n := n + 7) h13 s1 9 (by omega) (by omega)
  obtain ⟨q, s3, e3, q0, q1⟩ := draw_ex (W := W) (n := n + 7) h13 s2 9 (by omega) (by omega)
  have e9 := c_count (W := W) (n := n + 3) (d := 2 + r) (t := 1 + q) (by omega) (by omega)
  have hd : (((2 + r).toNat : Nat) : Int) = 2 + r := by omega
  have e24 := c_stackable (W := W) (n := n + 7) (d := (2 + r).toNat) (t := 1 + q) (by omega)
  have hq : ((1 + q).toNat : Int) = 1 + q := by omega
  have ee := ends_all (2 + r).toNat (by omega) (1 + q).toNat (by omega) (by omega) (by omega)
  rw [hq, hd] at ee
  rw [hd, ee] at e24
  have hb := rows_len (1 + q) (2 + r).toNat
  have hpw : 2 ^ (2 + r).toNat ≤ 2 ^ 10 := Nat.pow_le_pow_right (by omega) (by omega)
  have s9 := same (W := W) (n := n + 7) (sm_one (Sm.num (i := (ends (2 + r) (1 + q)).sum) (by omega) (by omega)) (by omega) (by omega)) (by omega) (by omega)
  simp! [b_law, e0, e, e2, e3, ask, e9, e24, s9]
end K12

namespace K12
open PySem PySem.Spec PyProof.Rows L2 Ev
abbrev R : PySem.W.OpenRow := PySem.W.OpenLaw.row PySem.Challenge.rw_opensjust_k12_whole_wafers
abbrev Pg : Program := PySem.W.OpenLaw.prog PySem.Challenge.rw_opensjust_k12_whole_wafers
abbrev hk : PySem.W.Hook := hookX 4 Pg DX (facOf DI cs) (DI.map DefI.he)
def ob (s : PySem.W.SharedT) : AlX := obsXG 4 Pg DX (facOf DI cs) (DI.map DefI.he) (HandSHeadRun.getT s)
theorem ob_eq (s : PySem.W.SharedT) : ob s = hk.obs s.abs := obsXG_eq (HandSHeadRun.getT_eq s)
theorem run (w : World) : HandSHeadRun.RunEq R (PySem.W.view R.prog [lawAt]) hk ob 6000 loose w := by
  intro os
  kernel_rfl
theorem chk_all : DI.all (chkD (DI.map DefI.sig) cs (sgs DX)) = true := by decide +kernel
theorem xd_all : xdAll Pg DX = true := by decide +kernel
theorem bindL (K : PySem.W.Frag) (f : Addr) (fd : FuncData) (F : FunD K i_law.he.name i_law.he.qual i_law.he.params i_law.he.body i_law.he.scope [] [] f fd) (s : Shared) (u : Value) : BindsTo s fd ⟨[u], []⟩ [("script", u)] :=
  FunD.bindsA (ps := ["script"]) F (fun _ _ _ _ _ _ us hl => match us, hl with | [_], _ => rfl) s [u] rfl
end K12
open PySem PySem.W PySem.Calls PyProof.Rows
theorem K12.holds (Wf dp : Nat) (hr : L2.Room (dp + 2) callerA) (hC : ∀ ns : List Int, ns.length ≤ 63 → (∀ z ∈ ns, Builtin.Int.intBits z ≤ 1048576) → ∃ b, Ev.callN Wf (K12.DI.map Ev.DefI.d) dp K12.lawNo [.scr (ns.map Ev.PV.int)] = .ok (.bl true) b) : PySem.Challenge.rw_opensjust_k12_whole_wafers.Holds := by
  w_on; o_law
  refine HandSHeadRun.head_any (r := OpenLaw.row PySem.Challenge.rw_opensjust_k12_whole_wafers) (q := view (OpenLaw.row PySem.Challenge.rw_opensjust_k12_whole_wafers).prog [K12.lawAt]) (H := K12.hk) (ob := K12.ob) (M := 6000) (loose := K12.loose) (d := HandSHeadRun.topDef (OpenLaw.row PySem.Challenge.rw_opensjust_k12_whole_wafers).prog K12.lawAt) (kwd := []) K12.ob_eq
    (by kernel_rfl) (fun s => by kernel_rfl) K12.run (by kernel_rfl) (by kernel_rfl) (by kernel_rfl) (by rfl) (by first | assumption | decide +kernel) (by decide +kernel) ⟨rfl, rfl, rfl, rfl, rfl, by decide +kernel⟩ ?hw ?hc
  case hw => w_witness2
  case hc =>
    exact Ev.walk_prog (DL := K12.i_law) (DX := K12.DX) (kL := K12.lawNo) (x := "script") (Wf := Wf) (depth := dp) rfl (by kernel_rfl) (by kernel_rfl) rfl rfl rfl rfl rfl rfl rfl K12.chk_all K12.xd_all K12.xb (by decide +kernel) (by decide +kernel) K12.bind K12.bindL hr hC

theorem PySem.Challenge.cw_opensjust_k12_whole_wafers_holds : PySem.Challenge.rw_opensjust_k12_whole_wafers.Holds :=
  K12.holds 1000 40 ⟨rfl, by decide, by decide⟩ fun ns _ _ => ⟨.undef, K12.c_law (n := 31) ns (by decide)⟩
