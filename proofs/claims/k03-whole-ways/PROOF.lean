import PyProof.Rows.All
import Wide.All
import OpenK.AllK
import Wide.FinOn
import KE.SortData
import KE.DataMinMax
import KE.DataFind
import HandS.ForMost
import HandS.Walk
import HandS.Zip
import HandS.TupAny
import HandS.Wide
import HandS.Style
import HandS.Exc
import HandS.ExcOwn
import HandS.TupMul
import HandS.Deep
import HandS.Flow
import HandS.IsInst
import HandS.Codes
import HandS.Defaults
import HandS.Head0
import HandS.Head1
import HandS.Head2
import HandS.HeadEnd
import HandS.EndBits
import HandS.HeadHook1
import HandS.HeadHook2
import KE.KStateDown
import PySem.Challenge.RW_opensjust_k03_whole_ways
set_option Elab.async false
set_option linter.all false
set_option maxRecDepth 100000
set_option maxHeartbeats 0
/-! Ev: an evaluator of a small Python over pure data; lists are values, owned by one place. -/
namespace Ev
open PySem

/-- data: lists are values -/
inductive PV where
  | undef | non
  | bl (b : Bool) | int (i : Int) | str (s : Str)
  | tup (l : List PV) | lst (l : List PV)
  | fn (k : Nat) | exc (c : Nat) (a : PV)
  /-- the script: a list that nobody changes -/
  | scr (l : List PV)
  deriving Inhabited

mutual
def PV.pd : PV → PyData
  | .bl b => .bool b
  | .int i => .int i
  | .str s => .str s
  | .tup l => .tuple (PV.pds l)
  | .lst l => .list (PV.pds l)
  | .undef => .none
  | .non => .none
  | .fn _ => .none
  | .exc _ _ => .none
  | .scr _ => .none
def PV.pds : List PV → List PyData
  | [] => []
  | x :: l => PV.pd x :: PV.pds l
end
mutual
/-- made of None, bools, asIntsP, texts, tuples, lists -/
def PV.data : PV → Bool
  | .tup l => PV.datas l
  | .lst l => PV.datas l
  | .undef => false
  | .fn _ => false
  | .exc _ _ => false
  | .scr _ => false
  | .bl _ => true
  | .int _ => true
  | .str _ => true
  | .non => true
def PV.datas : List PV → Bool
  | [] => true
  | x :: l => PV.data x && PV.datas l
end
mutual
/-- no list in it -/
def PV.lf : PV → Bool
  | .tup l => PV.lfs l
  | .lst _ => false
  | .undef => false
  | .fn _ => true
  | .exc _ _ => false
  | .scr _ => true
  | .bl _ => true
  | .int _ => true
  | .str _ => true
  | .non => true
def PV.lfs : List PV → Bool
  | [] => true
  | x :: l => PV.lf x && PV.lfs l
end
abbrev Env := List PV

/-! ### the syntax -/
inductive Ty | int | bool | tuple | str | list | own (c : Nat) | exc
  deriving DecidableEq, Inhabited
inductive Blt | len | tuple | list | sum | all | any | min | max | sorted | abs | int | repr | str | bool
  deriving DecidableEq, Inhabited
inductive Mth | count | index
  deriving DecidableEq, Inhabited
/-- targets -/
inductive T | n (i : Nat) | nil | cons (a : T) (r : T)
  deriving DecidableEq, Inhabited
mutual
inductive E where
  | c (p : PV) | g (x : Str) (v : PV) | fn (k : Nat)
  | v (i : Nat) | m (i : Nat) | mv (i : Nat)
  | chk (e : E) | chk1 (e : E)
  | bin (op : Operator) (a b : E) | neg (a : E) | not (a : E)
  | and (a b : E) | or (a b : E)
  | cmp (op : CmpOp) (a b : E) | cmp2 (o1 o2 : CmpOp) (a b c : E)
  | ife (c a b : E)
  | call (k : Nat) (es : Es) | callr (k i : Nat) (es : Es) | callv (i : Nat) (es : Es)
  | blt (b : Blt) (es : Es) | mth (m : Mth) (o : E) (es : Es)
  | isi (a : E) (ty : Ty)
  | attr (a : E)
  | tup (es : Es) | lst (es : Es)
  | idx (a i : E) | sl (a : E) (lo hi : OE) | rev (a : E)
  | comp (own : List Nat) (tg : T) (it : It) (c : OE) (e : E)
inductive Es where
  | nil | cons (e : E) (es : Es)
inductive OE where
  | no | so (e : E)
inductive It where
  | e (a : E) | m (a : E) | rng (es : Es) | enum (a : E) | zip (es : Es)
end
mutual
inductive S where
  | asg (t : T) (e : E) | masg (i : Nat) (e : E) | aug (i : Nat) (op : Operator) (e : E)
  | app (i : Nat) (e : E) | set (i : Nat) (p : E) (e : E) | augs (i : Nat) (p : E) (op : Operator) (e : E)
  | ex (e : E) | ret (e : E) | retn
  | ite (c : E) (a b : Ss)
  | for (t : T) (it : It) (b : Ss) | form (t : T) (i : Nat) (b : Ss) | whl (c : E) (b : Ss)
  | raise (c : Nat) (e : E)
  | try (b : Ss) (c i : Nat) (h : Ss)
  | brk | cont | pass
  /-- never reached -/
  | bad
inductive Ss where
  | nil | cons (s : S) (ss : Ss)
end

/-! ### results -/
inductive Res (α : Type) where
  | ok (a : α) | raise (c : Nat) (a : PV) (env : Env) | fail
def Res.nr {α : Type} : Res α → Res α
  | .ok a => .ok a
  | _ => .fail
def Res.bind {α β : Type} : Res α → (α → Res β) → Res β
  | .ok a, f => f a
  | .raise c a e, _ => .raise c a e
  | .fail, _ => .fail
inductive CR where
  | ok (v br : PV) | raise (c : Nat) (a br : PV) | fail
inductive Out where
  | nx (env : Env) | rt (v : PV) (env : Env) | bk (env : Env) | ct (env : Env) | raise (c : Nat) (a : PV) (env : Env) | fail
def Res.out {α : Type} : Res α → (α → Out) → Out
  | .ok a, f => f a
  | .raise c a e, _ => .raise c a e
  | .fail, _ => .fail
def Out.seq : Out → (Env → Out) → Out
  | .nx e, f => f e
  | o, _ => o

/-! ### operations -/
def ofC : Const → Option PV
  | .none => some .non
  | .bool b => some (.bl b)
  | .int i => some (.int i)
  | .str s => some (.str s)
  | _ => none
/-- truth -/
def truth : PV → Option Bool
  | .non => some false
  | .bl b => some b
  | .int i => some (i != 0)
  | .str s => if s.length ≤ sizeLine then some (s.length != 0) else none
  | .tup l => some (!l.isEmpty)
  | .lst l => some (!l.isEmpty)
  | _ => none
def PV.b2i : Bool → Int
  | true => 1
  | false => 0
def mulOk (i j : Int) : Bool := (decide (i.natAbs.log2 + j.natAbs.log2 < 1000000)) || (decide (-(2 ^ 64) < j) && decide (j < 2 ^ 64)) || (decide (-(2 ^ 64) < i) && decide (i < 2 ^ 64))
def fdivOk (j : Int) : Bool := decide (j ≠ 0) && decide (j.natAbs < 1073741824) || decide (0 < j) && decide (j.natAbs.log2 < 9000)
def rep (l : List PV) (k : Int) : List PV := (List.replicate k.toNat l).flatten
def binop : Operator → PV → PV → Option PV
  | .Add, .int i, .int j => some (.int (i + j))
  | .Add, .int i, .bl b => some (.int (i + PV.b2i b))
  | .Add, .str x, .str y => if x.length + y.length ≤ sizeLine then some (.str (x ++ y)) else none
  | .Add, .tup l, .tup r => if l.length + r.length ≤ sizeLine then some (.tup (l ++ r)) else none
  | .Add, .lst l, .lst r => if l.length + r.length ≤ sizeLine then some (.lst (l ++ r)) else none
  | .Sub, .int i, .int j => some (.int (i - j))
  | .Mult, .int i, .int j => if mulOk i j then some (.int (i * j)) else none
  | .Mult, .lst l, .int k => if l.length * k.toNat ≤ sizeLine ∧ -(2 ^ 63) ≤ k ∧ k < 2 ^ 63 then some (.lst (rep l k)) else none
  | .Mult, .tup l, .int k => if l.length ≤ 1000 ∧ 0 < l.length ∧ 2 ≤ k ∧ k ≤ 1000 then some (.tup (rep l k)) else none
  | .FloorDiv, .int i, .int j => if fdivOk j then some (.int (i.fdiv j)) else none
  | .Mod, .int i, .int j => if j ≠ 0 then some (.int (i.fmod j)) else none
  | .Pow, .int i, .int j => if 0 ≤ j ∧ j ≤ 1000000 ∧ i.natAbs < 2 ^ 64 then some (.int (i ^ j.toNat)) else none
  | .LShift, .int i, .int j => if 0 ≤ j ∧ j ≤ 1000000 ∧ i.natAbs < 2 ^ 64 then some (.int (i * 2 ^ j.toNat)) else none
  | .RShift, .int i, .int j => if 0 ≤ j then some (.int (i / 2 ^ j.toNat)) else none
  | .BitAnd, .int i, .int j => some (.int (Builtin.bitAnd i j))
  | .BitOr, .int i, .int j => some (.int (Builtin.bitOr i j))
  | .BitXor, .int i, .int j => some (.int (Builtin.bitXor i j))
  | _, _, _ => none
def augop : Operator → PV → PV → Option PV
  | .Add, .int i, .int j => some (.int (i + j))
  | .Sub, .int i, .int j => some (.int (i - j))
  | .Mult, .int i, .int j => if (-(2 ^ 64) < i ∧ i < 2 ^ 64) ∨ (-(2 ^ 64) < j ∧ j < 2 ^ 64) then some (.int (i * j)) else none
  | .FloorDiv, .int i, .int j => if 0 < j ∧ j < 1073741824 then some (.int (i / j)) else none
  | _, _, _ => none
def ixN (n : Nat) (i : Int) : Option Nat := if 0 ≤ i then (if i < n then some i.toNat else none) else if -(n : Int) ≤ i then some (i + n).toNat else none
def atI {α : Type} (xs : List α) (i : Int) : Option α := (ixN xs.length i).bind fun j => xs[j]?
def sIx (n d : Nat) : Option Int → Nat
  | none => d
  | some v => if v < 0 then (v + n).toNat else min v.toNat n
def cut {α : Type} (xs : List α) (lo hi : Option Int) : List α := (xs.drop (sIx xs.length 0 lo)).take (sIx xs.length xs.length hi - sIx xs.length 0 lo)
def index : PV → PV → Option PV
  | .tup l, .int i => atI l i
  | .lst l, .int i => atI l i
  | .str s, .int i => if s.length ≤ sizeLine then (atI s.cps.toList i).map fun c => .str ⟨#[c]⟩ else none
  | _, _ => none
def slice : PV → Option Int → Option Int → Option PV
  | .tup l, a, b => some (.tup (cut l a b))
  | .lst l, a, b => some (.lst (cut l a b))
  | .str s, a, b => if s.length ≤ sizeLine then some (.str ⟨(cut s.cps.toList a b).toArray⟩) else none
  | _, _, _ => none
def eqOk (x y : PV) : Bool := x.data && y.data && SeqAt.shaped x.pd && SeqAt.shaped y.pd
def ltOk (x y : PV) : Bool := x.data && y.data && PySem.W.alike x.pd y.pd && decide (x.pd.depth ≤ 64) && (match x.pd with | .none => false | _ => true)
def flat : PV → Bool
  | .non => true
  | .bl _ => true
  | .int _ => true
  | .str _ => true
  | _ => false
/-- x in l -/
def inOk (x : PV) (l : List PV) : Bool := x.data && PV.datas l && SeqAt.shaped x.pd && SeqAt.shaped (.list (PV.pds l))
def inP (x : PV) (l : List PV) : Bool := (PV.pds l).any fun d => PyData.eqv d x.pd
def cmpop : CmpOp → PV → PV → Option Bool
  | .Eq, .str x, .str y => some (decide (x = y))
  | .NotEq, .str x, .str y => some (!decide (x = y))
  | .Eq, x, y => if eqOk x y then some (PyData.eqv x.pd y.pd) else none
  | .NotEq, x, y => if eqOk x y then some (!PyData.eqv x.pd y.pd) else none
  | .Lt, .int i, .int j => some (decide (i < j))
  | .LtE, .int i, .int j => some (decide (i ≤ j))
  | .Gt, .int i, .int j => some (decide (j < i))
  | .GtE, .int i, .int j => some (decide (j ≤ i))
  | .Lt, x, y => if ltOk x y then some (PySem.W.dataLt x.pd y.pd) else none
  | .LtE, x, y => if ltOk x y then some (!PySem.W.dataLt y.pd x.pd) else none
  | .Gt, x, y => if ltOk x y then some (PySem.W.dataLt y.pd x.pd) else none
  | .GtE, x, y => if ltOk x y then some (!PySem.W.dataLt x.pd y.pd) else none
  | .Is, x, .non => match x with
    | .undef => none
    | .non => some true
    | _ => some false
  | .IsNot, x, .non => match x with
    | .undef => none
    | .non => some false
    | _ => some true
  | .In, x, .tup l => if inOk x l then some (inP x l) else none
  | .In, x, .lst l => if inOk x l then some (inP x l) else none
  | .NotIn, x, .tup l => if inOk x l then some (!inP x l) else none
  | .NotIn, x, .lst l => if inOk x l then some (!inP x l) else none
  | _, _, _ => none
def asIntsP : List PV → Option (List Int)
  | [] => some []
  | .int i :: l => (asIntsP l).map (i :: ·)
  | _ :: _ => none
def asBlsP : List PV → Option (List Bool)
  | [] => some []
  | .bl i :: l => (asBlsP l).map (i :: ·)
  | _ :: _ => none
def seqOf : PV → Option (List PV)
  | .tup l => some l
  | .lst l => some l
  | .scr l => some l
  | _ => none
/-- the first least item -/
def best (lt : PV → PV → Bool) : PV → List PV → PV
  | x, [] => x
  | x, y :: l => if lt y x then best lt y l else best lt x l
def ordOk (l : List PV) : Bool := l.all fun x => l.all fun y => ltOk x y
def pmin : List PV → Option PV
  | [] => none
  | x :: l => if ordOk (x :: l) then some (best (fun a b => PySem.W.dataLt a.pd b.pd) x l) else none
def pmax : List PV → Option PV
  | [] => none
  | x :: l => if ordOk (x :: l) then some (best (fun a b => PySem.W.dataLt b.pd a.pd) x l) else none
def sortOk (l : List PV) : Bool := ordOk l && ((l.all fun x => match x with | .tup (_ :: _) => true | _ => false) || (l.all fun x => match x with | .tup _ => false | _ => true))
def psort (l : List PV) : List PV := l.mergeSort (fun a b => !PySem.W.dataLt b.pd a.pd)
def reprOk (x : PV) : Bool := x.data && x.pd.showable && decide (x.pd.depth ≤ 60) && decide (x.pd.shown.length ≤ sizeLine)
def evalB : Blt → List PV → Option PV
  | .len, [.tup l] => some (.int l.length)
  | .len, [.lst l] => some (.int l.length)
  | .len, [.str s] => if s.length ≤ sizeLine then some (.int s.length) else none
  | .tuple, [.tup l] => some (.tup l)
  | .tuple, [.lst l] => some (.tup l)
  | .list, [.tup l] => some (.lst l)
  | .list, [.scr l] => some (.lst l)
  | .list, [.lst l] => some (.lst l)
  | .sum, [.lst l] => (asIntsP l).map fun ns => .int ns.sum
  | .all, [.lst l] => (asBlsP l).map fun bs => .bl (bs.all id)
  | .any, [.lst l] => (asBlsP l).map fun bs => .bl (bs.any id)
  | .min, [.lst l] => pmin l
  | .max, [.lst l] => pmax l
  | .min, [.int i, .int j] => some (.int (if j < i then j else i))
  | .max, [.int i, .int j] => some (.int (if j > i then j else i))
  | .sorted, [.lst l] => if sortOk l then some (.lst (psort l)) else none
  | .abs, [.int i] => some (.int (if i < 0 then -i else i))
  | .int, [.int i] => some (.int i)
  | .int, [.bl b] => some (.int (PV.b2i b))
  | .repr, [x] => if reprOk x then some (.str x.pd.shown) else none
  | .str, [.int i] => if i.natAbs.log2 < 1920 then some (.str (toString i)) else none
  | .bool, [.int i] => some (.bl (i != 0))
  | .bool, [.bl b] => some (.bl b)
  | _, _ => none
def evalM : Mth → PV → List PV → Option PV
  | .count, .lst l, [x] => if inOk x l then some (.int ((PV.pds l).countP fun y => PyData.eqv y x.pd)) else none
  | .index, .lst l, [x] => if inOk x l then ((PV.pds l).findIdx? fun y => PyData.eqv y x.pd).map fun j => .int j else none
  | _, _, _ => none
def isinst : PV → Ty → Option Bool
  | .undef, _ => none
  | .fn _, _ => none
  | .scr _, _ => none
  | .exc c _, .own d => some (d == 0 || d == c)
  | .exc _ _, .exc => some true
  | .exc _ _, _ => none
  | .int _, t => some (t == .int)
  | .bl _, t => some (t == .int || t == .bool)
  | .str _, t => some (t == .str)
  | .tup _, t => some (t == .tuple)
  | .lst _, t => some (t == .list)
  | .non, _ => some false
mutual
def assign : T → PV → Env → Option Env
  | .n i, x, env => some (env.set i x)
  | .nil, x, env => match x with
    | .tup [] => some env
    | _ => none
  | .cons a r, x, env => match x with
    | .tup (y :: l) => (assign a y env).bind fun e => assign r (.tup l) e
    | _ => none
end
def pairs (n : Int) : List PV → List PV
  | [] => []
  | x :: l => .tup [.int n, x] :: pairs (n + 1) l
def zips : List PV → List PV → List PV
  | x :: l, y :: r => .tup [x, y] :: zips l r
  | _, _ => []
def zip2 : PV → PV → Option (List PV)
  | .tup l, .tup r => some (zips l r)
  | .lst l, .lst r => some (zips l r)
  | _, _ => none
def enumOf : PV → Option (List PV)
  | .tup l => some (pairs 0 l)
  | .lst l => some (pairs 0 l)
  | _ => none
def rng (a : Int) : Nat → List PV
  | 0 => []
  | n + 1 => .int a :: rng (a + 1) n
def rngC (a c : Int) : Nat → List PV
  | 0 => []
  | n + 1 => .int a :: rngC (a + c) c n
def small62 (i : Int) : Bool := decide (-4611686018427387904 ≤ i) && decide (i < 4611686018427387904)
def ranges : List PV → Option (List PV)
  | [.int j] => if small62 j then some (rng 0 j.toNat) else none
  | [.int i, .int j] => if small62 i && small62 j then some (rng i (j - i).toNat) else none
  | [.int i, .int j, .int c] => if small62 i && small62 j && decide (c.natAbs < 1073741824) then
      if 0 < c then some (rngC i c ((j - i + c - 1) / c).toNat) else if c < 0 then some (rngC i c ((i - j + (-c) - 1) / (-c)).toNat) else none else none
  | _ => none
def wipe (own : List Nat) (env : Env) : Env := own.foldl (fun e i => e.set i .undef) env
def restore (own : List Nat) (e0 env : Env) : Env := own.foldl (fun e i => e.set i (e0.getD i .undef)) env
def compGo (f : PV → Env → Res (Option PV × Env)) : List PV → Env → Res (List PV × Env)
  | [], env => .ok ([], env)
  | x :: xs, env => (f x env).bind fun r => (compGo f xs r.2).bind fun q => .ok (match r.1 with | some y => y :: q.1 | none => q.1, q.2)
def ofO {α : Type} (o : Option α) : Res α := match o with
  | some a => .ok a
  | none => .fail
def get (env : Env) (i : Nat) : Res (PV × Env) := match env.getD i .undef with
  | .undef => .fail
  | x => .ok (x, env)

def getL (env : Env) (i : Nat) : Res (List PV × Env) := match env.getD i .undef with
  | .lst l => .ok (l, env)
  | _ => .fail

/-- the calls of defs, by their numbers -/
abbrev Calls := Nat → List PV → CR
def runCall (r : CR) (env : Env) : Res (PV × Env) := match r with
  | .ok v _ => .ok (v, env)
  | .raise c a _ => .raise c a env
  | .fail => .fail
def runCallR (r : CR) (i : Nat) (env : Env) : Res (PV × Env) := match r with
  | .ok v b => .ok (v, env.set i b)
  | .raise c a b => .raise c a (env.set i b)
  | .fail => .fail

section
variable (C : Calls)
mutual
def evalE : E → Env → Res (PV × Env)
  | .c p, env => .ok (p, env)
  | .g _ x, env => .ok (x, env)
  | .fn k, env => .ok (.fn k, env)
  | .v i, env => get env i
  | .m i, env => get env i
  | .mv i, env => (get env i).bind fun r => .ok (r.1, env.set i .undef)
  | .chk e, env => (evalE e env).bind fun r => if r.1.lf = true then .ok r else .fail
  | .chk1 e, env => (evalE e env).bind fun r => match r.1 with
    | .lst l => if PV.lfs l = true then .ok r else .fail
    | _ => .fail
  | .bin op a b, env => (evalE a env).bind fun r => (evalE b r.2).bind fun q => (ofO (binop op r.1 q.1)).bind fun x => .ok (x, q.2)
  | .neg a, env => (evalE a env).bind fun r => match r.1 with
    | .int i => .ok (.int (-i), r.2)
    | _ => .fail
  | .not a, env => (evalE a env).bind fun r => (ofO (truth r.1)).bind fun b => .ok (.bl (!b), r.2)
  | .and a b, env => (evalE a env).bind fun r => (ofO (truth r.1)).bind fun t => if t = true then evalE b r.2 else .ok r
  | .or a b, env => (evalE a env).bind fun r => (ofO (truth r.1)).bind fun t => if t = true then .ok r else evalE b r.2
  | .cmp op a b, env => (evalE a env).bind fun r => (evalE b r.2).bind fun q => (ofO (cmpop op r.1 q.1)).bind fun x => .ok (.bl x, q.2)
  | .cmp2 o1 o2 a b c, env => (evalE a env).bind fun r => (evalE b r.2).bind fun q => (ofO (cmpop o1 r.1 q.1)).bind fun x =>
      if x = true then (evalE c q.2).bind fun p => (ofO (cmpop o2 q.1 p.1)).bind fun y => .ok (.bl y, p.2) else .ok (.bl false, q.2)
  | .ife c a b, env => (evalE c env).bind fun r => (ofO (truth r.1)).bind fun t => if t = true then evalE a r.2 else evalE b r.2
  | .call k es, env => (evalEs es env).bind fun r => runCall (C k r.1) r.2
  | .callr k i es, env => (get env i).bind fun _ => (evalEs es env).bind fun r => (get r.2 i).bind fun s => runCallR (C k (s.1 :: r.1)) i r.2
  | .callv i es, env => (evalEs es env).bind fun r => match env.getD i .undef with
    | .fn k => runCall (C k r.1) r.2
    | _ => .fail
  | .blt b es, env => (evalEs es env).bind fun r => (ofO (evalB b r.1)).bind fun x => .ok (x, r.2)
  | .mth m o es, env => (evalE o env).bind fun q => (evalEs es q.2).bind fun r => (ofO (evalM m q.1 r.1)).bind fun x => .ok (x, r.2)
  | .isi a t, env => (evalE a env).bind fun r => (ofO (isinst r.1 t)).bind fun b => .ok (.bl b, r.2)
  | .attr a, env => (evalE a env).bind fun r => match r.1 with
    | .exc _ x => .ok (x, r.2)
    | _ => .fail
  | .tup es, env => (evalEs es env).bind fun r => .ok (.tup r.1, r.2)
  | .lst es, env => (evalEs es env).bind fun r => .ok (.lst r.1, r.2)
  | .idx a i, env => (evalE a env).bind fun r => (evalE i r.2).bind fun q => (ofO (index r.1 q.1)).bind fun x => .ok (x, q.2)
  | .sl a lo hi, env => (evalE a env).bind fun r => (evalO lo r.2).bind fun p => (evalO hi p.2).bind fun q => (ofO (slice r.1 p.1 q.1)).bind fun x => .ok (x, q.2)
  | .rev a, env => (evalE a env).bind fun r => match r.1 with
    | .lst l => .ok (.lst l.reverse, r.2)
    | .tup l => .ok (.tup l.reverse, r.2)
    | _ => .fail
  | .comp own tg it c e, env => (evalI it env).bind fun r =>
      (compGo (fun x en => ((ofO (assign tg x en)).bind fun en1 => (evalC c en1).bind fun t => if t.1 = true then (evalE e t.2).bind fun q => .ok (some q.1, wipe own q.2) else .ok (none, wipe own t.2)).nr)
        r.1 (wipe own r.2)).bind fun q => if q.1.length ≤ sizeLine then .ok (.lst q.1, restore own r.2 q.2) else .fail
def evalC : OE → Env → Res (Bool × Env)
  | .no, env => .ok (true, env)
  | .so c, env => (evalE c env).bind fun p => (ofO (truth p.1)).bind fun t => .ok (t, p.2)
def evalEs : Es → Env → Res (List PV × Env)
  | .nil, env => .ok ([], env)
  | .cons e es, env => (evalE e env).bind fun r => (evalEs es r.2).bind fun q => .ok (r.1 :: q.1, q.2)
def evalO : OE → Env → Res (Option Int × Env)
  | .no, env => .ok (none, env)
  | .so e, env => (evalE e env).bind fun r => match r.1 with
    | .int i => .ok (some i, r.2)
    | _ => .fail
def evalI : It → Env → Res (List PV × Env)
  | .e a, env => (evalE a env).bind fun r => (ofO (seqOf r.1)).bind fun l => .ok (l, r.2)
  | .m a, env => (evalE a env).bind fun r => (ofO (seqOf r.1)).bind fun l => if PV.lfs l = true then .ok (l, r.2) else .fail
  | .rng es, env => (evalEs es env).bind fun r => (ofO (ranges r.1)).bind fun l => .ok (l, r.2)
  | .enum a, env => (evalE a env).bind fun r => (ofO (enumOf r.1)).bind fun l => .ok (l, r.2)
  | .zip es, env => (evalEs es env).bind fun r => match r.1 with
    | [x, y] => (ofO (zip2 x y)).bind fun l => .ok (l, r.2)
    | _ => .fail
end

/-! ### statements -/
def forGo (f : PV → Env → Out) : List PV → Env → Out
  | [], env => .nx env
  | x :: xs, env => match f x env with
    | .nx e => forGo f xs e
    | .ct e => forGo f xs e
    | .bk e => .nx e
    | o => o
/-- over the list in slot i, as it stands at each turn -/
def formGo (f : PV → Env → Out) (i : Nat) : Nat → Nat → Env → Out
  | 0, _, _ => .fail
  | n + 1, k, env => match env.getD i .undef with
    | .lst l => match l[k]? with
      | none => .nx env
      | some x => if x.lf = true then match f x env with
        | .nx e => formGo f i n (k + 1) e
        | .ct e => formGo f i n (k + 1) e
        | .bk e => .nx e
        | o => o else .fail
    | _ => .fail
def whileGo (c : Env → Res (PV × Env)) (f : Env → Out) : Nat → Env → Out
  | 0, _ => .fail
  | n + 1, env => (c env).out fun r => (ofO (truth r.1)).out fun t => if t = true then match f r.2 with
    | .nx e => whileGo c f n e
    | .ct e => whileGo c f n e
    | .bk e => .nx e
    | o => o else .nx r.2
def pushP (y : PV) (l : List PV) : Option PV := if l.length < sizeLine then some (.lst (l ++ [y])) else none
def setP (y : PV) (i : PV) (l : List PV) : Option PV := match i with
  | .int i => (ixN l.length i).map fun j => .lst (l.set j y)
  | _ => none
variable (W : Nat)
mutual
def evalS : S → Env → Out
  | .asg t e, env => (evalE C e env).out fun r => (ofO (assign t r.1 r.2)).out fun en => .nx en
  | .masg i e, env => (evalE C e env).out fun r => .nx (r.2.set i r.1)
  | .aug i op e, env => (get env i).out fun x => (evalE C e env).out fun r => (ofO (augop op x.1 r.1)).out fun z => .nx (r.2.set i z)
  | .app i e, env => (getL env i).out fun _ => (evalE C e env).out fun r => (getL r.2 i).out fun l => (ofO (pushP r.1 l.1)).out fun z => .nx (r.2.set i z)
  | .set i p e, env => (evalE C e env).out fun r => (getL r.2 i).out fun _ => (evalE C p r.2).out fun q => (getL q.2 i).out fun l => (ofO (setP r.1 q.1 l.1)).out fun z => .nx (q.2.set i z)
  | .augs i p op e, env => (getL env i).out fun _ => (evalE C p env).out fun q => (getL q.2 i).out fun l => (ofO (index (.lst l.1) q.1)).out fun x => (evalE C e q.2).out fun r => (ofO (augop op x r.1)).out fun y =>
      (getL r.2 i).out fun l => (ofO (setP y q.1 l.1)).out fun z => .nx (r.2.set i z)
  | .ex e, env => (evalE C e env).out fun r => .nx r.2
  | .ret e, env => (evalE C e env).out fun r => .rt r.1 r.2
  | .retn, env => .rt .non env
  | .ite c a b, env => (evalE C c env).out fun r => (ofO (truth r.1)).out fun t => if t = true then evalSs a r.2 else evalSs b r.2
  | .for t it b, env => (evalI C it env).out fun r => forGo (fun x en => (ofO (assign t x en)).out fun en1 => evalSs b en1) r.1 r.2
  | .form t i b, env => formGo (fun x en => (ofO (assign t x en)).out fun en1 => evalSs b en1) i W 0 env
  | .whl c b, env => whileGo (fun en => evalE C c en) (fun en => evalSs b en) W env
  | .raise c e, env => (evalE C e env).out fun r => .raise c r.1 r.2
  | .try b c i h, env => match evalSs b env with
    | .raise d a en => if c = 0 ∨ c = d then (evalSs h (en.set i (.exc d a))).seq fun e => .nx (e.set i .undef) else .raise d a en
    | o => o
  | .brk, env => .bk env
  | .cont, env => .ct env
  | .pass, env => .nx env
  | .bad, _ => .fail
def evalSs : Ss → Env → Out
  | .nil, env => .nx env
  | .cons s ss, env => (evalS s env).seq fun e => evalSs ss e
end
end

/-! ### defs -/
structure Def where
  /-- parameters, slots; does the first parameter come by reference; is the result a new one -/
  np : Nat
  n : Nat
  br : Bool
  fresh : Bool
  ms : List Nat
  body : Ss
def start (d : Def) (args : List PV) : Env := args ++ List.replicate (d.n - d.np) .undef
def finish (d : Def) : Out → CR
  | .rt v env => if d.br = true then match env.getD 0 .undef with
    | .undef => .fail
    | b => .ok v b else .ok v .undef
  | .nx env => if d.br = true then match env.getD 0 .undef with
    | .undef => .fail
    | b => .ok .non b else .ok .non .undef
  | .raise c a env => if d.br = true then match env.getD 0 .undef with
    | .undef => .fail
    | b => .raise c a b else .raise c a .undef
  | _ => .fail
def callN (W : Nat) (P : List Def) : Nat → Calls
  | 0 => fun _ _ => .fail
  | n + 1 => fun k args => match P[k]? with
    | none => .fail
    | some d => if args.length = d.np then finish d (evalSs (callN W P n) W d.body (start d args)) else .fail
end Ev

/-! EvRep: what it means that a value of the layer is a PV. -/
namespace Ev
open PySem PySem.Spec PyProof.Rows L2

abbrev St := L2.St
/-- what is known beside the heap: the written part, the defs' addresses, the handled exception (object, class, its own dict) -/
structure Gl0 where
  K : PySem.W.Frag
  fa : Nat → Addr
  ex : Option (Addr × Nat × Addr)
  fld : Nat → Str
variable (G : Gl0)
/-- a list of the written part -/
def KLst (K : PySem.W.Frag) (a : Addr) (xs : List V) : Prop := ∃ (o : Obj) (its : Array Value) (n : Nat), K.lookup a = some o ∧ o.cls = .type "list" ∧ o.dict = none ∧ o.data = .seq its n ∧ its.size ≤ sizeLine ∧ Vals xs its.toList
mutual
/-- v is the datum; fp: the lists that it reaches -/
def RepF (H : Hp) : PV → V → List Addr → Prop
  | .undef, _, _ => False
  | .non, v, fp => v = .non ∧ fp = []
  | .bl b, v, fp => v = .bl b ∧ fp = []
  | .int i, v, fp => v = .int i ∧ fp = []
  | .str s, v, fp => v = .str s ∧ fp = []
  | .tup l, v, fp => ∃ a vs, v = .ref a ∧ SqT G.K H a vs ∧ RepL H l vs fp
  | .lst l, v, fp => ∃ a vs f, v = .ref a ∧ H a = some (.lst vs) ∧ RepL H l vs f ∧ fp = a :: f
  | .scr l, v, fp => ∃ a vs, v = .ref a ∧ ((∃ o, H a = some (.frz o (.lst vs))) ∨ KLst G.K a vs) ∧ RepL H l vs fp ∧ fp = []
  | .fn k, v, fp => v = .ref (G.fa k) ∧ fp = []
  | .exc c x, v, fp => ∃ a d y, v = .ref a ∧ G.ex = some (a, c, d) ∧ H d = some (.xd [(G.fld c, y)]) ∧ RepF H x y fp
def RepL (H : Hp) : List PV → List V → List Addr → Prop
  | [], vs, fp => vs = [] ∧ fp = []
  | p :: l, vs, fp => ∃ v vs' f f', vs = v :: vs' ∧ fp = f ++ f' ∧ RepF H p v f ∧ RepL H l vs' f'
end
/-- lists and tuples are not too long -/
def LenOk (K : PySem.W.Frag) (H : Hp) : Prop := (∀ a xs, SqL K H a xs → xs.length ≤ sizeLine) ∧ ∀ a xs, SqT K H a xs → xs.length ≤ sizeLine

/-- what stands outside O stays -/
def Stay (O : Addr → Prop) (H H' : Hp) : Prop := ∀ a o, H a = some o → ¬ O a → H' a = some o
/-- O holds lists alone -/
def Lsts (O : Addr → Prop) (H : Hp) : Prop := ∀ a, O a → ∃ vs, H a = some (.lst vs)

variable {G}
variable {H H' : Hp} {O : Addr → Prop}
theorem Stay.sqT (st : Stay O H H') (ls : Lsts O H) {a : Addr} {vs : List V} (h : SqT G.K H a vs) : SqT G.K H' a vs := by
  rcases h with (h | ⟨o, h⟩) | h
  · refine .inl (.inl (st a _ h fun z => ?_))
    obtain ⟨vs', e⟩ := ls a z
    rw [h] at e; cases e
  · refine .inl (.inr ⟨o, st a _ h fun z => ?_⟩)
    obtain ⟨vs', e⟩ := ls a z
    rw [h] at e; cases e
  · exact .inr h
theorem Stay.sqL (st : Stay O H H') {a : Addr} {vs : List V} (n : ¬ O a) (h : SqL G.K H a vs) : SqL G.K H' a vs := by
  rcases h with (h | ⟨o, h⟩) | h
  · exact .inl (.inl (st a _ h n))
  · exact .inl (.inr ⟨o, st a _ h n⟩)
  · exact .inr h
theorem Stay.xd (st : Stay O H H') (ls : Lsts O H) {a : Addr} {fs : List (Str × V)} (h : H a = some (.xd fs)) : H' a = some (.xd fs) := st a _ h fun z => by
  obtain ⟨vs', e⟩ := ls a z
  rw [h] at e; cases e
mutual
theorem RepF.stay (st : Stay O H H') (ls : Lsts O H) : ∀ (p : PV) (v : V) (fp : List Addr), RepF G H p v fp → (∀ a ∈ fp, ¬ O a) → RepF G H' p v fp
  | .undef, _, _, h, _ => h
  | .non, _, _, h, _ => h
  | .bl _, _, _, h, _ => h
  | .int _, _, _, h, _ => h
  | .str _, _, _, h, _ => h
  | .fn _, _, _, h, _ => h
  | .tup l, v, fp, h, n => by
    obtain ⟨a, vs, e, hs, hl⟩ := h
    exact ⟨a, vs, e, st.sqT ls hs, RepL.stay st ls l vs fp hl n⟩
  | .lst l, v, fp, h, n => by
    obtain ⟨a, vs, f, e, hs, hl, rfl⟩ := h
    exact ⟨a, vs, f, e, st a _ hs (n a (by simp)), RepL.stay st ls l vs f hl fun b hb => n b (by simp [hb]), rfl⟩
  | .scr l, v, fp, h, n => by
    obtain ⟨a, vs, e, hs, hl, rfl⟩ := h
    refine ⟨a, vs, e, ?_, RepL.stay st ls l vs _ hl n, rfl⟩
    rcases hs with ⟨o, h⟩ | h
    · refine .inl ⟨o, st a _ h fun z => ?_⟩
      obtain ⟨vs', e⟩ := ls a z
      rw [h] at e; cases e
    · exact .inr h
  | .exc c x, v, fp, h, n => by
    obtain ⟨a, d, y, e, hx, hd, hr⟩ := h
    exact ⟨a, d, y, e, hx, st.xd ls hd, RepF.stay st ls x y fp hr n⟩
theorem RepL.stay (st : Stay O H H') (ls : Lsts O H) : ∀ (p : List PV) (v : List V) (fp : List Addr), RepL G H p v fp → (∀ a ∈ fp, ¬ O a) → RepL G H' p v fp
  | [], _, _, h, _ => h
  | x :: l, v, fp, h, n => by
    obtain ⟨y, vs, f, f', e, rfl, h1, h2⟩ := h
    exact ⟨y, vs, f, f', e, rfl, RepF.stay st ls x y f h1 fun a ha => n a (by simp [ha]), RepL.stay st ls l vs f' h2 fun a ha => n a (by simp [ha])⟩
end
/-- everything stays -/
theorem RepF.same (st : ∀ a o, H a = some o → H' a = some o) {p : PV} {v : V} {fp : List Addr} (h : RepF G H p v fp) : RepF G H' p v fp :=
  RepF.stay (O := fun _ => False) (fun a o e _ => st a o e) (fun _ z => z.elim) p v fp h fun _ _ z => z
theorem RepL.same (st : ∀ a o, H a = some o → H' a = some o) {p : List PV} {v : List V} {fp : List Addr} (h : RepL G H p v fp) : RepL G H' p v fp :=
  RepL.stay (O := fun _ => False) (fun a o e _ => st a o e) (fun _ z => z.elim) p v fp h fun _ _ z => z
mutual
theorem RepF.lf : ∀ (p : PV) (v : V) (fp : List Addr), RepF G H p v fp → p.lf = true → fp = []
  | .undef, _, _, h, _ => h.elim
  | .non, _, _, h, _ => h.2
  | .bl _, _, _, h, _ => h.2
  | .int _, _, _, h, _ => h.2
  | .str _, _, _, h, _ => h.2
  | .fn _, _, _, h, _ => h.2
  | .tup l, v, fp, h, n => by
    obtain ⟨a, vs, e, hs, hl⟩ := h
    exact RepL.lf l vs fp hl (by simpa [PV.lf] using n)
  | .lst l, v, fp, h, n => by simp [PV.lf] at n
  | .scr l, v, fp, h, n => by
    obtain ⟨a, vs, e, hs, hl, rfl⟩ := h
    rfl
  | .exc c x, v, fp, h, n => by simp [PV.lf] at n
theorem RepL.lf : ∀ (p : List PV) (v : List V) (fp : List Addr), RepL G H p v fp → PV.lfs p = true → fp = []
  | [], _, _, h, _ => h.2
  | x :: l, v, fp, h, n => by
    obtain ⟨y, vs, f, f', e, rfl, h1, h2⟩ := h
    have n' : x.lf = true ∧ PV.lfs l = true := by simpa [PV.lfs] using n
    rw [RepF.lf x y f h1 n'.1, RepL.lf l vs f' h2 n'.2]
    rfl
end
theorem RepL.length : ∀ {p : List PV} {v : List V} {fp : List Addr}, RepL G H p v fp → v.length = p.length
  | [], _, _, h => by rw [h.1]; rfl
  | x :: l, v, fp, h => by
    obtain ⟨y, vs, f, f', rfl, rfl, h1, h2⟩ := h
    simp [RepL.length h2]
theorem RepL.get : ∀ {p : List PV} {v : List V} {fp : List Addr} {i : Nat} {x : PV}, RepL G H p v fp → p[i]? = some x → ∃ y f, v[i]? = some y ∧ RepF G H x y f ∧ ∀ a ∈ f, a ∈ fp
  | [], _, _, _, _, _, e => by simp at e
  | x :: l, v, fp, 0, z, h, e => by
    obtain ⟨y, vs, f, f', rfl, rfl, h1, h2⟩ := h
    simp at e; subst e
    exact ⟨y, f, rfl, h1, fun a ha => by simp [ha]⟩
  | x :: l, v, fp, i + 1, z, h, e => by
    obtain ⟨y, vs, f, f', rfl, rfl, h1, h2⟩ := h
    obtain ⟨y', f'', e', h', k⟩ := RepL.get (i := i) h2 (by simpa using e)
    exact ⟨y', f'', by simpa using e', h', fun a ha => by simp [k a ha]⟩
theorem RepL.append : ∀ {p q : List PV} {v u : List V} {f g : List Addr}, RepL G H p v f → RepL G H q u g → RepL G H (p ++ q) (v ++ u) (f ++ g)
  | [], q, v, u, f, g, h, k => by
    obtain ⟨rfl, rfl⟩ := h
    exact k
  | x :: l, q, v, u, f, g, h, k => by
    obtain ⟨y, vs, f1, f2, rfl, rfl, h1, h2⟩ := h
    exact ⟨y, vs ++ u, f1, f2 ++ g, rfl, by rw [List.append_assoc], h1, RepL.append h2 k⟩
theorem RepL.nil : RepL G H [] [] [] := ⟨rfl, rfl⟩
theorem RepL.cons {x : PV} {l : List PV} {y : V} {vs : List V} {f g : List Addr} (h : RepF G H x y f) (k : RepL G H l vs g) : RepL G H (x :: l) (y :: vs) (f ++ g) := ⟨y, vs, f, g, rfl, rfl, h, k⟩
theorem RepL.one {x : PV} {y : V} {f : List Addr} (h : RepF G H x y f) : RepL G H [x] [y] f := by
  have := RepL.cons h (RepL.nil (G := G) (H := H))
  simpa using this
/-- a part of the row -/
theorem RepL.take : ∀ {p : List PV} {v : List V} {fp : List Addr} (n : Nat), RepL G H p v fp → ∃ f, RepL G H (p.take n) (v.take n) f ∧ ∀ a ∈ f, a ∈ fp
  | _, _, fp, 0, _ => ⟨[], ⟨by simp, rfl⟩, fun _ z => by simp at z⟩
  | [], v, fp, n + 1, h => ⟨[], ⟨by simp [h.1], rfl⟩, fun _ z => by simp at z⟩
  | x :: l, v, fp, n + 1, h => by
    obtain ⟨y, vs, f1, f2, rfl, rfl, h1, h2⟩ := h
    obtain ⟨f, hf, k⟩ := RepL.take n h2
    refine ⟨f1 ++ f, RepL.cons h1 hf, fun a ha => ?_⟩
    rcases List.mem_append.mp ha with z | z
    · simp [z]
    · simp [k a z]
theorem RepL.drop : ∀ {p : List PV} {v : List V} {fp : List Addr} (n : Nat), RepL G H p v fp → ∃ f, RepL G H (p.drop n) (v.drop n) f ∧ ∀ a ∈ f, a ∈ fp
  | _, _, fp, 0, h => ⟨fp, h, fun _ z => z⟩
  | [], v, fp, n + 1, h => ⟨[], ⟨by simp [h.1], rfl⟩, fun _ z => by simp at z⟩
  | x :: l, v, fp, n + 1, h => by
    obtain ⟨y, vs, f1, f2, rfl, rfl, h1, h2⟩ := h
    obtain ⟨f, hf, k⟩ := RepL.drop n h2
    exact ⟨f, hf, fun a ha => by simp [k a ha]⟩
theorem RepL.split : ∀ {p q : List PV} {v : List V} {fp : List Addr}, RepL G H (p ++ q) v fp → ∃ v1 v2 f1 f2, v = v1 ++ v2 ∧ fp = f1 ++ f2 ∧ RepL G H p v1 f1 ∧ RepL G H q v2 f2
  | [], q, v, fp, h => ⟨[], v, [], fp, rfl, rfl, RepL.nil, h⟩
  | x :: l, q, v, fp, h => by
    obtain ⟨y, vs, f1, f2, rfl, rfl, h1, h2⟩ := h
    obtain ⟨v1, v2, g1, g2, rfl, rfl, a, b⟩ := RepL.split h2
    exact ⟨y :: v1, v2, f1 ++ g1, g2, rfl, by rw [List.append_assoc], RepL.cons h1 a, b⟩

theorem RepF.new {l : List PV} {a : Addr} {vs : List V} {f : List Addr} (h : H a = some (.lst vs)) (r : RepL G H l vs f) : RepF G H (.lst l) (.ref a) (a :: f) := ⟨a, vs, f, rfl, h, r, rfl⟩
/-! ### kinds -/
theorem RepF.shape_int {i : Int} {v : V} {fp : List Addr} (h : RepF G H (.int i) v fp) : v = .int i := h.1

/-! ### as PyData -/
mutual
theorem RepF.dp : ∀ (p : PV) (v : V) (fp : List Addr), RepF G H p v fp → p.data = true → Dp G.K H v p.pd
  | .undef, _, _, h, _ => h.elim
  | .non, _, _, h, _ => by rw [h.1]; exact .non
  | .bl _, _, _, h, _ => by rw [h.1]; exact .bl _
  | .int _, _, _, h, _ => by rw [h.1]; exact .int _
  | .str _, _, _, h, _ => by rw [h.1]; exact .str _
  | .fn _, _, _, h, n => by simp [PV.data] at n
  | .exc _ _, _, _, h, n => by simp [PV.data] at n
  | .tup l, v, fp, h, n => by
    obtain ⟨a, vs, rfl, hs, hl⟩ := h
    have n' : PV.datas l = true := by simpa [PV.data] using n
    show Dp G.K H (.ref a) (.tuple (PV.pds l))
    exact .tup hs (RepL.dp l vs fp hl n')
  | .lst l, v, fp, h, n => by
    obtain ⟨a, vs, f, rfl, hs, hl, rfl⟩ := h
    have n' : PV.datas l = true := by simpa [PV.data] using n
    show Dp G.K H (.ref a) (.list (PV.pds l))
    exact .lst (.of hs) (RepL.dp l vs f hl n')
  | .scr _, _, _, h, n => by simp [PV.data] at n
theorem RepL.dp : ∀ (p : List PV) (v : List V) (fp : List Addr), RepL G H p v fp → PV.datas p = true → DpAll G.K H v (PV.pds p)
  | [], _, _, h, _ => by rw [h.1]; exact .nil
  | x :: l, v, fp, h, n => by
    obtain ⟨y, vs, f, f', rfl, rfl, h1, h2⟩ := h
    have n' : x.data = true ∧ PV.datas l = true := by simpa [PV.datas] using n
    exact .cons (RepF.dp x y f h1 n'.1) (RepL.dp l vs f' h2 n'.2)
end
end Ev

/-! EvEnv: the frame's values, who owns which list, what a step may change; the readings. -/
namespace Ev
open PySem PySem.Spec PyProof.Rows L2

/-- a frame: the owning slots, the heap at the entry, the lists that came by reference, those that came at all, the wish of exceptions -/
structure Fr0 where
  G : Gl0
  ms : List Nat
  br : Bool
  H0 : Hp
  B : Addr → Prop
  A : Addr → Prop
  cls : Nat → Addr
  /-- slots that stand: their lists' addresses -/
  pin : Nat → Option V
/-- owned by some slot -/
def OW (ms : List Nat) (F : Nat → List Addr) (a : Addr) : Prop := ∃ i ∈ ms, a ∈ F i
structure EnvOk (R : Fr0) (σ : St) (H : Hp) (F : Nat → List Addr) (env : Env) : Prop where
  len : env.length = σ.length
  slot : ∀ i p, env[i]? = some p → p ≠ .undef → ∃ v, σ[i]? = some (some v) ∧ RepF R.G H p v (F i)
  non : ∀ i, env.getD i .undef = .undef → F i = []
  nd : ∀ i ∈ R.ms, (F i).Nodup
  mu : ∀ i ∈ R.ms, ∀ a ∈ F i, ∃ vs, H a = some (.lst vs)
  ow : ∀ i ∈ R.ms, ∀ a ∈ F i, R.H0 a = none ∨ (i = 0 ∧ R.br = true ∧ R.B a)
  dj : ∀ i ∈ R.ms, ∀ j, j ≠ i → ∀ a ∈ F i, a ∉ F j
  old : ∀ i, ∀ a ∈ F i, R.A a
  keep : ∀ a o, R.H0 a = some o → ¬ R.B a → H a = some o
  dom : ∀ a, H a = none → R.H0 a = none ∧ R.A a
  lok : LenOk R.G.K H
  rf : ∀ i v, R.pin i = some v → i ∈ R.ms ∧ σ[i]? = some (some v)
/-- what a part of a frame's run may change -/
structure Step (ms : List Nat) (H : Hp) (F : Nat → List Addr) (H' : Hp) (F' : Nat → List Addr) : Prop where
  st : Stay (OW ms F) H H'
  sub : ∀ j, ∀ a ∈ F' j, a ∈ F j ∨ OW ms F a ∨ H a = none
  ow : ∀ a, OW ms F' a → OW ms F a ∨ H a = none
  dom : ∀ a, H' a = none → H a = none

variable {R : Fr0} {σ : St} {H H1 H' : Hp} {F F1 F' : Nat → List Addr} {env env' : Env}
theorem EnvOk.lsts (h : EnvOk R σ H F env) : Lsts (OW R.ms F) H := fun a ⟨i, hi, ha⟩ => h.mu i hi a ha
theorem none_of_same (st : ∀ a o, H a = some o → H' a = some o) : ∀ a, H' a = none → H a = none := fun a e => by
  cases e' : H a with
  | none => rfl
  | some o => rw [st a o e'] at e; cases e
theorem Step.refl : Step R.ms H F H F := ⟨fun a o e _ => e, fun j a h => .inl h, fun a h => .inl h, fun _ e => e⟩
theorem Step.same (st : ∀ a o, H a = some o → H' a = some o) : Step R.ms H F H' F := ⟨fun a o e _ => st a o e, fun j a h => .inl h, fun a h => .inl h, none_of_same st⟩
theorem Step.dead (ls : Lsts (OW R.ms F) H) (s1 : Step R.ms H F H1 F1) {a : Addr} {o : HO} (e : H a = some o) (n : ¬ OW R.ms F a) : ¬ OW R.ms F1 a := fun z => by
  rcases s1.ow a z with h | h
  · exact n h
  · rw [e] at h; cases h
theorem Step.trans (s1 : Step R.ms H F H1 F1) (s2 : Step R.ms H1 F1 H' F') : Step R.ms H F H' F' where
  st := fun a o e n => s2.st a o (s1.st a o e n) fun z => by
    rcases s1.ow a z with h | h
    · exact n h
    · rw [e] at h; cases h
  sub := fun j a h => by
    rcases s2.sub j a h with h | h | h
    · exact s1.sub j a h
    · exact .inr (s1.ow a h)
    · exact .inr (.inr (s1.dom a h))
  ow := fun a h => by
    rcases s2.ow a h with h | h
    · exact s1.ow a h
    · exact .inr (s1.dom a h)
  dom := fun a e => s1.dom a (s2.dom a e)
theorem Step.rep (s1 : Step R.ms H F H1 F1) (k : EnvOk R σ H F env) {p : PV} {v : V} {fp : List Addr} (h : RepF R.G H p v fp) (n : ∀ a ∈ fp, ¬ OW R.ms F a) : RepF R.G H1 p v fp := RepF.stay s1.st k.lsts p v fp h n
theorem Step.repL (s1 : Step R.ms H F H1 F1) (k : EnvOk R σ H F env) {p : List PV} {v : List V} {fp : List Addr} (h : RepL R.G H p v fp) (n : ∀ a ∈ fp, ¬ OW R.ms F a) : RepL R.G H1 p v fp := RepL.stay s1.st k.lsts p v fp h n
mutual
theorem RepF.there {G : Gl0} : ∀ (p : PV) (v : V) (fp : List Addr), RepF G H p v fp → ∀ a ∈ fp, H a ≠ none
  | .undef, _, _, h, _ => h.elim
  | .non, _, _, h, a => fun z => by rw [h.2] at z; simp at z
  | .bl _, _, _, h, a => fun z => by rw [h.2] at z; simp at z
  | .int _, _, _, h, a => fun z => by rw [h.2] at z; simp at z
  | .str _, _, _, h, a => fun z => by rw [h.2] at z; simp at z
  | .fn _, _, _, h, a => fun z => by rw [h.2] at z; simp at z
  | .tup l, v, fp, h, a => by
    obtain ⟨b, vs, rfl, hs, hl⟩ := h
    exact RepL.there l vs fp hl a
  | .lst l, v, fp, h, a => fun z => by
    obtain ⟨b, vs, f, rfl, hs, hl, rfl⟩ := h
    rcases List.mem_cons.mp z with rfl | z
    · rw [hs]; exact nofun
    · exact RepL.there l vs f hl a z
  | .scr l, v, fp, h, a => fun z => by
    obtain ⟨b, vs, rfl, hs, hl, rfl⟩ := h
    simp at z
  | .exc c x, v, fp, h, a => by
    obtain ⟨b, d, y, e, hx, hd, hr⟩ := h
    exact RepF.there x y fp hr a
theorem RepL.there {G : Gl0} : ∀ (p : List PV) (v : List V) (fp : List Addr), RepL G H p v fp → ∀ a ∈ fp, H a ≠ none
  | [], _, _, h, a => fun z => by rw [h.2] at z; simp at z
  | x :: l, v, fp, h, a => fun z => by
    obtain ⟨y, vs, f, f', rfl, rfl, h1, h2⟩ := h
    rcases List.mem_append.mp z with z | z
    · exact RepF.there x y f h1 a z
    · exact RepL.there l vs f' h2 a z
end
/-- the environment behind a step that leaves F and the slots -/
theorem EnvOk.same (k : EnvOk R σ H F env) (st : ∀ a o, H a = some o → H' a = some o) (lok : LenOk R.G.K H') : EnvOk R σ H' F env :=
  ⟨k.len, fun i p e n => let ⟨v, h1, h2⟩ := k.slot i p e n; ⟨v, h1, h2.same st⟩, k.non, k.nd, fun i hi a ha => let ⟨vs, e⟩ := k.mu i hi a ha; ⟨vs, st _ _ e⟩, k.ow, k.dj, k.old, fun a o e n => st a o (k.keep a o e n), fun a e => k.dom a (none_of_same st a e), lok, k.rf⟩

/-! ### the readings -/
/-- what is known of an expression's value ahead of its run: its lists are its own; none of them is a slot's; it is a new list; no call by reference -/
structure Kd where
  own : Bool
  stb : Bool
  top : Bool
  nor : Bool
/-- what is wanted of a value: where it stands -/
structure ValOk (R : Fr0) (kd : Kd) (H : Hp) (F : Nat → List Addr) (H' : Hp) (F' : Nat → List Addr) (p : PV) (v : V) (fp : List Addr) : Prop where
  rep : RepF R.G H' p v fp
  old : ∀ a ∈ fp, R.A a
  st : kd.stb = true → ∀ a ∈ fp, ¬ OW R.ms F' a
  nd : kd.own = true → fp.Nodup
  mu : kd.own = true → ∀ a ∈ fp, ∃ vs, H' a = some (.lst vs)
  fr : kd.own = true → ∀ a ∈ fp, ∀ j, a ∉ F' j
  nw : kd.own = true → ∀ a ∈ fp, OW R.ms F a ∨ H a = none
  h0 : kd.own = true → ∀ a ∈ fp, R.H0 a = none
  tp : kd.top = true → ∀ l, p = .lst l → ∃ a vs f, v = .ref a ∧ H' a = some (.lst vs) ∧ RepL R.G H' l vs f ∧ H a = none ∧ (∀ j, a ∉ F' j) ∧ R.H0 a = none
abbrev WXX := Value → Option Addr → St → Hp → Prop
/-- the exception's dict holds its word -/
def ExcAt (R : Fr0) (H : Hp) (c : Nat) (x : PV) (d : Addr) : Prop := ∃ y fp, H d = some (.xd [(R.G.fld c, y)]) ∧ RepF R.G H x y fp ∧ (∀ a ∈ fp, R.A a) ∧ fp = []
/-- what is wanted of an evaluator's result, from where its run began -/
def okR (R : Fr0) (W : WXX) (kd : Kd) (σ : St) (H : Hp) (F : Nat → List Addr) (env : Env) (Q : VK) : Res (PV × Env) → Prop
  | .ok r => ∀ v H' F' fp, EnvOk R σ H' F' r.2 → Step R.ms H F H' F' → ValOk R kd H F H' F' r.1 v fp → (kd.nor = true → F' = F ∧ r.2 = env ∧ ∀ a o, H a = some o → H' a = some o) → Q v H'
  | .raise c x env' => ∀ d H' F', EnvOk R σ H' F' env' → Step R.ms H F H' F' → ExcAt R H' c x d → W (.ref (R.cls c)) (some d) σ H'
  | .fail => False
def okT (R : Fr0) (W : WXX) (nor : Bool) (σ : St) (H : Hp) (F : Nat → List Addr) (env : Env) (Q : Bool → Hp → Prop) : Res (PV × Env) → Prop
  | .ok r => ∃ b, truth r.1 = some b ∧ ∀ H' F', EnvOk R σ H' F' r.2 → Step R.ms H F H' F' → (nor = true → F' = F ∧ r.2 = env ∧ ∀ a o, H a = some o → H' a = some o) → Q b H'
  | .raise c x env' => ∀ d H' F', EnvOk R σ H' F' env' → Step R.ms H F H' F' → ExcAt R H' c x d → W (.ref (R.cls c)) (some d) σ H'
  | .fail => False
structure RowOk (R : Fr0) (own stb : Bool) (H : Hp) (F : Nat → List Addr) (H' : Hp) (F' : Nat → List Addr) (p : List PV) (v : List V) (fp : List Addr) : Prop where
  rep : RepL R.G H' p v fp
  old : ∀ a ∈ fp, R.A a
  st : stb = true → ∀ a ∈ fp, ¬ OW R.ms F' a
  nd : own = true → fp.Nodup
  mu : own = true → ∀ a ∈ fp, ∃ vs, H' a = some (.lst vs)
  fr : own = true → ∀ a ∈ fp, ∀ j, a ∉ F' j
  nw : own = true → ∀ a ∈ fp, OW R.ms F a ∨ H a = none
  h0 : own = true → ∀ a ∈ fp, R.H0 a = none
def okA (R : Fr0) (W : WXX) (own stb nor : Bool) (σ : St) (H : Hp) (F : Nat → List Addr) (env : Env) (Q : List V → Hp → Prop) : Res (List PV × Env) → Prop
  | .ok r => ∀ vs H' F' fp, EnvOk R σ H' F' r.2 → Step R.ms H F H' F' → RowOk R own stb H F H' F' r.1 vs fp → (nor = true → F' = F ∧ r.2 = env ∧ ∀ a o, H a = some o → H' a = some o) → Q vs H'
  | .raise c x env' => ∀ d H' F', EnvOk R σ H' F' env' → Step R.ms H F H' F' → ExcAt R H' c x d → W (.ref (R.cls c)) (some d) σ H'
  | .fail => False
/-- the reading of an expression: run from values that env describes, it gives what the evaluator says -/
def rdE (R : Fr0) (W : WXX) (kd : Kd) (ev : Env → Res (PV × Env)) : TE := fun σ H Q => ∃ F env, EnvOk R σ H F env ∧ okR R W kd σ H F env Q (ev env)
/-- .. of a test -/
def rdT (R : Fr0) (W : WXX) (nor : Bool) (ev : Env → Res (PV × Env)) : TT := fun σ H Q => ∃ F env, EnvOk R σ H F env ∧ okT R W nor σ H F env Q (ev env)
/-- .. of a row of arguments -/
def rdA (R : Fr0) (W : WXX) (own stb nor : Bool) (ev : Env → Res (List PV × Env)) : TA := fun σ H Q => ∃ F env, EnvOk R σ H F env ∧ okA R W own stb nor σ H F env Q (ev env)

variable {W : WXX} {own stb nor o1 s1 n1 o2 s2 n2 : Bool} {kd kd1 kd2 : Kd} {Q Q1 : VK}
abbrev Nor (n : Bool) (H : Hp) (F : Nat → List Addr) (env : Env) (H' : Hp) (F' : Nat → List Addr) (env' : Env) : Prop := n = true → F' = F ∧ env' = env ∧ ∀ a o, H a = some o → H' a = some o
theorem Nor.refl : Nor n1 H F env H F env := fun _ => ⟨rfl, rfl, fun _ _ e => e⟩
theorem Nor.trans {env1 : Env} (a : Nor n1 H F env H1 F1 env1) (b : Nor n2 H1 F1 env1 H' F' env') : Nor (n1 && n2) H F env H' F' env' := fun z => by
  obtain ⟨z1, z2⟩ := Bool.and_eq_true_iff.mp z
  obtain ⟨e1, e2, k⟩ := a z1
  obtain ⟨e3, e4, k'⟩ := b z2
  exact ⟨e3.trans e1, e4.trans e2, fun a o e => k' a o (k a o e)⟩
theorem Nor.mono {n m : Bool} (a : Nor n1 H F env H1 F1 env') (h : m = true → n1 = true) : Nor m H F env H1 F1 env' := fun z => a (h z)
/-- a sub-run, then the rest -/
theorem okR.bind {env1 : Env} {r : Res (PV × Env)} {k : PV × Env → Res (PV × Env)} (s0 : Step R.ms H F H1 F1) (h : okR R W kd σ H F env Q (r.bind k))
    (step : ∀ q v H2 F2 fp, r = .ok q → EnvOk R σ H2 F2 q.2 → Step R.ms H1 F1 H2 F2 → ValOk R kd1 H1 F1 H2 F2 q.1 v fp → Nor kd1.nor H1 F1 env1 H2 F2 q.2 → okR R W kd σ H F env Q (k q) → Q1 v H2) :
    okR R W kd1 σ H1 F1 env1 Q1 r := by
  cases r with
  | ok q => exact fun v H2 F2 fp k1 k2 k3 k4 => step q v H2 F2 fp rfl k1 k2 k3 k4 h
  | raise c x e => exact fun d H2 F2 k1 k2 k3 => h d H2 F2 k1 (s0.trans k2) k3
  | fail => exact h
theorem okR.bindA {env1 : Env} {QA : List V → Hp → Prop} {r : Res (List PV × Env)} {k : List PV × Env → Res (PV × Env)} (s0 : Step R.ms H F H1 F1) (h : okR R W kd σ H F env Q (r.bind k))
    (step : ∀ q vs H2 F2 fp, r = .ok q → EnvOk R σ H2 F2 q.2 → Step R.ms H1 F1 H2 F2 → RowOk R o1 s1 H1 F1 H2 F2 q.1 vs fp → Nor n1 H1 F1 env1 H2 F2 q.2 → okR R W kd σ H F env Q (k q) → QA vs H2) :
    okA R W o1 s1 n1 σ H1 F1 env1 QA r := by
  cases r with
  | ok q => exact fun v H2 F2 fp k1 k2 k3 k4 => step q v H2 F2 fp rfl k1 k2 k3 k4 h
  | raise c x e => exact fun d H2 F2 k1 k2 k3 => h d H2 F2 k1 (s0.trans k2) k3
  | fail => exact h
theorem okR.bindT {env1 : Env} {QT : Bool → Hp → Prop} {r : Res (PV × Env)} {k : Bool → PV × Env → Res (PV × Env)} (s0 : Step R.ms H F H1 F1) (h : okR R W kd σ H F env Q (r.bind fun q => (ofO (truth q.1)).bind fun b => k b q))
    (step : ∀ b q H2 F2, r = .ok q → EnvOk R σ H2 F2 q.2 → Step R.ms H1 F1 H2 F2 → Nor n1 H1 F1 env1 H2 F2 q.2 → okR R W kd σ H F env Q (k b q) → QT b H2) :
    okT R W n1 σ H1 F1 env1 QT r := by
  cases r with
  | ok q =>
    cases e : truth q.1 with
    | none =>
      have h' : okR R W kd σ H F env Q ((ofO (truth q.1)).bind fun b => k b q) := h
      rw [e] at h'
      exact h'.elim
    | some b =>
      have h' : okR R W kd σ H F env Q ((ofO (truth q.1)).bind fun b => k b q) := h
      rw [e] at h'
      exact ⟨b, e, fun H2 F2 k1 k2 k3 => step b q H2 F2 rfl k1 k2 k3 h'⟩
  | raise c x e => exact fun d H2 F2 k1 k2 k3 => h d H2 F2 k1 (s0.trans k2) k3
  | fail => exact h
theorem okR.ofO {α : Type} {o : Option α} {k : α → Res (PV × Env)} (h : okR R W kd σ H F env Q ((Ev.ofO o).bind k)) : ∃ x, o = some x ∧ okR R W kd σ H F env Q (k x) := by
  cases o with
  | none => exact h.elim
  | some x => exact ⟨x, rfl, h⟩

/-! ### values that hold no list, new objects -/
theorem ValOk.flat {p : PV} {v : V} (h : RepF R.G H' p v []) : ValOk R kd H F H' F' p v [] :=
  ⟨h, fun _ z => by simp at z, fun _ _ z => by simp at z, fun _ => List.nodup_nil, fun _ _ z => by simp at z, fun _ _ z => by simp at z, fun _ _ z => by simp at z, fun _ _ z => by simp at z, fun _ l e => by
    subst e
    obtain ⟨a, vs, f, _, _, _, z⟩ := h
    cases z⟩
theorem LenOk.upd {K : PySem.W.Frag} {o : HO} {p : Addr} (h : LenOk K H) (h1 : ∀ xs, o = .lst xs → xs.length ≤ sizeLine) (h2 : ∀ xs, o = .tup xs → xs.length ≤ sizeLine) (h3 : ∀ ob u, o ≠ .frz ob u) : LenOk K (upd H p o) := by
  refine ⟨fun a xs s => ?_, fun a xs s => ?_⟩
  · by_cases e : a = p
    · subst e
      rcases s with (s | ⟨ob, s⟩) | s
      · rw [upd_same] at s; exact h1 xs (Option.some.inj s)
      · rw [upd_same] at s; exact absurd (Option.some.inj s) (h3 _ _)
      · exact h.1 a xs (.inr s)
    · rcases s with (s | ⟨ob, s⟩) | s
      · rw [upd_ne e] at s; exact h.1 a xs (.inl (.inl s))
      · rw [upd_ne e] at s; exact h.1 a xs (.inl (.inr ⟨ob, s⟩))
      · exact h.1 a xs (.inr s)
  · by_cases e : a = p
    · subst e
      rcases s with (s | ⟨ob, s⟩) | s
      · rw [upd_same] at s; exact h2 xs (Option.some.inj s)
      · rw [upd_same] at s; exact absurd (Option.some.inj s) (h3 _ _)
      · exact h.2 a xs (.inr s)
    · rcases s with (s | ⟨ob, s⟩) | s
      · rw [upd_ne e] at s; exact h.2 a xs (.inl (.inl s))
      · rw [upd_ne e] at s; exact h.2 a xs (.inl (.inr ⟨ob, s⟩))
      · exact h.2 a xs (.inr s)
theorem same_upd {p : Addr} {o : HO} (hp : H p = none) : ∀ a u, H a = some u → upd H p o a = some u := fun a u e => by
  rw [upd_ne (ne_of_none e hp)]; exact e
theorem RowOk.nil : RowOk R own stb H F H' F' [] [] [] :=
  ⟨RepL.nil, fun _ z => by simp at z, fun _ _ z => by simp at z, fun _ => List.nodup_nil, fun _ _ z => by simp at z, fun _ _ z => by simp at z, fun _ _ z => by simp at z, fun _ _ z => by simp at z⟩
/-- a value that was held while a further part ran -/
theorem ValOk.held {p : PV} {v : V} {fp : List Addr} {env1 env2 : Env} {H2 : Hp} {F2 : Nat → List Addr} (k1 : EnvOk R σ H1 F1 env1) (h : ValOk R kd1 H F H1 F1 p v fp) (s2' : Step R.ms H1 F1 H2 F2) (n : Nor n2 H1 F1 env1 H2 F2 env2) (c : (kd1.stb || n2) = true) :
    RepF R.G H2 p v fp := by
  rcases Bool.or_eq_true_iff.mp c with z | z
  · exact s2'.rep k1 h.rep (h.st z)
  · exact h.rep.same (n z).2.2
theorem OW.none_of (s : Step R.ms H1 F1 H' F') {a : Addr} (n : ¬ OW R.ms F1 a) (e : (∃ o, H1 a = some o)) : ¬ OW R.ms F' a := fun z => by
  obtain ⟨o, e⟩ := e
  rcases s.ow a z with h | h
  · exact n h
  · rw [e] at h; cases h
end Ev

/-! EvE1: expressions, a construct a lemma. -/
namespace Ev
open PySem PySem.Spec PyProof.Rows L2
section
variable {X : Cx} {R : Fr0} {W : WXX} {σ : St} {H : Hp} {F : Nat → List Addr} {env : Env} {Q : VK}

theorem PE.imp {e : Expr} {t t' : TE} (h : PE X e t) (k : ∀ σ H Q, t' σ H Q → t σ H Q) : PE X e t' := ⟨fun pins s σ H Q I q => h.run pins s σ H Q I (k σ H Q q)⟩
theorem PT.imp {e : Expr} {t t' : TT} (h : PT X e t) (k : ∀ σ H Q, t' σ H Q → t σ H Q) : PT X e t' := ⟨fun pins s σ H Q I q => h.run pins s σ H Q I (k σ H Q q)⟩
theorem PA.imp {e : List Expr} {t t' : TA} (h : PA X e t) (k : ∀ σ H Q, t' σ H Q → t σ H Q) : PA X e t' := ⟨fun p pins s σ H Q I q => h.run p pins s σ H Q I (k σ H Q q)⟩

theorem PE.by {e : Expr} {t : TE} {kd : Kd} {ev : Env → Res (PV × Env)} (h : PE X e t) (k : ∀ σ H Q F env, EnvOk R σ H F env → okR R W kd σ H F env Q (ev env) → t σ H Q) : PE X e (rdE R W kd ev) :=
  PE.imp h fun σ H Q ⟨F, env, a, b⟩ => k σ H Q F env a b
theorem PT.by {e : Expr} {t : TT} {n : Bool} {ev : Env → Res (PV × Env)} (h : PT X e t) (k : ∀ σ H Q F env, EnvOk R σ H F env → okT R W n σ H F env Q (ev env) → t σ H Q) : PT X e (rdT R W n ev) :=
  PT.imp h fun σ H Q ⟨F, env, a, b⟩ => k σ H Q F env a b
theorem PA.by {e : List Expr} {t : TA} {o s n : Bool} {ev : Env → Res (List PV × Env)} (h : PA X e t) (k : ∀ σ H Q F env, EnvOk R σ H F env → okA R W o s n σ H F env Q (ev env) → t σ H Q) : PA X e (rdA R W o s n ev) :=
  PA.imp h fun σ H Q ⟨F, env, a, b⟩ => k σ H Q F env a b
/-- a value without lists at the state as it stands -/
theorem okR.now {kd : Kd} {p : PV} {v : V} (k : EnvOk R σ H F env) (h : okR R W kd σ H F env Q (.ok (p, env))) (r : RepF R.G H p v []) : Q v H :=
  h v H F [] k Step.refl (ValOk.flat r) Nor.refl
/-- .. behind a step -/
theorem okR.flat {kd : Kd} {n : Bool} {p : PV} {v : V} {H1 : Hp} {F1 : Nat → List Addr} {env1 : Env} (h : okR R W kd σ H F env Q (.ok (p, env1))) (k : EnvOk R σ H1 F1 env1) (s : Step R.ms H F H1 F1) (nr : Nor n H F env H1 F1 env1) (hn : kd.nor = true → n = true)
    (r : RepF R.G H1 p v []) : Q v H1 := h v H1 F1 [] k s (ValOk.flat r) fun z => nr (hn z)

/-! ### constants, names -/
def cV : Const → Option V
  | .none => some .non
  | .bool b => some (.bl b)
  | .int i => some (.int i)
  | .str s => some (.str s)
  | _ => none
theorem ev_c {c : Const} {j : Nat} {pos : Pos} {kd : Kd} : PE X (.Constant c j pos) (rdE R W kd fun env => (ofO (ofC c)).bind fun x => .ok (x, env)) := by
  cases c with
  | none => exact PE.by pe_non fun σ H Q F env k h => okR.now k h ⟨rfl, rfl⟩
  | bool b => exact PE.by pe_bl fun σ H Q F env k h => okR.now k h ⟨rfl, rfl⟩
  | int i => exact PE.by pe_int fun σ H Q F env k h => okR.now k h ⟨rfl, rfl⟩
  | str s => exact PE.by pe_str fun σ H Q F env k h => okR.now k h ⟨rfl, rfl⟩
  | float f => exact ⟨fun _ _ σ H Q _ ⟨_, _, _, h⟩ => h.elim⟩
  | complex f g => exact ⟨fun _ _ σ H Q _ ⟨_, _, _, h⟩ => h.elim⟩
  | bytes f => exact ⟨fun _ _ σ H Q _ ⟨_, _, _, h⟩ => h.elim⟩
  | ellipsis => exact ⟨fun _ _ σ H Q _ ⟨_, _, _, h⟩ => h.elim⟩
theorem ev_g {x : Str} {p : PV} {v : V} {u : Value} {pos : Pos} {kd : Kd} (hg : Gl X x) (hm : X.mg x = some u) (r : RelV v u) (hr : ∀ H, RepF R.G H p v []) (hd : (x == ("__debug__" : Str)) = false) :
    PE X (.Name x pos) (rdE R W kd fun env => .ok (p, env)) := PE.by (pe_glob hg hm r hd) fun σ H Q F env k h => okR.now k h (hr H)

theorem getD_of {env : Env} {i : Nat} {p : PV} (h : env.getD i .undef = p) (n : p ≠ .undef) : env[i]? = some p := by
  rw [List.getD_eq_getElem?_getD] at h
  cases e : env[i]? with
  | none => rw [e] at h; exact absurd h.symm n
  | some q => rw [e] at h; rw [← h]; rfl
theorem get_ok {env : Env} {i : Nat} : (∃ p, p ≠ .undef ∧ env[i]? = some p ∧ get env i = .ok (p, env)) ∨ get env i = .fail := by
  unfold get
  cases e : env.getD i .undef with
  | undef => exact .inr rfl
  | non => exact .inl ⟨.non, nofun, getD_of e nofun, rfl⟩
  | bl b => exact .inl ⟨.bl b, nofun, getD_of e nofun, rfl⟩
  | int b => exact .inl ⟨.int b, nofun, getD_of e nofun, rfl⟩
  | str b => exact .inl ⟨.str b, nofun, getD_of e nofun, rfl⟩
  | tup b => exact .inl ⟨.tup b, nofun, getD_of e nofun, rfl⟩
  | lst b => exact .inl ⟨.lst b, nofun, getD_of e nofun, rfl⟩
  | fn b => exact .inl ⟨.fn b, nofun, getD_of e nofun, rfl⟩
  | exc b c => exact .inl ⟨.exc b c, nofun, getD_of e nofun, rfl⟩
  | scr b => exact .inl ⟨.scr b, nofun, getD_of e nofun, rfl⟩
theorem EnvOk.free (k : EnvOk R σ H F env) {i : Nat} (hi : i ∉ R.ms) : ∀ a ∈ F i, ¬ OW R.ms F a := fun a ha ⟨j, hj, hb⟩ => k.dj j hj i (fun e => hi (e ▸ hj)) a hb ha
theorem ev_v {i : Nat} {x : Str} {pos : Pos} (hN : X.N[i]? = some x) (hv : Vis X.env.scope x) (hi : i ∉ R.ms) (hd : (x == ("__debug__" : Str)) = false) (hcd : (x == ("__classdict__" : Str)) = false) :
    PE X (.Name x pos) (rdE R W ⟨false, true, false, true⟩ fun env => get env i) := PE.by (pe_var hN hv hd hcd) fun σ H Q F env k h => by
  rcases get_ok (env := env) (i := i) with ⟨p, n, e, g⟩ | g
  · rw [g] at h
    obtain ⟨v, hs, hr⟩ := k.slot i p e n
    exact ⟨v, hs, h v H F (F i) k Step.refl ⟨hr, k.old i, fun _ => k.free hi, nofun, nofun, nofun, nofun, nofun, nofun⟩ Nor.refl⟩
  · rw [g] at h
    exact h.elim
theorem ev_m {i : Nat} {x : Str} {pos : Pos} (hN : X.N[i]? = some x) (hv : Vis X.env.scope x) (hd : (x == ("__debug__" : Str)) = false) (hcd : (x == ("__classdict__" : Str)) = false) :
    PE X (.Name x pos) (rdE R W ⟨false, false, false, true⟩ fun env => get env i) := PE.by (pe_var hN hv hd hcd) fun σ H Q F env k h => by
  rcases get_ok (env := env) (i := i) with ⟨p, n, e, g⟩ | g
  · rw [g] at h
    obtain ⟨v, hs, hr⟩ := k.slot i p e n
    exact ⟨v, hs, h v H F (F i) k Step.refl ⟨hr, k.old i, nofun, nofun, nofun, nofun, nofun, nofun, nofun⟩ Nor.refl⟩
  · rw [g] at h
    exact h.elim
/-- one slot's value is given up -/
def drop1 (F : Nat → List Addr) (i : Nat) : Nat → List Addr := fun j => if j = i then [] else F j
theorem drop1_same {i : Nat} : drop1 F i i = [] := if_pos rfl
theorem drop1_ne {i j : Nat} (h : j ≠ i) : drop1 F i j = F j := if_neg h
theorem drop1_sub {i j : Nat} {a : Addr} (h : a ∈ drop1 F i j) : a ∈ F j := by
  unfold drop1 at h
  split at h
  · simp at h
  · exact h
theorem getElem?_set_undef {env : Env} {i j : Nat} {p q : PV} (h : (env.set i q)[j]? = some p) : (j = i ∧ p = q ∧ i < env.length) ∨ (j ≠ i ∧ env[j]? = some p) := by
  rw [List.getElem?_set] at h
  split at h
  · rename_i e
    split at h
    · exact .inl ⟨e.symm, (Option.some.inj h).symm, by assumption⟩
    · cases h
  · rename_i e
    exact .inr ⟨fun z => e z.symm, h⟩
theorem getD_set {env : Env} {i j : Nat} {q : PV} (n : j ≠ i) : (env.set i q).getD j .undef = env.getD j .undef := by
  rw [List.getD_eq_getElem?_getD, List.getD_eq_getElem?_getD, List.getElem?_set_ne (Ne.symm n)]
theorem EnvOk.drop (k : EnvOk R σ H F env) (i : Nat) : EnvOk R σ H (drop1 F i) (env.set i .undef) where
  len := by rw [List.length_set]; exact k.len
  slot := fun j p e n => by
    rcases getElem?_set_undef e with ⟨_, e1, _⟩ | ⟨hj, e1⟩
    · exact absurd e1 n
    · rw [drop1_ne hj]; exact k.slot j p e1 n
  non := fun j e => by
    by_cases hj : j = i
    · subst hj; exact drop1_same
    · rw [drop1_ne hj]; exact k.non j (by rw [← getD_set hj]; exact e)
  nd := fun j hj => by
    unfold drop1
    split
    · exact List.nodup_nil
    · exact k.nd j hj
  mu := fun j hj a ha => k.mu j hj a (drop1_sub ha)
  ow := fun j hj a ha => k.ow j hj a (drop1_sub ha)
  dj := fun j hj l n a ha hb => k.dj j hj l n a (drop1_sub ha) (drop1_sub hb)
  old := fun j a ha => k.old j a (drop1_sub ha)
  keep := k.keep
  dom := k.dom
  lok := k.lok
  rf := k.rf
theorem ev_mv {i : Nat} {x : Str} {pos : Pos} (hN : X.N[i]? = some x) (hv : Vis X.env.scope x) (hi : i ∈ R.ms) (h0 : i ≠ 0 ∨ R.br = false) (hd : (x == ("__debug__" : Str)) = false) (hcd : (x == ("__classdict__" : Str)) = false) :
    PE X (.Name x pos) (rdE R W ⟨true, true, false, false⟩ fun env => (get env i).bind fun r => .ok (r.1, env.set i .undef)) := PE.by (pe_var hN hv hd hcd) fun σ H Q F env k h => by
  rcases get_ok (env := env) (i := i) with ⟨p, n, e, g⟩ | g
  · rw [g] at h
    obtain ⟨v, hs, hr⟩ := k.slot i p e n
    refine ⟨v, hs, h v H (drop1 F i) (F i) (k.drop i) ⟨fun a o e _ => e, fun j a ha => .inl (drop1_sub ha), fun a ⟨j, hj, ha⟩ => .inl ⟨j, hj, drop1_sub ha⟩, fun _ e => e⟩ ⟨hr, k.old i, fun _ a ha ⟨j, hj, hb⟩ => ?_, fun _ => k.nd i hi, fun _ => k.mu i hi, fun _ a ha j hb => ?_, fun _ a ha => .inl ⟨i, hi, ha⟩, fun _ a ha => ?_, nofun⟩ nofun⟩
    · by_cases e : j = i
      · rw [e, drop1_same] at hb; simp at hb
      · rw [drop1_ne e] at hb; exact k.dj j hj i (Ne.symm e) a hb ha
    · by_cases e : j = i
      · rw [e, drop1_same] at hb; simp at hb
      · rw [drop1_ne e] at hb; exact k.dj i hi j e a ha hb
    · rcases k.ow i hi a ha with z | ⟨z1, z2, _⟩
      · exact z
      · rcases h0 with w | w
        · exact absurd z1 w
        · rw [w] at z2; cases z2
  · rw [g] at h
    exact h.elim

/-! ### looks -/
theorem ev_chk {e : Expr} {ev : Env → Res (PV × Env)} {kd : Kd} {own stb top : Bool} (he : PE X e (rdE R W kd ev)) : PE X e (rdE R W ⟨own, stb, top, kd.nor⟩ fun env => (ev env).bind fun r => if r.1.lf = true then .ok r else .fail) := PE.by he fun σ H Q F env k h => by
  refine ⟨F, env, k, okR.bind Step.refl h fun q v H2 F2 fp _ k2 s2 v2 nr h2 => ?_⟩
  by_cases c : q.1.lf = true
  · rw [if_pos c] at h2
    have e : fp = [] := RepF.lf _ _ _ v2.rep c
    subst e
    exact h2 v H2 F2 [] k2 s2 (ValOk.flat v2.rep) nr
  · rw [if_neg c] at h2
    exact h2.elim
/-- a new list of values that hold none -/
theorem ev_chk1 {e : Expr} {ev : Env → Res (PV × Env)} {kd : Kd} (ht : kd.top = true) (he : PE X e (rdE R W kd ev)) :
    PE X e (rdE R W ⟨true, true, true, kd.nor⟩ fun env => (ev env).bind fun r => match r.1 with
      | .lst l => if PV.lfs l = true then .ok r else .fail
      | _ => .fail) := PE.by he fun σ H Q F env k h => by
  refine ⟨F, env, k, okR.bind Step.refl h fun q v H2 F2 fp _ k2 s2 v2 nr h2 => ?_⟩
  obtain ⟨p, env2⟩ := q
  cases p with
  | lst l =>
    by_cases c : PV.lfs l = true
    · dsimp only at h2
      rw [if_pos c] at h2
      obtain ⟨a, vs, f, e1, e2, hl, e3, e4, e5⟩ := v2.tp ht l rfl
      have e : f = [] := RepL.lf _ _ _ hl c
      subst e
      have only : ∀ {P : Addr → Prop}, P a → ∀ c ∈ [a], P c := fun q c hc => by
        rw [List.mem_singleton.mp hc]; exact q
      have hA : R.A a := by
        have r := v2.rep
        obtain ⟨a', vs', f', e6, _, _, e7⟩ := r
        rw [e1] at e6
        cases e6
        exact v2.old a (by rw [e7]; simp)
      exact h2 v H2 F2 [a] k2 s2 ⟨e1 ▸ RepF.new e2 hl, only hA, fun _ => only fun ⟨j, _, z⟩ => e4 j z, fun _ => by simp, fun _ => only ⟨_, e2⟩, fun _ => only e4, fun _ => only (.inr e3), fun _ => only e5, fun _ l' el => by
        cases el
        exact ⟨a, vs, [], e1, e2, hl, e3, e4, e5⟩⟩ nr
    · dsimp only at h2
      rw [if_neg c] at h2
      exact h2.elim
  | _ => exact h2.elim
end
end Ev

/-! EvE2: operators. -/
namespace Ev
open PySem PySem.Spec PyProof.Rows L2
/-- what a pure operation hands on: its value, of old parts and new ones -/
structure NewV (G : Gl0) (H : Hp) (fs : List Addr) (p : PV) (top : Bool) (z : V) (H' : Hp) (fz : List Addr) : Prop where
  same : ∀ a o, H a = some o → H' a = some o
  lok : LenOk G.K H'
  rep : RepF G H' p z fz
  sub : ∀ a ∈ fz, a ∈ fs ∨ H a = none
  tp : top = true → ∀ l, p = .lst l → ∃ a vs f, z = .ref a ∧ H' a = some (.lst vs) ∧ RepL G H' l vs f ∧ H a = none
def rBin (G : Gl0) (op : Operator) : R2 := fun x y H Q => ∃ p q r fp fq, RepF G H p x fp ∧ RepF G H q y fq ∧ LenOk G.K H ∧ binop op p q = some r ∧ ∀ z H' fz, NewV G H (fp ++ fq) r true z H' fz → Q z H'
section
variable {G : Gl0} {H : Hp} {fs : List Addr}
theorem NewV.flat {p : PV} {z : V} {t : Bool} (lok : LenOk G.K H) (r : RepF G H p z []) : NewV G H fs p t z H [] := ⟨fun _ _ e => e, lok, r, fun _ h => by simp at h, fun _ l e => by
  subst e
  obtain ⟨a, vs, f, _, _, _, z⟩ := r
  cases z⟩
theorem NewV.part {p : PV} {z : V} {fz : List Addr} (lok : LenOk G.K H) (r : RepF G H p z fz) (s : ∀ a ∈ fz, a ∈ fs) : NewV G H fs p false z H fz := ⟨fun _ _ e => e, lok, r, fun a h => .inl (s a h), nofun⟩
/-- a part that is no list -/
theorem NewV.partT {l : List PV} {z : V} {fz : List Addr} (lok : LenOk G.K H) (r : RepF G H (.tup l) z fz) (s : ∀ a ∈ fz, a ∈ fs) : NewV G H fs (.tup l) true z H fz := ⟨fun _ _ e => e, lok, r, fun a h => .inl (s a h), fun _ _ e => nomatch e⟩
theorem lok_tup {l : List V} {a : Addr} (lok : LenOk G.K H) (hz : l.length ≤ sizeLine) : LenOk G.K (upd H a (.tup l)) := lok.upd (fun _ e => nomatch e) (fun xs e => by cases e; exact hz) (fun _ _ e => nomatch e)
theorem lok_lst {l : List V} {a : Addr} (lok : LenOk G.K H) (hz : l.length ≤ sizeLine) : LenOk G.K (upd H a (.lst l)) := lok.upd (fun xs e => by cases e; exact hz) (fun _ e => nomatch e) (fun _ _ e => nomatch e)
/-- a new tuple of old values -/
theorem NewV.tup {l : List PV} {vs : List V} {f : List Addr} {a : Addr} {t : Bool} (lok : LenOk G.K H) (hn : H a = none) (r : RepL G H l vs f) (hz : vs.length ≤ sizeLine) (s : ∀ a ∈ f, a ∈ fs) : NewV G H fs (.tup l) t (.ref a) (upd H a (.tup vs)) f :=
  ⟨same_upd hn, lok_tup lok hz, ⟨a, vs, rfl, .of upd_same, r.same (same_upd hn)⟩, fun b h => .inl (s b h), fun _ _ e => nomatch e⟩
theorem NewV.lst {l : List PV} {vs : List V} {f : List Addr} {a : Addr} {t : Bool} (lok : LenOk G.K H) (hn : H a = none) (r : RepL G H l vs f) (hz : vs.length ≤ sizeLine) (s : ∀ a ∈ f, a ∈ fs) : NewV G H fs (.lst l) t (.ref a) (upd H a (.lst vs)) (a :: f) :=
  ⟨same_upd hn, lok_lst lok hz, RepF.new upd_same (r.same (same_upd hn)), fun b h => by
    rcases List.mem_cons.mp h with rfl | h
    · exact .inr hn
    · exact .inl (s b h), fun _ _ e => by
      cases e
      exact ⟨a, vs, f, rfl, upd_same, r.same (same_upd hn), hn⟩⟩
end
section
variable {X : Cx} {R : Fr0} {W : WXX} {σ : St} {H : Hp} {F : Nat → List Addr} {env : Env} {Q : VK} {kd kd1 kd2 kd3 : Kd}
/-- the end of a pure operation -/
theorem okR.pure {p : PV} {z : V} {H1 H' : Hp} {F1 : Nat → List Addr} {env1 : Env} {fs fz : List Addr} {t : Bool} (h : okR R W kd σ H F env Q (.ok (p, env1))) (k : EnvOk R σ H1 F1 env1) (s : Step R.ms H F H1 F1) (nr : kd.nor = true → F1 = F ∧ env1 = env ∧ ∀ a o, H a = some o → H1 a = some o)
    (v : NewV R.G H1 fs p t z H' fz) (hold : ∀ a ∈ fs, R.A a) (hst : kd.stb = true → ∀ a ∈ fs, ¬ OW R.ms F1 a) (ho : kd.own = false) (ht : kd.top = true → t = true) : Q z H' := by
  have k' : EnvOk R σ H' F1 env1 := k.same v.same v.lok
  have h0 : ∀ a, H1 a = none → R.H0 a = none := fun a e => (k.dom a e).1
  have nf : ∀ a, H1 a = none → ∀ j, a ∉ F1 j := fun a e j hj => by
    cases ep : env1.getD j .undef with
    | undef => rw [k.non j ep] at hj; simp at hj
    | _ =>
      obtain ⟨v, _, r⟩ := k.slot j _ (getD_of ep nofun) nofun
      exact RepF.there _ _ _ r a hj e
  have s' : Step R.ms H F H' F1 := s.trans (Step.same v.same)
  refine h z H' F1 fz k' s' ⟨v.rep, fun a ha => ?_, fun c a ha => ?_, fun c => ?_, fun c => ?_, fun c => ?_, fun c => ?_, fun c => ?_, fun c l e => ?_⟩ fun c => ?_
  · rcases v.sub a ha with q | q
    · exact hold a q
    · exact (k.dom a q).2
  · rcases v.sub a ha with q | q
    · exact hst c a q
    · exact fun ⟨j, _, hj⟩ => nf a q j hj
  · rw [ho] at c; cases c
  · rw [ho] at c; cases c
  · rw [ho] at c; cases c
  · rw [ho] at c; cases c
  · rw [ho] at c; cases c
  · obtain ⟨a, vs, f, e1, e2, e3, e4⟩ := v.tp (ht c) l e
    exact ⟨a, vs, f, e1, e2, e3, s.dom a e4, nf a e4, h0 a e4⟩
  · obtain ⟨e1, e2, e3⟩ := nr c
    exact ⟨e1, e2, fun a o e => v.same a o (e3 a o e)⟩
/-- a op b -/
theorem ev_bin {a b : Expr} {op : Operator} {pos : Pos} {eva evb : Env → Res (PV × Env)} (ho : OpR X (binaryOp op) (rBin R.G op)) (ha : PE X a (rdE R W kd1 eva)) (hb : PE X b (rdE R W kd2 evb)) (hc : (kd1.stb || kd2.nor) = true) :
    PE X (.BinOp a op b pos) (rdE R W ⟨false, kd1.stb && kd2.stb, true, kd1.nor && kd2.nor⟩ fun env => (eva env).bind fun r => (evb r.2).bind fun q => (ofO (binop op r.1 q.1)).bind fun x => .ok (x, q.2)) :=
  PE.by (pe_op ho ha hb) fun σ H Q F env k h => by
    refine ⟨F, env, k, okR.bind Step.refl h fun p x H1 F1 fp _ k1 s1 v1 n1 h1 => ?_⟩
    refine ⟨F1, p.2, k1, okR.bind s1 h1 fun q y H2 F2 fq _ k2 s2 v2 n2 h2 => ?_⟩
    obtain ⟨z, e, h3⟩ := okR.ofO h2
    have hx := v1.held k1 s2 n2 hc
    refine ⟨p.1, q.1, z, fp, fq, hx, v2.rep, k2.lok, e, fun zv H' fz nv => ?_⟩
    refine okR.pure h3 k2 (s1.trans s2) (Nor.trans n1 n2) nv (fun a ha => (List.mem_append.mp ha).elim (v1.old a) (v2.old a)) (fun c a ha => ?_) rfl fun _ => rfl
    obtain ⟨c1, c2⟩ := Bool.and_eq_true_iff.mp c
    rcases List.mem_append.mp ha with z | z
    · exact fun w => by
        rcases s2.ow a w with w | w
        · exact v1.st c1 a z w
        · exact RepF.there _ _ _ v1.rep a z w
    · exact v2.st c2 a z
end
end Ev

/-! EvE3: each operator on data. -/
namespace Ev
open PySem PySem.Spec PyProof.Rows L2
section
variable {X : Cx} {G : Gl0}
theorem op_P_int {op : Operator} {r : R2} (ho : OpR X (binaryOp op) r) (hk : ∀ {x y : V} {H : Hp} {Q : VK}, rBin G op x y H Q → r x y H Q) : OpR X (binaryOp op) (rBin G op) :=
  fun pins s σ H x y v u Q I rx ry h => ho pins s σ H x y v u Q I rx ry (hk h)
theorem rep_len {H : Hp} {l : List PV} {vs : List V} {f : List Addr} (h : RepL G H l vs f) : vs.length = l.length := h.length
theorem op_addP (hK : G.K = X.K) : OpR X (binaryOp .Add) (rBin G .Add) := by
  intro pins s σ H x y v u Q I rx ry ⟨p, q, r, fp, fq, hp, hq, lok, e, k⟩
  cases p with
  | int i =>
    cases q with
    | int j =>
      obtain ⟨rfl, rfl⟩ := hp
      obtain ⟨rfl, rfl⟩ := hq
      cases e
      exact op_add pins s σ H _ _ v u Q I rx ry ⟨i, j, rfl, rfl, k _ _ [] (NewV.flat lok ⟨rfl, rfl⟩)⟩
    | bl b =>
      obtain ⟨rfl, rfl⟩ := hp
      obtain ⟨rfl, rfl⟩ := hq
      cases e
      refine op_add_ib pins s σ H _ _ v u Q I rx ry ⟨i, b, rfl, rfl, k _ _ [] (NewV.flat lok ⟨?_, rfl⟩)⟩
      cases b <;> rfl
    | _ => simp [binop] at e
  | str i =>
    cases q with
    | str j =>
      obtain ⟨rfl, rfl⟩ := hp
      obtain ⟨rfl, rfl⟩ := hq
      simp only [binop] at e
      split at e
      · rename_i c
        cases e
        exact op_add_str pins s σ H _ _ v u Q I rx ry ⟨i, j, rfl, rfl, c, k _ _ [] (NewV.flat lok ⟨rfl, rfl⟩)⟩
      · cases e
    | _ => simp [binop] at e
  | tup l =>
    cases q with
    | tup m =>
      obtain ⟨a, vs, rfl, ha, hl⟩ := hp
      obtain ⟨b, us, rfl, hb, hm⟩ := hq
      simp only [binop] at e
      split at e
      · rename_i c
        cases e
        rw [hK] at ha hb
        rw [← hl.length, ← hm.length] at c
        refine op_catA pins s σ H _ _ v u Q I rx ry ⟨a, b, vs, us, rfl, rfl, ha, hb, c, fun e => ?_, fun _ e => ?_, fun _ _ z hz => ?_⟩
        · subst e
          cases l with
          | cons x l => simp [RepL] at hl
          | nil => exact k _ _ fq (NewV.partT lok ⟨b, us, rfl, hK ▸ hb, hm⟩ fun c hc => List.mem_append_right _ hc)
        · subst e
          cases m with
          | cons x l => simp [RepL] at hm
          | nil =>
            rw [List.append_nil] at k
            exact k _ _ fp (NewV.partT lok ⟨a, vs, rfl, hK ▸ ha, hl⟩ fun c hc => List.mem_append_left _ hc)
        · exact k _ _ _ (NewV.tup lok hz (hl.append hm) (by rw [List.length_append]; exact c) fun _ w => w)
      · cases e
    | _ => simp [binop] at e
  | lst l =>
    cases q with
    | lst m =>
      obtain ⟨a, vs, f, rfl, ha, hl, rfl⟩ := hp
      obtain ⟨b, us, g, rfl, hb, hm, rfl⟩ := hq
      simp only [binop] at e
      split at e
      · rename_i c
        cases e
        rw [← hl.length, ← hm.length] at c
        refine op_cat pins s σ H _ _ v u Q I rx ry ⟨a, b, vs, us, rfl, rfl, ha, hb, c, fun z hz => ?_⟩
        refine k _ _ _ (NewV.lst lok hz (hl.append hm) (by rw [List.length_append]; exact c) fun w hw => ?_)
        rcases List.mem_append.mp hw with z | z
        · exact List.mem_append_left _ (List.mem_cons_of_mem _ z)
        · exact List.mem_append_right _ (List.mem_cons_of_mem _ z)
      · cases e
    | _ => simp [binop] at e
  | _ => simp [binop] at e
/-- two ints -/
theorem op_ints {op : Operator} {f : Int → Int → Option Int} {C : Int → Int → Prop} {g : Int → Int → V} (ho : OpR X (binaryOp op) (rI C g)) (hb : ∀ p q r, binop op p q = some r → ∃ i j n, p = .int i ∧ q = .int j ∧ r = .int n ∧ C i j ∧ g i j = .int n) : OpR X (binaryOp op) (rBin G op) := by
  intro pins s σ H x y v u Q I rx ry ⟨p, q, r, fp, fq, hp, hq, lok, e, k⟩
  obtain ⟨i, j, n, rfl, rfl, rfl, hc, hg⟩ := hb p q r e
  obtain ⟨rfl, rfl⟩ := hp
  obtain ⟨rfl, rfl⟩ := hq
  exact ho pins s σ H _ _ v u Q I rx ry ⟨i, j, rfl, rfl, hc, k _ _ [] (NewV.flat lok ⟨hg, rfl⟩)⟩
theorem rI0_I {op : Operator} {g : Int → Int → V} (h : OpR X (binaryOp op) (rI0 g)) : OpR X (binaryOp op) (rI (fun _ _ => True) g) := fun pins s σ H x y v u Q I rx ry ⟨i, j, a, b, _, c⟩ => h pins s σ H x y v u Q I rx ry ⟨i, j, a, b, c⟩
theorem op_subP : OpR X (binaryOp .Sub) (rBin G .Sub) := op_ints (f := fun _ _ => none) (rI0_I op_sub) fun p q r e => by
  cases p <;> cases q <;> simp only [binop, reduceCtorEq] at e
  cases e
  exact ⟨_, _, _, rfl, rfl, rfl, trivial, rfl⟩
theorem op_andP : OpR X (binaryOp .BitAnd) (rBin G .BitAnd) := op_ints (f := fun _ _ => none) (rI0_I op_and) fun p q r e => by
  cases p <;> cases q <;> simp only [binop, reduceCtorEq] at e
  cases e
  exact ⟨_, _, _, rfl, rfl, rfl, trivial, rfl⟩
theorem op_orP : OpR X (binaryOp .BitOr) (rBin G .BitOr) := op_ints (f := fun _ _ => none) (rI0_I op_or) fun p q r e => by
  cases p <;> cases q <;> simp only [binop, reduceCtorEq] at e
  cases e
  exact ⟨_, _, _, rfl, rfl, rfl, trivial, rfl⟩
theorem op_xorP : OpR X (binaryOp .BitXor) (rBin G .BitXor) := op_ints (f := fun _ _ => none) (rI0_I op_xor) fun p q r e => by
  cases p <;> cases q <;> simp only [binop, reduceCtorEq] at e
  cases e
  exact ⟨_, _, _, rfl, rfl, rfl, trivial, rfl⟩
theorem op_modP : OpR X (binaryOp .Mod) (rBin G .Mod) := op_ints (f := fun _ _ => none) op_modN fun p q r e => by
  cases p <;> cases q <;> simp only [binop, reduceCtorEq] at e
  split at e
  · cases e
    exact ⟨_, _, _, rfl, rfl, rfl, ‹_›, rfl⟩
  · cases e
theorem op_powP : OpR X (binaryOp .Pow) (rBin G .Pow) := op_ints (f := fun _ _ => none) op_pow fun p q r e => by
  cases p <;> cases q <;> simp only [binop, reduceCtorEq] at e
  split at e
  · cases e
    exact ⟨_, _, _, rfl, rfl, rfl, ‹_›, rfl⟩
  · cases e
theorem op_shlP : OpR X (binaryOp .LShift) (rBin G .LShift) := op_ints (f := fun _ _ => none) op_shl fun p q r e => by
  cases p <;> cases q <;> simp only [binop, reduceCtorEq] at e
  split at e
  · cases e
    exact ⟨_, _, _, rfl, rfl, rfl, ‹_›, rfl⟩
  · cases e
theorem op_shrP : OpR X (binaryOp .RShift) (rBin G .RShift) := op_ints (f := fun _ _ => none) op_shr fun p q r e => by
  cases p <;> cases q <;> simp only [binop, reduceCtorEq] at e
  split at e
  · cases e
    exact ⟨_, _, _, rfl, rfl, rfl, ‹_›, rfl⟩
  · cases e
/-- // by either rule -/
theorem op_fdivP : OpR X (binaryOp .FloorDiv) (rBin G .FloorDiv) := by
  intro pins s σ H x y v u Q I rx ry ⟨p, q, r, fp, fq, hp, hq, lok, e, k⟩
  cases p <;> cases q <;> simp only [binop, reduceCtorEq] at e
  rename_i i j
  split at e
  · rename_i c
    cases e
    obtain ⟨rfl, rfl⟩ := hp
    obtain ⟨rfl, rfl⟩ := hq
    unfold fdivOk at c
    rcases Bool.or_eq_true_iff.mp c with c | c
    · obtain ⟨c1, c2⟩ := Bool.and_eq_true_iff.mp c
      exact op_fdivN pins s σ H _ _ v u Q I rx ry ⟨i, j, rfl, rfl, ⟨of_decide_eq_true c1, of_decide_eq_true c2⟩, k _ _ [] (NewV.flat lok ⟨rfl, rfl⟩)⟩
    · obtain ⟨c1, c2⟩ := Bool.and_eq_true_iff.mp c
      have c1 := of_decide_eq_true c1
      have c2 := of_decide_eq_true c2
      refine op_fdivW pins s σ H _ _ v u Q I rx ry ⟨i, j, rfl, rfl, ⟨c1, c2⟩, ?_⟩
      have ez : i.fdiv j = i / j := Int.fdiv_eq_ediv_of_nonneg i (by omega)
      show Q (V.int (i / j)) H
      rw [← ez]
      exact k _ _ [] (NewV.flat lok ⟨rfl, rfl⟩)
  · cases e
theorem RepL.rep {H : Hp} {l : List PV} {vs : List V} {f : List Addr} (h : RepL G H l vs f) : ∀ k : Nat, ∃ g, RepL G H (List.replicate k l).flatten (List.replicate k vs).flatten g ∧ ∀ a ∈ g, a ∈ f
  | 0 => ⟨[], RepL.nil, fun _ z => by simp at z⟩
  | k + 1 => by
    obtain ⟨g, h1, h2⟩ := RepL.rep h k
    refine ⟨f ++ g, ?_, fun a z => (List.mem_append.mp z).elim (fun z => z) (h2 a)⟩
    rw [List.replicate_succ, List.replicate_succ, List.flatten_cons, List.flatten_cons]
    exact h.append h1
theorem op_mulP (hK : G.K = X.K) : OpR X (binaryOp .Mult) (rBin G .Mult) := by
  intro pins s σ H x y v u Q I rx ry ⟨p, q, r, fp, fq, hp, hq, lok, e, k⟩
  cases p with
  | int i =>
    cases q with
    | int j =>
      simp only [binop] at e
      split at e
      · rename_i c
        cases e
        obtain ⟨rfl, rfl⟩ := hp
        obtain ⟨rfl, rfl⟩ := hq
        unfold mulOk at c
        rcases Bool.or_eq_true_iff.mp c with c | c
        · rcases Bool.or_eq_true_iff.mp c with c | c
          · exact op_mulW pins s σ H _ _ v u Q I rx ry ⟨i, j, rfl, rfl, (of_decide_eq_true c : i.natAbs.log2 + j.natAbs.log2 < 1000000), k _ _ [] (NewV.flat lok ⟨rfl, rfl⟩)⟩
          · obtain ⟨c1, c2⟩ := Bool.and_eq_true_iff.mp c
            exact op_mul pins s σ H _ _ v u Q I rx ry ⟨i, j, rfl, rfl, .inr ⟨of_decide_eq_true c1, of_decide_eq_true c2⟩, k _ _ [] (NewV.flat lok ⟨rfl, rfl⟩)⟩
        · obtain ⟨c1, c2⟩ := Bool.and_eq_true_iff.mp c
          exact op_mul pins s σ H _ _ v u Q I rx ry ⟨i, j, rfl, rfl, .inl ⟨of_decide_eq_true c1, of_decide_eq_true c2⟩, k _ _ [] (NewV.flat lok ⟨rfl, rfl⟩)⟩
      · cases e
    | _ => simp [binop] at e
  | lst l =>
    cases q with
    | int n =>
      simp only [binop] at e
      split at e
      · rename_i c
        cases e
        obtain ⟨a, vs, f, rfl, ha, hl, rfl⟩ := hp
        obtain ⟨rfl, rfl⟩ := hq
        obtain ⟨c1, c2, c3⟩ := c
        rw [← hl.length] at c1
        refine op_rep pins s σ H _ _ v u Q I rx ry ⟨a, n, vs, rfl, rfl, ha, c2, c3, c1, fun z hz => ?_⟩
        obtain ⟨g, h1, h2⟩ := hl.rep n.toNat
        refine k _ _ _ (NewV.lst lok hz h1 ?_ fun w hw => ?_)
        · rw [PyProof.Rows.lm_len_rep_flat, Nat.mul_comm]; exact c1
        · rw [List.append_nil]; exact List.mem_cons_of_mem _ (h2 w hw)
      · cases e
    | _ => simp [binop] at e
  | tup l =>
    cases q with
    | int n =>
      simp only [binop] at e
      split at e
      · rename_i c
        cases e
        obtain ⟨a, vs, rfl, ha, hl⟩ := hp
        obtain ⟨rfl, rfl⟩ := hq
        obtain ⟨c1, c2, c3, c4⟩ := c
        have el := hl.length
        obtain ⟨g, h1, h2⟩ := hl.rep n.toNat
        refine op_repT pins s σ H _ _ v u Q I rx ry ⟨a, n, vs, rfl, rfl, hK ▸ ha, fun e => ?_, c3, c4, by omega, fun z hz => ?_⟩
        · rw [e] at el
          simp at el
          omega
        · refine k _ _ _ (NewV.tup lok hz h1 ?_ fun w hw => ?_)
          · rw [PyProof.Rows.lm_len_rep_flat, el]
            have hm : n.toNat * l.length ≤ 1000 * 1000 := Nat.mul_le_mul (by omega) c1
            rw [sizeLine_eq]
            omega
          · rw [List.append_nil]; exact h2 w hw
      · cases e
    | _ => simp [binop] at e
  | _ => simp [binop] at e
end
end Ev

/-! EvE4: comparisons, truth, and, or, not. -/
namespace Ev
open PySem PySem.Spec PyProof.Rows L2
def rCmp (G : Gl0) (op : CmpOp) : R2 := fun x y H Q => ∃ p q b fp fq, RepF G H p x fp ∧ RepF G H q y fq ∧ LenOk G.K H ∧ cmpop op p q = some b ∧ Q (.bl b) H
section
variable {X : Cx} {G : Gl0}
theorem RepF.nn {H : Hp} {p : PV} {x : V} {fp : List Addr} (h : RepF G H p x fp) (n : p ≠ .non) : x ≠ .non := by
  cases p with
  | undef => exact h.elim
  | non => exact absurd rfl n
  | bl b => rw [h.1]; exact nofun
  | int b => rw [h.1]; exact nofun
  | str b => rw [h.1]; exact nofun
  | fn b => rw [h.1]; exact nofun
  | tup l => obtain ⟨a, vs, e, _⟩ := h; rw [e]; exact nofun
  | lst l => obtain ⟨a, vs, f, e, _⟩ := h; rw [e]; exact nofun
  | scr l => obtain ⟨a, vs, e, _⟩ := h; rw [e]; exact nofun
  | exc c b => obtain ⟨a, d, y, e, _⟩ := h; rw [e]; exact nofun
theorem op_eqP (hK : G.K = X.K) (hu : X.A.units + 64 < cLine) : OpR X (compareOp .Eq) (rCmp G .Eq) := by
  intro pins s σ H x y v u Q I rx ry ⟨p, q, b, fp, fq, hp, hq, lok, e, k⟩
  by_cases st : ∃ a b, p = .str a ∧ q = .str b
  · obtain ⟨a, c, rfl, rfl⟩ := st
    cases e
    obtain ⟨rfl, rfl⟩ := hp
    obtain ⟨rfl, rfl⟩ := hq
    obtain ⟨t, rfl⟩ := rx
    obtain ⟨t', rfl⟩ := ry
    refine PyProof.Rows.eq_str ⟨.bl _, H, I, rfl, ?_⟩
    by_cases ec : a = c
    · subst ec; simpa using k
    · have e2 : (a == c) = false := beq_eq_false_iff_ne.mpr ec
      simpa [ec, e2] using k
  have e : (if eqOk p q = true then some (PyData.eqv p.pd q.pd) else none) = some b := by
    rw [← e]
    cases p <;> cases q <;> first | rfl | exact absurd ⟨_, _, rfl, rfl⟩ st
  split at e
  · rename_i c
    cases e
    unfold eqOk at c
    obtain ⟨c, c4⟩ := Bool.and_eq_true_iff.mp c
    obtain ⟨c, c3⟩ := Bool.and_eq_true_iff.mp c
    obtain ⟨c1, c2⟩ := Bool.and_eq_true_iff.mp c
    exact op_eqD hu pins s σ H x y v u Q I rx ry ⟨p.pd, q.pd, hK ▸ hp.dp _ _ _ c1, hK ▸ hq.dp _ _ _ c2, c3, c4, k⟩
  · cases e
theorem op_neP (hK : G.K = X.K) (hu : X.A.units + 64 < cLine) : OpR X (compareOp .NotEq) (rCmp G .NotEq) := by
  intro pins s σ H x y v u Q I rx ry ⟨p, q, b, fp, fq, hp, hq, lok, e, k⟩
  by_cases st : ∃ a b, p = .str a ∧ q = .str b
  · obtain ⟨a, c, rfl, rfl⟩ := st
    cases e
    obtain ⟨rfl, rfl⟩ := hp
    obtain ⟨rfl, rfl⟩ := hq
    obtain ⟨t, rfl⟩ := rx
    obtain ⟨t', rfl⟩ := ry
    refine PyProof.Rows.ne_str ⟨.bl _, H, I, rfl, ?_⟩
    by_cases ec : a = c
    · subst ec; simpa [bne] using k
    · have e2 : (a == c) = false := beq_eq_false_iff_ne.mpr ec
      simpa [ec, e2, bne] using k
  have e : (if eqOk p q = true then some (!PyData.eqv p.pd q.pd) else none) = some b := by
    rw [← e]
    cases p <;> cases q <;> first | rfl | exact absurd ⟨_, _, rfl, rfl⟩ st
  split at e
  · rename_i c
    cases e
    unfold eqOk at c
    obtain ⟨c, c4⟩ := Bool.and_eq_true_iff.mp c
    obtain ⟨c, c3⟩ := Bool.and_eq_true_iff.mp c
    obtain ⟨c1, c2⟩ := Bool.and_eq_true_iff.mp c
    exact op_neD hu pins s σ H x y v u Q I rx ry ⟨p.pd, q.pd, hK ▸ hp.dp _ _ _ c1, hK ▸ hq.dp _ _ _ c2, c3, c4, k⟩
  · cases e
theorem ltOk_parts {p q : PV} (c : ltOk p q = true) : p.data = true ∧ q.data = true ∧ PySem.W.alike p.pd q.pd = true ∧ p.pd.depth ≤ 64 ∧ p.pd ≠ .none := by
  unfold ltOk at c
  obtain ⟨c, c5⟩ := Bool.and_eq_true_iff.mp c
  obtain ⟨c, c4⟩ := Bool.and_eq_true_iff.mp c
  obtain ⟨c, c3⟩ := Bool.and_eq_true_iff.mp c
  obtain ⟨c1, c2⟩ := Bool.and_eq_true_iff.mp c
  refine ⟨c1, c2, c3, of_decide_eq_true c4, fun e => ?_⟩
  rw [e] at c5
  cases c5
/-- an ordering of data, by the library's rule -/
theorem op_ordP {op : CmpOp} {f : PV → PV → Bool} (hK : G.K = X.K) (hu : X.A.units + 64 < cLine)
    (hf : ∀ p q b, cmpop op p q = some b → (∃ i j, p = .int i ∧ q = .int j ∧ b = f p q) ∨ (ltOk p q = true ∧ b = f p q))
    (hi : ∀ (i j : Int), f (.int i) (.int j) = f (.int i) (.int j) ∧ ltOk (.int i) (.int j) = true)
    (rule : ∀ {p q : PV} {s : Shared} {v u : Value} {as bs : List Addr} {Q : Value → Shared → Prop}, Reads s.heap v p.pd as → Reads s.heap u q.pd bs → PySem.W.alike p.pd q.pd = true → p.pd ≠ .none → X.A.units + min p.pd.depth q.pd.depth < cLine → Q (.bool (f p q)) s → wpAny (model X.prog X.w) X.A (compareOp op v u) Q X.xe s) :
    OpR X (compareOp op) (rCmp G op) := by
  intro pins s σ H x y v u Q I rx ry ⟨p, q, b, fp, fq, hp, hq, lok, e, k⟩
  have hb : ltOk p q = true ∧ b = f p q := by
    rcases hf p q b e with ⟨i, j, rfl, rfl, e⟩ | h
    · exact ⟨(hi i j).2, e⟩
    · exact h
  obtain ⟨c, rfl⟩ := hb
  obtain ⟨c1, c2, c3, c4, c5⟩ := ltOk_parts c
  obtain ⟨as, r1⟩ := Dp.reads I p.pd x v (hK ▸ hp.dp _ _ _ c1) rx
  obtain ⟨bs, r2⟩ := Dp.reads I q.pd y u (hK ▸ hq.dp _ _ _ c2) ry
  have hm : min p.pd.depth q.pd.depth ≤ p.pd.depth := Nat.min_le_left _ _
  exact rule r1 r2 c3 c5 (by omega) ⟨.bl _, H, I, rfl, k⟩
theorem lt_ii (i j : Int) : PySem.W.dataLt (PV.int i).pd (PV.int j).pd = decide (i < j) := PySem.W.dataLt_int i j
theorem ltOk_ii (i j : Int) : ltOk (.int i) (.int j) = true := by simp [ltOk, PV.data, PV.pd, PySem.W.alike, PyData.depth]
theorem not_lt_dec (i j : Int) : (!decide (j < i)) = decide (i ≤ j) := by
  by_cases h : j < i
  · rw [decide_eq_true h, decide_eq_false (by omega)]; rfl
  · rw [decide_eq_false h, decide_eq_true (by omega)]; rfl
theorem cmp_shape {op : CmpOp} {p q : PV} {b : Bool} {f : PV → PV → Bool} (h1 : ∀ i j, cmpop op (.int i) (.int j) = some (f (.int i) (.int j)))
    (h2 : (∀ i j, ¬ (p = .int i ∧ q = .int j)) → cmpop op p q = if ltOk p q then some (f p q) else none) (e : cmpop op p q = some b) : (∃ i j, p = .int i ∧ q = .int j ∧ b = f p q) ∨ (ltOk p q = true ∧ b = f p q) := by
  by_cases h : ∃ i j, p = .int i ∧ q = .int j
  · obtain ⟨i, j, rfl, rfl⟩ := h
    rw [h1] at e
    exact .inl ⟨i, j, rfl, rfl, (Option.some.inj e).symm⟩
  · rw [h2 fun i j z => h ⟨i, j, z⟩] at e
    split at e
    · exact .inr ⟨‹_›, (Option.some.inj e).symm⟩
    · cases e
theorem op_ltP (hK : G.K = X.K) (hu : X.A.units + 64 < cLine) : OpR X (compareOp .Lt) (rCmp G .Lt) :=
  op_ordP (f := fun p q => PySem.W.dataLt p.pd q.pd) hK hu (fun p q b e => cmp_shape (f := fun p q => PySem.W.dataLt p.pd q.pd) (fun i j => by show some _ = some _; rw [lt_ii]) (fun n => by
    cases p with
    | int i => cases q with
      | int j => exact absurd ⟨rfl, rfl⟩ (n i j)
      | _ => rfl
    | _ => rfl) e) (fun i j => ⟨rfl, ltOk_ii i j⟩) fun r1 r2 a n h q => PySem.W.lt_data r1 r2 a n h q
theorem op_gtP (hK : G.K = X.K) (hu : X.A.units + 64 < cLine) : OpR X (compareOp .Gt) (rCmp G .Gt) :=
  op_ordP (f := fun p q => PySem.W.dataLt q.pd p.pd) hK hu (fun p q b e => cmp_shape (f := fun p q => PySem.W.dataLt q.pd p.pd) (fun i j => by show some _ = some _; rw [lt_ii]) (fun n => by
    cases p with
    | int i => cases q with
      | int j => exact absurd ⟨rfl, rfl⟩ (n i j)
      | _ => rfl
    | _ => rfl) e) (fun i j => ⟨rfl, ltOk_ii i j⟩) fun r1 r2 a n h q => PySem.W.gt_data r1 r2 a n h q
theorem op_leP (hK : G.K = X.K) (hu : X.A.units + 64 < cLine) : OpR X (compareOp .LtE) (rCmp G .LtE) :=
  op_ordP (f := fun p q => !PySem.W.dataLt q.pd p.pd) hK hu (fun p q b e => cmp_shape (f := fun p q => !PySem.W.dataLt q.pd p.pd) (fun i j => by show some _ = some _; rw [lt_ii, not_lt_dec]) (fun n => by
    cases p with
    | int i => cases q with
      | int j => exact absurd ⟨rfl, rfl⟩ (n i j)
      | _ => rfl
    | _ => rfl) e) (fun i j => ⟨rfl, ltOk_ii i j⟩) fun r1 r2 a n h q => PySem.W.le_data r1 r2 a n h q
theorem op_geP (hK : G.K = X.K) (hu : X.A.units + 64 < cLine) : OpR X (compareOp .GtE) (rCmp G .GtE) :=
  op_ordP (f := fun p q => !PySem.W.dataLt p.pd q.pd) hK hu (fun p q b e => cmp_shape (f := fun p q => !PySem.W.dataLt p.pd q.pd) (fun i j => by show some _ = some _; rw [lt_ii, not_lt_dec]) (fun n => by
    cases p with
    | int i => cases q with
      | int j => exact absurd ⟨rfl, rfl⟩ (n i j)
      | _ => rfl
    | _ => rfl) e) (fun i j => ⟨rfl, ltOk_ii i j⟩) fun r1 r2 a n h q => PySem.W.ge_data r1 r2 a n h q
theorem op_isP : OpR X (compareOp .Is) (rCmp G .Is) := by
  intro pins s σ H x y v u Q I rx ry ⟨p, q, b, fp, fq, hp, hq, lok, e, k⟩
  cases q <;> simp only [cmpop, reduceCtorEq] at e
  obtain ⟨rfl, _⟩ := hq
  refine op_isN pins s σ H x _ v u Q I rx ry ⟨rfl, ?_⟩
  by_cases hn : p = .non
  · subst hn
    cases e
    obtain ⟨rfl, _⟩ := hp
    exact k
  · have hx := RepF.nn hp hn
    have e' : b = false := by
      cases p <;> first | exact absurd rfl hn | exact hp.elim | exact (Option.some.inj e).symm
    subst e'
    rw [decide_eq_false hx]
    exact k
theorem op_isnP : OpR X (compareOp .IsNot) (rCmp G .IsNot) := by
  intro pins s σ H x y v u Q I rx ry ⟨p, q, b, fp, fq, hp, hq, lok, e, k⟩
  cases q <;> simp only [cmpop, reduceCtorEq] at e
  obtain ⟨rfl, _⟩ := hq
  refine op_notN pins s σ H x _ v u Q I rx ry ⟨rfl, ?_⟩
  by_cases hn : p = .non
  · subst hn
    cases e
    obtain ⟨rfl, _⟩ := hp
    exact k
  · have hx := RepF.nn hp hn
    have e' : b = true := by
      cases p <;> first | exact absurd rfl hn | exact hp.elim | exact (Option.some.inj e).symm
    subst e'
    rw [decide_eq_false hx]
    exact k
theorem inOk_parts {x : PV} {l : List PV} (c : inOk x l = true) : x.data = true ∧ PV.datas l = true ∧ SeqAt.shaped x.pd = true ∧ SeqAt.shaped (.list (PV.pds l)) = true := by
  unfold inOk at c
  obtain ⟨c, c4⟩ := Bool.and_eq_true_iff.mp c
  obtain ⟨c, c3⟩ := Bool.and_eq_true_iff.mp c
  obtain ⟨c1, c2⟩ := Bool.and_eq_true_iff.mp c
  exact ⟨c1, c2, c3, c4⟩
theorem op_inP (hK : G.K = X.K) (hu : X.A.units + 65 < cLine) : OpR X (compareOp .In) (rCmp G .In) := by
  intro pins s σ H x y v u Q I rx ry ⟨p, q, b, fp, fq, hp, hq, lok, e, k⟩
  cases q with
  | lst l =>
    simp only [cmpop] at e
    split at e
    · rename_i c
      cases e
      obtain ⟨c1, c2, c3, c4⟩ := inOk_parts c
      exact op_inD hu pins s σ H x y v u Q I rx ry ⟨p.pd, PV.pds l, hK ▸ hp.dp _ _ _ c1, hK ▸ hq.dp (.lst l) _ _ (by simpa [PV.data] using c2), c3, c4, k⟩
    · cases e
  | tup l =>
    simp only [cmpop] at e
    split at e
    · rename_i c
      cases e
      obtain ⟨c1, c2, c3, c4⟩ := inOk_parts c
      obtain ⟨as, r1⟩ := Dp.reads I p.pd x v (hK ▸ hp.dp _ _ _ c1) rx
      obtain ⟨bs, r2⟩ := Dp.reads I (.tuple (PV.pds l)) y u (hK ▸ hq.dp (.tup l) _ _ (by simpa [PV.data] using c2)) ry
      exact SeqAt.in_tuple_reads r2 r1 (SeqAt.canLay_of_shaped c4) (SeqAt.canLay_of_shaped c3) (room_in_shaped c3 hu) ⟨.bl _, H, I, rfl, k⟩
    · cases e
  | _ => simp [cmpop] at e
theorem op_ninP (hK : G.K = X.K) (hu : X.A.units + 65 < cLine) : OpR X (compareOp .NotIn) (rCmp G .NotIn) := by
  intro pins s σ H x y v u Q I rx ry ⟨p, q, b, fp, fq, hp, hq, lok, e, k⟩
  cases q with
  | lst l =>
    simp only [cmpop] at e
    split at e
    · rename_i c
      cases e
      obtain ⟨c1, c2, c3, c4⟩ := inOk_parts c
      exact op_notInD hu pins s σ H x y v u Q I rx ry ⟨p.pd, PV.pds l, hK ▸ hp.dp _ _ _ c1, hK ▸ hq.dp (.lst l) _ _ (by simpa [PV.data] using c2), c3, c4, k⟩
    · cases e
  | tup l =>
    simp only [cmpop] at e
    split at e
    · rename_i c
      cases e
      obtain ⟨c1, c2, c3, c4⟩ := inOk_parts c
      obtain ⟨as, r1⟩ := Dp.reads I p.pd x v (hK ▸ hp.dp _ _ _ c1) rx
      obtain ⟨bs, r2⟩ := Dp.reads I (.tuple (PV.pds l)) y u (hK ▸ hq.dp (.tup l) _ _ (by simpa [PV.data] using c2)) ry
      exact SeqAt.notIn_tuple_reads r2 r1 (SeqAt.canLay_of_shaped c4) (SeqAt.canLay_of_shaped c3) (room_in_shaped c3 hu) ⟨.bl _, H, I, rfl, k⟩
    · cases e
  | _ => simp [cmpop] at e
theorem op_cmpP (op : CmpOp) (hK : G.K = X.K) (hu : X.A.units + 65 < cLine) : OpR X (compareOp op) (rCmp G op) := by
  cases op with
  | Eq => exact op_eqP hK (by omega)
  | NotEq => exact op_neP hK (by omega)
  | Lt => exact op_ltP hK (by omega)
  | LtE => exact op_leP hK (by omega)
  | Gt => exact op_gtP hK (by omega)
  | GtE => exact op_geP hK (by omega)
  | Is => exact op_isP
  | IsNot => exact op_isnP
  | In => exact op_inP hK hu
  | NotIn => exact op_ninP hK hu
end
end Ev

/-! EvE5: comparisons in place, truth, and, or, not, if. -/
namespace Ev
open PySem PySem.Spec PyProof.Rows L2
section
variable {X : Cx} {R : Fr0} {W : WXX} {σ : St} {H H1 : Hp} {F F1 : Nat → List Addr} {env env1 : Env} {Q1 : VK} {QT Q : Bool → Hp → Prop} {kd kd1 kd2 kd3 : Kd} {nor n1 n2 n3 : Bool}
theorem okT.bind {r : Res (PV × Env)} {k : PV × Env → Res (PV × Env)} (s0 : Step R.ms H F H1 F1) (h : okT R W nor σ H F env Q (r.bind k))
    (step : ∀ q v H2 F2 fp, r = .ok q → EnvOk R σ H2 F2 q.2 → Step R.ms H1 F1 H2 F2 → ValOk R kd1 H1 F1 H2 F2 q.1 v fp → Nor kd1.nor H1 F1 env1 H2 F2 q.2 → okT R W nor σ H F env Q (k q) → Q1 v H2) :
    okR R W kd1 σ H1 F1 env1 Q1 r := by
  cases r with
  | ok q => exact fun v H2 F2 fp k1 k2 k3 k4 => step q v H2 F2 fp rfl k1 k2 k3 k4 h
  | raise c x e => exact fun d H2 F2 k1 k2 k3 => h d H2 F2 k1 (s0.trans k2) k3
  | fail => exact h
theorem okT.ofO {α : Type} {o : Option α} {k : α → Res (PV × Env)} (h : okT R W nor σ H F env Q ((Ev.ofO o).bind k)) : ∃ x, o = some x ∧ okT R W nor σ H F env Q (k x) := by
  cases o with
  | none => exact h.elim
  | some x => exact ⟨x, rfl, h⟩
theorem okT.bindT {r : Res (PV × Env)} {k : Bool → PV × Env → Res (PV × Env)} (s0 : Step R.ms H F H1 F1) (h : okT R W nor σ H F env Q (r.bind fun q => (Ev.ofO (truth q.1)).bind fun b => k b q))
    (step : ∀ b q H2 F2, r = .ok q → truth q.1 = some b → EnvOk R σ H2 F2 q.2 → Step R.ms H1 F1 H2 F2 → Nor n1 H1 F1 env1 H2 F2 q.2 → okT R W nor σ H F env Q (k b q) → QT b H2) :
    okT R W n1 σ H1 F1 env1 QT r := by
  cases r with
  | ok q =>
    obtain ⟨b, e, h'⟩ := okT.ofO (show okT R W nor σ H F env Q ((_root_.Ev.ofO (truth q.1)).bind fun b => k b q) from h)
    exact ⟨b, e, fun H2 F2 k1 k2 k3 => step b q H2 F2 rfl e k1 k2 k3 h'⟩
  | raise c x e => exact fun d H2 F2 k1 k2 k3 => h d H2 F2 k1 (s0.trans k2) k3
  | fail => exact h
/-- the end of a test -/
theorem okT.done {p : PV} {b : Bool} {n : Bool} (h : okT R W nor σ H F env Q (.ok (p, env1))) (e : truth p = some b) (k : EnvOk R σ H1 F1 env1) (s : Step R.ms H F H1 F1) (nr : Nor n H F env H1 F1 env1) (hn : nor = true → n = true) : Q b H1 := by
  obtain ⟨b', e', h'⟩ := h
  have e2 : truth p = some b' := e'
  rw [e] at e2
  cases e2
  exact h' H1 F1 k s fun z => nr (hn z)

theorem tru_of {p : PV} {x : V} {fp : List Addr} {b : Bool} (h : RepF R.G H p x fp) (e : truth p = some b) : TruV R.G.K x H b := by
  cases p with
  | undef => exact h.elim
  | non => rw [h.1]; cases e; rfl
  | bl c => rw [h.1]; cases e; rfl
  | int c => rw [h.1]; cases e; rfl
  | str c =>
    rw [h.1]
    simp only [truth] at e
    split at e
    · cases e
      refine ⟨‹_›, ?_⟩
      cases z : c.length with
      | zero => rfl
      | succ n =>
        show (n + 1 != 0) = (((n + 1 : Nat) : Int) != 0)
        rw [show (n + 1 != 0) = true from rfl]
        symm
        rw [bne_iff_ne]
        omega
    · cases e
  | tup l =>
    obtain ⟨a, vs, rfl, ha, hl⟩ := h
    cases e
    refine .inr (.inl ⟨vs, ha, ?_⟩)
    cases l with
    | nil => rw [hl.1]; rfl
    | cons y l => obtain ⟨y, vs', f, f', rfl, _⟩ := hl; rfl
  | lst l =>
    obtain ⟨a, vs, f, rfl, ha, hl, _⟩ := h
    cases e
    refine .inl ⟨vs, .of ha, ?_⟩
    cases l with
    | nil => rw [hl.1]; rfl
    | cons y l => obtain ⟨y, vs', f, f', rfl, _⟩ := hl; rfl
  | fn k => simp [truth] at e
  | scr k => simp [truth] at e
  | exc c k => simp [truth] at e
/-- expressions whose test is their value's truth -/
def plainT : Expr → Bool
  | .UnaryOp .Not _ _ => false
  | .BoolOp _ _ _ => false
  | .IfExp _ _ _ _ => false
  | .Compare _ _ _ _ => false
  | _ => true
theorem plainT_is {ex : Expr} (h : plainT ex = true) (env : PySem.Env) : ∀ whole, isTrue ex env whole = (do let v ← whole; standAt ex.pos; holding [v] (truthy v)) := by
  intro whole
  cases ex with
  | UnaryOp op a p => cases op <;> first | rfl | cases h
  | BoolOp => cases h
  | IfExp => cases h
  | Compare => cases h
  | _ => rfl
theorem ev_tru {ex : Expr} {ev : Env → Res (PV × Env)} (hK : R.G.K = X.K) (hp : plainT ex = true) (he : PE X ex (rdE R W kd ev)) : PT X ex (rdT R W kd.nor ev) :=
  PT.by (pt_truth he (plainT_is hp _)) fun σ H Q F env k h => ⟨F, env, k, by
    cases e : ev env with
    | ok q =>
      rw [e] at h
      obtain ⟨b, e1, h1⟩ := h
      exact fun v H2 F2 fp k2 s2 v2 nr => ⟨b, hK ▸ tru_of v2.rep e1, h1 H2 F2 k2 s2 nr⟩
    | raise c x e' => rw [e] at h; exact h
    | fail => rw [e] at h; exact h⟩

/-! ### not -/
theorem ev_not {a : Expr} {pos : Pos} {ev : Env → Res (PV × Env)} (hK : R.G.K = X.K) (ha : PE X a (rdE R W kd1 ev)) : PE X (.UnaryOp .Not a pos) (rdE R W ⟨true, true, true, kd1.nor⟩ fun env => (ev env).bind fun r => (ofO (truth r.1)).bind fun b => .ok (.bl (!b), r.2)) :=
  PE.by (pe_notT ha) fun σ H Q F env k h => ⟨F, env, k, okR.bind Step.refl h fun q v H2 F2 fp _ k2 s2 v2 nr h2 => by
    obtain ⟨b, e, h3⟩ := okR.ofO h2
    exact ⟨b, hK ▸ tru_of v2.rep e, okR.flat h3 k2 s2 nr (fun z => z) ⟨rfl, rfl⟩⟩⟩
theorem ev_notT {a : Expr} {pos : Pos} {ev : Env → Res (PV × Env)} (ha : PT X a (rdT R W n1 ev)) : PT X (.UnaryOp .Not a pos) (rdT R W n1 fun env => (ev env).bind fun r => (ofO (truth r.1)).bind fun b => .ok (.bl (!b), r.2)) :=
  PT.by (pt_not ha) fun σ H Q F env k h => ⟨F, env, k, okT.bindT (k := fun b q => .ok (.bl (!b), q.2)) Step.refl h fun b q H2 F2 _ _ k2 s2 nr h2 => okT.done h2 rfl k2 s2 nr fun z => z⟩

/-! ### comparisons -/
theorem stb_two {H2 H3 : Hp} {F2 F3 : Nat → List Addr} {p q : PV} {x y : V} {fp fq : List Addr} (v1 : ValOk R kd1 H F H2 F2 p x fp) (s2 : Step R.ms H2 F2 H3 F3) (v2 : ValOk R kd2 H2 F2 H3 F3 q y fq) (c : (kd1.stb && kd2.stb) = true) : ∀ a ∈ fp ++ fq, ¬ OW R.ms F3 a := fun a ha => by
  obtain ⟨c1, c2⟩ := Bool.and_eq_true_iff.mp c
  rcases List.mem_append.mp ha with z | z
  · exact fun w => by
      rcases s2.ow a w with w | w
      · exact v1.st c1 a z w
      · exact RepF.there _ _ _ v1.rep a z w
  · exact v2.st c2 a z
theorem ev_cmp {a b : Expr} {op : CmpOp} {pos : Pos} {eva evb : Env → Res (PV × Env)} (hK : R.G.K = X.K) (hu : X.A.units + 65 < cLine) (ha : PE X a (rdE R W kd1 eva)) (hb : PE X b (rdE R W kd2 evb)) (hc : (kd1.stb || kd2.nor) = true) (hm : behindInMarks op b = false) :
    PE X (.Compare a [op] [b] pos) (rdE R W ⟨true, true, true, kd1.nor && kd2.nor⟩ fun env => (eva env).bind fun r => (evb r.2).bind fun q => (ofO (cmpop op r.1 q.1)).bind fun x => .ok (.bl x, q.2)) :=
  PE.by (pe_cmpR (op_cmpP op hK hu) ha hb hm) fun σ H Q F env k h => by
    refine ⟨F, env, k, okR.bind Step.refl h fun p x H1 F1 fp _ k1 s1 v1 m1 h1 => ?_⟩
    refine ⟨F1, p.2, k1, okR.bind s1 h1 fun q y H2 F2 fq _ k2 s2 v2 m2 h2 => ?_⟩
    obtain ⟨z, e, h3⟩ := okR.ofO h2
    exact ⟨p.1, q.1, z, fp, fq, v1.held k1 s2 m2 hc, v2.rep, k2.lok, e, okR.flat h3 k2 (s1.trans s2) (Nor.trans m1 m2) (fun z => z) ⟨rfl, rfl⟩⟩
theorem ev_cmpT {a b : Expr} {op : CmpOp} {pos : Pos} {eva evb : Env → Res (PV × Env)} (hK : R.G.K = X.K) (hu : X.A.units + 65 < cLine) (ha : PE X a (rdE R W kd1 eva)) (hb : PE X b (rdE R W kd2 evb)) (hc : (kd1.stb || kd2.nor) = true) (hm : behindInMarks op b = false) :
    PT X (.Compare a [op] [b] pos) (rdT R W (kd1.nor && kd2.nor) fun env => (eva env).bind fun r => (evb r.2).bind fun q => (ofO (cmpop op r.1 q.1)).bind fun x => .ok (.bl x, q.2)) :=
  PT.by (pt_cmpR (op_cmpP op hK hu) ha hb hm) fun σ H Q F env k h => by
    refine ⟨F, env, k, okT.bind Step.refl h fun p x H1 F1 fp _ k1 s1 v1 m1 h1 => ?_⟩
    refine ⟨F1, p.2, k1, okT.bind s1 h1 fun q y H2 F2 fq _ k2 s2 v2 m2 h2 => ?_⟩
    obtain ⟨z, e, h3⟩ := okT.ofO h2
    exact ⟨p.1, q.1, z, fp, fq, v1.held k1 s2 m2 hc, v2.rep, k2.lok, e, z, rfl, okT.done h3 rfl k2 (s1.trans s2) (Nor.trans m1 m2) fun z => z⟩
/-- a op b op c -/
theorem ev_cmp2 {a b c : Expr} {o1 o2 : CmpOp} {pos : Pos} {eva evb evc : Env → Res (PV × Env)} (hK : R.G.K = X.K) (hu : X.A.units + 65 < cLine) (ha : PE X a (rdE R W kd1 eva)) (hb : PE X b (rdE R W kd2 evb)) (hc : PE X c (rdE R W kd3 evc))
    (hs : (kd1.stb || kd2.nor) = true) (hs2 : (kd2.stb || kd3.nor) = true) (hm : lastMarks [o1, o2] [b, c] = false) :
    PE X (.Compare a [o1, o2] [b, c] pos) (rdE R W ⟨true, true, true, kd1.nor && kd2.nor && kd3.nor⟩ fun env => (eva env).bind fun r => (evb r.2).bind fun q => (ofO (cmpop o1 r.1 q.1)).bind fun x =>
      if x = true then (evc q.2).bind fun p => (ofO (cmpop o2 q.1 p.1)).bind fun y => .ok (.bl y, p.2) else .ok (.bl false, q.2)) :=
  PE.by (pe_chain (op_cmpP o1 hK hu) (op_cmpP o2 hK hu) ha hb hc hm) fun σ H Q F env k h => by
    refine ⟨F, env, k, okR.bind Step.refl h fun p x H1 F1 fp _ k1 s1 v1 m1 h1 => ?_⟩
    refine ⟨F1, p.2, k1, okR.bind s1 h1 fun q y H2 F2 fq _ k2 s2 v2 m2 h2 => ?_⟩
    obtain ⟨z, e, h3⟩ := okR.ofO h2
    refine ⟨p.1, q.1, z, fp, fq, v1.held k1 s2 m2 hs, v2.rep, k2.lok, e, z, rfl, ?_⟩
    cases z with
    | false =>
      rw [if_neg Bool.false_ne_true] at h3
      rw [if_neg Bool.false_ne_true]
      exact okR.flat h3 k2 (s1.trans s2) (Nor.trans m1 m2) (fun z => (Bool.and_eq_true_iff.mp z).1) ⟨rfl, rfl⟩
    | true =>
      rw [if_pos rfl] at h3
      rw [if_pos rfl]
      refine ⟨F2, q.2, k2, okR.bind (s1.trans s2) h3 fun p3 w H3 F3 fr _ k3 s3 v3 m3 h4 => ?_⟩
      obtain ⟨z3, e3, h5⟩ := okR.ofO h4
      exact ⟨q.1, p3.1, z3, fq, fr, v2.held k2 s3 m3 hs2, v3.rep, k3.lok, e3, okR.flat h5 k3 ((s1.trans s2).trans s3) (Nor.trans (Nor.trans m1 m2) m3) (fun z => z) ⟨rfl, rfl⟩⟩
theorem ev_cmp2T {a b c : Expr} {o1 o2 : CmpOp} {pos : Pos} {eva evb evc : Env → Res (PV × Env)} (hK : R.G.K = X.K) (hu : X.A.units + 65 < cLine) (ha : PE X a (rdE R W kd1 eva)) (hb : PE X b (rdE R W kd2 evb)) (hc : PE X c (rdE R W kd3 evc))
    (hs : (kd1.stb || kd2.nor) = true) (hs2 : (kd2.stb || kd3.nor) = true) (hm : lastMarks [o1, o2] [b, c] = false) :
    PT X (.Compare a [o1, o2] [b, c] pos) (rdT R W (kd1.nor && kd2.nor && kd3.nor) fun env => (eva env).bind fun r => (evb r.2).bind fun q => (ofO (cmpop o1 r.1 q.1)).bind fun x =>
      if x = true then (evc q.2).bind fun p => (ofO (cmpop o2 q.1 p.1)).bind fun y => .ok (.bl y, p.2) else .ok (.bl false, q.2)) :=
  PT.by (pt_chain (op_cmpP o1 hK hu) (op_cmpP o2 hK hu) ha hb hc hm) fun σ H Q F env k h => by
    refine ⟨F, env, k, okT.bind Step.refl h fun p x H1 F1 fp _ k1 s1 v1 m1 h1 => ?_⟩
    refine ⟨F1, p.2, k1, okT.bind s1 h1 fun q y H2 F2 fq _ k2 s2 v2 m2 h2 => ?_⟩
    obtain ⟨z, e, h3⟩ := okT.ofO h2
    refine ⟨p.1, q.1, z, fp, fq, v1.held k1 s2 m2 hs, v2.rep, k2.lok, e, z, rfl, ?_⟩
    cases z with
    | false =>
      rw [if_neg Bool.false_ne_true] at h3
      rw [if_neg Bool.false_ne_true]
      exact ⟨false, rfl, okT.done h3 rfl k2 (s1.trans s2) (Nor.trans m1 m2) (fun z => (Bool.and_eq_true_iff.mp z).1)⟩
    | true =>
      rw [if_pos rfl] at h3
      rw [if_pos rfl]
      refine ⟨F2, q.2, k2, okT.bind (s1.trans s2) h3 fun p3 w H3 F3 fr _ k3 s3 v3 m3 h4 => ?_⟩
      obtain ⟨z3, e3, h5⟩ := okT.ofO h4
      exact ⟨q.1, p3.1, z3, fq, fr, v2.held k2 s3 m3 hs2, v3.rep, k3.lok, e3, z3, rfl, okT.done h5 rfl k3 ((s1.trans s2).trans s3) (Nor.trans (Nor.trans m1 m2) m3) fun z => z⟩

/-! ### and, or -/
/-- the rest of a run stands for the whole of it -/
theorem okR.sub {p : Res (PV × Env)} {Q : VK} (s0 : Step R.ms H F H1 F1) (m0 : Nor n1 H F env H1 F1 env1) (h : okR R W kd σ H F env Q p) (hn : kd.nor = true → n1 = true ∧ kd1.nor = true)
    (ho : kd.own = true → kd1.own = true ∧ n1 = true) (hs : kd.stb = true → kd1.stb = true) (ht : kd.top = true → kd1.top = true) : okR R W kd1 σ H1 F1 env1 Q p := by
  cases p with
  | ok q =>
    refine fun v H2 F2 fp k2 s2 v2 m2 => h v H2 F2 fp k2 (s0.trans s2) ⟨v2.rep, v2.old, fun z => v2.st (hs z), fun z => v2.nd (ho z).1, fun z => v2.mu (ho z).1, fun z => v2.fr (ho z).1, fun z a ha => ?_, fun z => v2.h0 (ho z).1, fun z l e => ?_⟩ fun z => ?_
    · obtain ⟨e1, e2, e3⟩ := m0 (ho z).2
      rcases v2.nw (ho z).1 a ha with w | w
      · rw [e1] at w; exact .inl w
      · exact .inr (s0.dom a w)
    · obtain ⟨a, vs, f, e1, e2, e3, e4, e5, e6⟩ := v2.tp (ht z) l e
      exact ⟨a, vs, f, e1, e2, e3, s0.dom a e4, e5, e6⟩
    · obtain ⟨z1, z2⟩ := hn z
      obtain ⟨e1, e2, e3⟩ := m0 z1
      obtain ⟨e4, e5, e6⟩ := m2 z2
      exact ⟨e4.trans e1, e5.trans e2, fun a o e => e6 a o (e3 a o e)⟩
  | raise c x e => exact fun d H2 F2 k2 s2 => h d H2 F2 k2 (s0.trans s2)
  | fail => exact h
theorem okT.sub {p : Res (PV × Env)} (s0 : Step R.ms H F H1 F1) (m0 : Nor n1 H F env H1 F1 env1) (h : okT R W nor σ H F env Q p) (hn : nor = true → n1 = true ∧ n2 = true) : okT R W n2 σ H1 F1 env1 Q p := by
  cases p with
  | ok q =>
    obtain ⟨b, e, h⟩ := h
    refine ⟨b, e, fun H2 F2 k2 s2 m2 => h H2 F2 k2 (s0.trans s2) fun z => ?_⟩
    obtain ⟨z1, z2⟩ := hn z
    obtain ⟨e1, e2, e3⟩ := m0 z1
    obtain ⟨e4, e5, e6⟩ := m2 z2
    exact ⟨e4.trans e1, e5.trans e2, fun a o e => e6 a o (e3 a o e)⟩
  | raise c x e => exact fun d H2 F2 k2 s2 => h d H2 F2 k2 (s0.trans s2)
  | fail => exact h
abbrev evAnd (eva evb : Env → Res (PV × Env)) : Env → Res (PV × Env) := fun env => (eva env).bind fun r => (ofO (truth r.1)).bind fun t => if t = true then evb r.2 else .ok r
abbrev evOr (eva evb : Env → Res (PV × Env)) : Env → Res (PV × Env) := fun env => (eva env).bind fun r => (ofO (truth r.1)).bind fun t => if t = true then .ok r else evb r.2
theorem ev_and {a b : Expr} {rest : List Expr} {pos : Pos} {eva evb : Env → Res (PV × Env)} (hK : R.G.K = X.K) (ha : PE X a (rdE R W kd1 eva)) (hb : PE X (.BoolOp .And (b :: rest) pos) (rdE R W kd2 evb)) :
    PE X (.BoolOp .And (a :: b :: rest) pos) (rdE R W ⟨false, kd1.stb && kd2.stb, false, kd1.nor && kd2.nor⟩ (evAnd eva evb)) :=
  PE.by (pe_andT ha hb) fun σ H Q F env k h => ⟨F, env, k, okR.bind Step.refl h fun q v H2 F2 fp _ k2 s2 v2 nr h2 => by
    obtain ⟨t, e, h3⟩ := okR.ofO h2
    refine ⟨t, hK ▸ tru_of v2.rep e, ?_⟩
    cases t with
    | true =>
      rw [if_pos rfl] at h3 ⊢
      exact ⟨F2, q.2, k2, okR.sub s2 nr h3 (fun z => Bool.and_eq_true_iff.mp z) nofun (fun z => (Bool.and_eq_true_iff.mp z).2) nofun⟩
    | false =>
      rw [if_neg Bool.false_ne_true] at h3 ⊢
      exact h3 v H2 F2 fp k2 s2 ⟨v2.rep, v2.old, fun z => v2.st (Bool.and_eq_true_iff.mp z).1, nofun, nofun, nofun, nofun, nofun, nofun⟩ fun z => nr (Bool.and_eq_true_iff.mp z).1⟩
theorem ev_or {a b : Expr} {rest : List Expr} {pos : Pos} {eva evb : Env → Res (PV × Env)} (hK : R.G.K = X.K) (ha : PE X a (rdE R W kd1 eva)) (hb : PE X (.BoolOp .Or (b :: rest) pos) (rdE R W kd2 evb)) :
    PE X (.BoolOp .Or (a :: b :: rest) pos) (rdE R W ⟨false, kd1.stb && kd2.stb, false, kd1.nor && kd2.nor⟩ (evOr eva evb)) :=
  PE.by (pe_orT ha hb) fun σ H Q F env k h => ⟨F, env, k, okR.bind Step.refl h fun q v H2 F2 fp _ k2 s2 v2 nr h2 => by
    obtain ⟨t, e, h3⟩ := okR.ofO h2
    refine ⟨t, hK ▸ tru_of v2.rep e, ?_⟩
    cases t with
    | false =>
      rw [if_neg Bool.false_ne_true] at h3 ⊢
      exact ⟨F2, q.2, k2, okR.sub s2 nr h3 (fun z => Bool.and_eq_true_iff.mp z) nofun (fun z => (Bool.and_eq_true_iff.mp z).2) nofun⟩
    | true =>
      rw [if_pos rfl] at h3 ⊢
      exact h3 v H2 F2 fp k2 s2 ⟨v2.rep, v2.old, fun z => v2.st (Bool.and_eq_true_iff.mp z).1, nofun, nofun, nofun, nofun, nofun, nofun⟩ fun z => nr (Bool.and_eq_true_iff.mp z).1⟩
theorem PW.imp {e : Expr} {t t' : TT} (h : PW X e t) (k : ∀ σ H Q, t' σ H Q → t σ H Q) : PW X e t' := ⟨fun w pins s σ H Q I q => h.run w pins s σ H Q I (k σ H Q q)⟩
theorem ev_andW {a b : Expr} {rest : List Expr} {pos : Pos} {eva evb : Env → Res (PV × Env)} (ha : PT X a (rdT R W n1 eva)) (hb : PW X (.BoolOp .And (b :: rest) pos) (rdT R W n2 evb)) :
    PW X (.BoolOp .And (a :: b :: rest) pos) (rdT R W (n1 && n2) (evAnd eva evb)) :=
  PW.imp (pw_and ha hb) fun σ H Q ⟨F, env, k, h⟩ => ⟨F, env, k, okT.bindT (k := fun t r => if t = true then evb r.2 else .ok r) Step.refl h fun t q H2 F2 _ e k2 s2 nr h3 => by
    cases t with
    | true =>
      rw [if_pos rfl] at h3 ⊢
      exact ⟨F2, q.2, k2, okT.sub s2 nr h3 fun z => Bool.and_eq_true_iff.mp z⟩
    | false =>
      rw [if_neg Bool.false_ne_true] at h3 ⊢
      exact okT.done h3 e k2 s2 nr fun z => (Bool.and_eq_true_iff.mp z).1⟩
theorem ev_orW {a b : Expr} {rest : List Expr} {pos : Pos} {eva evb : Env → Res (PV × Env)} (ha : PT X a (rdT R W n1 eva)) (hb : PW X (.BoolOp .Or (b :: rest) pos) (rdT R W n2 evb)) :
    PW X (.BoolOp .Or (a :: b :: rest) pos) (rdT R W (n1 && n2) (evOr eva evb)) :=
  PW.imp (pw_or ha hb) fun σ H Q ⟨F, env, k, h⟩ => ⟨F, env, k, okT.bindT (k := fun t r => if t = true then .ok r else evb r.2) Step.refl h fun t q H2 F2 _ e k2 s2 nr h3 => by
    cases t with
    | false =>
      rw [if_neg Bool.false_ne_true] at h3 ⊢
      exact ⟨F2, q.2, k2, okT.sub s2 nr h3 fun z => Bool.and_eq_true_iff.mp z⟩
    | true =>
      rw [if_pos rfl] at h3 ⊢
      exact okT.done h3 e k2 s2 nr fun z => (Bool.and_eq_true_iff.mp z).1⟩
/-! ### a if c else b -/
theorem ev_ife {c a b : Expr} {pos : Pos} {evc eva evb : Env → Res (PV × Env)} (hc : PT X c (rdT R W n3 evc)) (ha : PE X a (rdE R W kd1 eva)) (hb : PE X b (rdE R W kd2 evb)) :
    PE X (.IfExp c a b pos) (rdE R W ⟨kd1.own && kd2.own && n3, kd1.stb && kd2.stb, kd1.top && kd2.top, n3 && kd1.nor && kd2.nor⟩ fun env => (evc env).bind fun r => (ofO (truth r.1)).bind fun t => if t = true then eva r.2 else evb r.2) :=
  PE.by (pe_ifExp hc ha hb) fun σ H Q F env k h => ⟨F, env, k, okR.bindT (k := fun t r => if t = true then eva r.2 else evb r.2) Step.refl h fun t q H2 F2 _ k2 s2 nr h3 => by
    cases t with
    | true =>
      rw [if_pos rfl] at h3 ⊢
      refine ⟨F2, q.2, k2, okR.sub s2 nr h3 (fun z => ?_) (fun z => ?_) (fun z => (Bool.and_eq_true_iff.mp z).1) fun z => (Bool.and_eq_true_iff.mp z).1⟩
      · obtain ⟨z, _⟩ := Bool.and_eq_true_iff.mp z
        exact Bool.and_eq_true_iff.mp z
      · obtain ⟨z, z3⟩ := Bool.and_eq_true_iff.mp z
        exact ⟨(Bool.and_eq_true_iff.mp z).1, z3⟩
    | false =>
      rw [if_neg Bool.false_ne_true] at h3 ⊢
      refine ⟨F2, q.2, k2, okR.sub s2 nr h3 (fun z => ?_) (fun z => ?_) (fun z => (Bool.and_eq_true_iff.mp z).2) fun z => (Bool.and_eq_true_iff.mp z).2⟩
      · obtain ⟨z, z2⟩ := Bool.and_eq_true_iff.mp z
        exact ⟨(Bool.and_eq_true_iff.mp z).1, z2⟩
      · obtain ⟨z, z3⟩ := Bool.and_eq_true_iff.mp z
        exact ⟨(Bool.and_eq_true_iff.mp z).2, z3⟩⟩
/-! ### -a -/
theorem ev_neg {a : Expr} {pos : Pos} {eva : Env → Res (PV × Env)} (ha : PE X a (rdE R W kd1 eva)) : PE X (.UnaryOp .USub a pos) (rdE R W ⟨true, true, true, kd1.nor⟩ fun env => (eva env).bind fun r => match r.1 with
    | .int i => .ok (.int (-i), r.2)
    | _ => .fail) :=
  PE.by (pe_un un_neg ha) fun σ H Q F env k h => ⟨F, env, k, okR.bind Step.refl h fun q v H2 F2 fp _ k2 s2 v2 nr h2 => by
    obtain ⟨p, env2⟩ := q
    cases p with
    | int i => exact ⟨i, v2.rep.1, okR.flat h2 k2 s2 nr (fun z => z) ⟨rfl, rfl⟩⟩
    | _ => exact h2.elim⟩
end
end Ev

/-! EvE6: rows of arguments, displays, built-ins, items, slices. -/
namespace Ev
open PySem PySem.Spec PyProof.Rows L2
/-- no star stands in the row -/
def noStar : Expr → Bool
  | .Starred _ _ => false
  | _ => true
theorem star_cons {e : Expr} {es : List Expr} (h : noStar e = true) (env : PySem.Env) : starEach (e :: es) env = (false, eval e env) :: starEach es env := by
  cases e <;> first | rfl | cases h
theorem star_none : ∀ {es : List Expr}, es.all noStar = true → ∀ (env : PySem.Env) (pos : Pos), (backTo pos (starEach es env)).any (·.1) = false
  | [], _, _, _ => rfl
  | e :: es, h, env, pos => by
    have h' : noStar e = true ∧ es.all noStar = true := by simpa using h
    rw [star_cons h'.1]
    show (false || (backTo pos (starEach es env)).any (·.1)) = false
    rw [star_none h'.2]
    rfl
section
variable {X : Cx} {R : Fr0} {W : WXX} {σ : St} {H H1 : Hp} {F F1 : Nat → List Addr} {env env1 : Env} {Q1 : VK} {Q : List V → Hp → Prop} {kd kd1 kd2 kd3 : Kd} {own stb nor o1 s1 n1 : Bool}
theorem okA.bind {r : Res (PV × Env)} {k : PV × Env → Res (List PV × Env)} (s0 : Step R.ms H F H1 F1) (h : okA R W own stb nor σ H F env Q (r.bind k))
    (step : ∀ q v H2 F2 fp, r = .ok q → EnvOk R σ H2 F2 q.2 → Step R.ms H1 F1 H2 F2 → ValOk R kd1 H1 F1 H2 F2 q.1 v fp → Nor kd1.nor H1 F1 env1 H2 F2 q.2 → okA R W own stb nor σ H F env Q (k q) → Q1 v H2) :
    okR R W kd1 σ H1 F1 env1 Q1 r := by
  cases r with
  | ok q => exact fun v H2 F2 fp k1 k2 k3 k4 => step q v H2 F2 fp rfl k1 k2 k3 k4 h
  | raise c x e => exact fun d H2 F2 k1 k2 k3 => h d H2 F2 k1 (s0.trans k2) k3
  | fail => exact h
theorem okA.bindA {QA : List V → Hp → Prop} {r : Res (List PV × Env)} {k : List PV × Env → Res (List PV × Env)} (s0 : Step R.ms H F H1 F1) (h : okA R W own stb nor σ H F env Q (r.bind k))
    (step : ∀ q vs H2 F2 fp, r = .ok q → EnvOk R σ H2 F2 q.2 → Step R.ms H1 F1 H2 F2 → RowOk R o1 s1 H1 F1 H2 F2 q.1 vs fp → Nor n1 H1 F1 env1 H2 F2 q.2 → okA R W own stb nor σ H F env Q (k q) → QA vs H2) :
    okA R W o1 s1 n1 σ H1 F1 env1 QA r := by
  cases r with
  | ok q => exact fun v H2 F2 fp k1 k2 k3 k4 => step q v H2 F2 fp rfl k1 k2 k3 k4 h
  | raise c x e => exact fun d H2 F2 k1 k2 k3 => h d H2 F2 k1 (s0.trans k2) k3
  | fail => exact h
theorem ev_anil : PA X [] (rdA R W true true true fun env => .ok ([], env)) :=
  PA.by pa_nil fun σ H Q F env k h => h [] H F [] k Step.refl RowOk.nil Nor.refl
theorem ev_acons {e : Expr} {es : List Expr} {ev : Env → Res (PV × Env)} {evs : Env → Res (List PV × Env)} (hn : noStar e = true) (he : PE X e (rdE R W kd1 ev)) (hs : PA X es (rdA R W o1 s1 n1 evs)) (hc : (kd1.stb || n1) = true) :
    PA X (e :: es) (rdA R W (kd1.own && o1) (kd1.stb && s1) (kd1.nor && n1) fun env => (ev env).bind fun r => (evs r.2).bind fun q => .ok (r.1 :: q.1, q.2)) :=
  PA.by (pa_cons he hs (star_cons hn _)) fun σ H Q F env k h => by
    refine ⟨F, env, k, okA.bind Step.refl h fun p x H1 F1 fp _ k1 st1 v1 m1 h1 => ?_⟩
    refine ⟨F1, p.2, k1, okA.bindA st1 h1 fun q ys H2 F2 fq _ k2 st2 v2 m2 h2 => ?_⟩
    have old1 : ∀ a ∈ fp, ∃ o, H1 a = some o := fun a ha => Option.ne_none_iff_exists'.mp (RepF.there _ _ _ v1.rep a ha)
    have keepOut : ∀ a, (∃ o, H1 a = some o) → (∀ j, a ∉ F1 j) → ∀ j, a ∉ F2 j := fun a ⟨o, e⟩ n j hj => by
      rcases st2.sub j a hj with z | ⟨k, _, z⟩ | z
      · exact n j z
      · exact n k z
      · rw [e] at z; cases z
    refine h2 (x :: ys) H2 F2 (fp ++ fq) k2 (st1.trans st2) ⟨RepL.cons (v1.held k1 st2 m2 hc) v2.rep, fun a ha => (List.mem_append.mp ha).elim (v1.old a) (v2.old a), fun c a ha => ?_, fun c => ?_, fun c a ha => ?_, fun c a ha => ?_, fun c a ha => ?_, fun c a ha => ?_⟩ (Nor.trans m1 m2)
    · obtain ⟨c1, c2⟩ := Bool.and_eq_true_iff.mp c
      rcases List.mem_append.mp ha with z | z
      · exact OW.none_of st2 (v1.st c1 a z) (old1 a z)
      · exact v2.st c2 a z
    · obtain ⟨c1, c2⟩ := Bool.and_eq_true_iff.mp c
      refine List.nodup_append.mpr ⟨v1.nd c1, v2.nd c2, fun a ha b hb e => ?_⟩
      subst e
      obtain ⟨o, e⟩ := old1 a ha
      rcases v2.nw c2 a hb with ⟨k, _, z⟩ | z
      · exact v1.fr c1 a ha k z
      · rw [e] at z; cases z
    · obtain ⟨c1, c2⟩ := Bool.and_eq_true_iff.mp c
      rcases List.mem_append.mp ha with z | z
      · obtain ⟨vs, e⟩ := v1.mu c1 a z
        exact ⟨vs, st2.st a _ e fun ⟨j, _, hj⟩ => v1.fr c1 a z j hj⟩
      · exact v2.mu c2 a z
    · obtain ⟨c1, c2⟩ := Bool.and_eq_true_iff.mp c
      rcases List.mem_append.mp ha with z | z
      · exact keepOut a (old1 a z) (v1.fr c1 a z)
      · exact v2.fr c2 a z
    · obtain ⟨c1, c2⟩ := Bool.and_eq_true_iff.mp c
      rcases List.mem_append.mp ha with z | z
      · exact v1.nw c1 a z
      · rcases v2.nw c2 a z with w | w
        · exact st1.ow a w
        · exact .inr (st1.dom a w)
    · obtain ⟨c1, c2⟩ := Bool.and_eq_true_iff.mp c
      rcases List.mem_append.mp ha with z | z
      · exact v1.h0 c1 a z
      · exact v2.h0 c2 a z

/-! ### displays -/
/-- the lists of a new object are new -/
theorem nf_of (k : EnvOk R σ H1 F1 env1) {a : Addr} (e : H1 a = none) : ∀ j, a ∉ F1 j := fun j hj => by
  cases ep : env1.getD j .undef with
  | undef => rw [k.non j ep] at hj; simp at hj
  | _ =>
    obtain ⟨v, _, r⟩ := k.slot j _ (getD_of ep nofun) nofun
    exact RepF.there _ _ _ r a hj e
theorem ev_tup {es : List Expr} {x1 : Nat} {pos : Pos} {evs : Env → Res (List PV × Env)} (ha : PA X es (rdA R W o1 s1 n1 evs)) (hl : ∀ env r, evs env = .ok r → r.1.length ≤ sizeLine) :
    PE X (.Tuple es x1 pos) (rdE R W ⟨o1, s1, true, n1⟩ fun env => (evs env).bind fun r => .ok (.tup r.1, r.2)) :=
  PE.by (pe_tup ha) fun σ H Q F env k h => ⟨F, env, k, okR.bindA Step.refl h fun q vs H2 F2 fp e k2 s2 v2 nr h2 => by
    have hz : vs.length ≤ sizeLine := by rw [v2.rep.length]; exact hl _ _ e
    refine ⟨hz, fun p hp => ?_⟩
    have sm := same_upd (H := H2) (o := .tup vs) hp
    refine h2 _ _ F2 fp (k2.same sm (lok_tup k2.lok hz)) (s2.trans (Step.same sm)) ⟨⟨p, vs, rfl, .of upd_same, v2.rep.same sm⟩, v2.old, v2.st, v2.nd, fun c a ha => ?_, v2.fr, v2.nw, v2.h0, fun _ _ e => nomatch e⟩ fun c => ?_
    · obtain ⟨us, e⟩ := v2.mu c a ha
      exact ⟨us, sm _ _ e⟩
    · obtain ⟨e1, e2, e3⟩ := nr c
      exact ⟨e1, e2, fun a o e => sm _ _ (e3 a o e)⟩⟩
theorem ev_lst {es : List Expr} {pos : Pos} {evs : Env → Res (List PV × Env)} (ha : PA X es (rdA R W o1 s1 n1 evs)) (hl : ∀ env r, evs env = .ok r → r.1.length ≤ sizeLine) :
    PE X (.List es pos) (rdE R W ⟨o1, s1, true, n1⟩ fun env => (evs env).bind fun r => .ok (.lst r.1, r.2)) :=
  PE.by (pe_lst ha) fun σ H Q F env k h => ⟨F, env, k, okR.bindA Step.refl h fun q vs H2 F2 fp e k2 s2 v2 nr h2 => by
    have hz : vs.length ≤ sizeLine := by rw [v2.rep.length]; exact hl _ _ e
    refine ⟨hz, fun p hp => ?_⟩
    have sm := same_upd (H := H2) (o := .lst vs) hp
    have nf := nf_of k2 hp
    have h0 := (k2.dom p hp).1
    have hA := (k2.dom p hp).2
    have out : p ∉ fp := fun z => RepL.there _ _ _ v2.rep p z hp
    refine h2 _ _ F2 (p :: fp) (k2.same sm (lok_lst k2.lok hz)) (s2.trans (Step.same sm)) ⟨RepF.new upd_same (v2.rep.same sm), fun a ha => ?_, fun c a ha => ?_, fun c => ?_, fun c a ha => ?_, fun c a ha => ?_, fun c a ha => ?_, fun c a ha => ?_, fun _ l e => ?_⟩ fun c => ?_
    · rcases List.mem_cons.mp ha with rfl | z
      · exact hA
      · exact v2.old a z
    · rcases List.mem_cons.mp ha with rfl | z
      · exact fun ⟨j, _, hj⟩ => nf j hj
      · exact v2.st c a z
    · exact List.nodup_cons.mpr ⟨out, v2.nd c⟩
    · rcases List.mem_cons.mp ha with rfl | z
      · exact ⟨vs, upd_same⟩
      · obtain ⟨us, e⟩ := v2.mu c a z
        exact ⟨us, sm _ _ e⟩
    · rcases List.mem_cons.mp ha with rfl | z
      · exact nf
      · exact v2.fr c a z
    · rcases List.mem_cons.mp ha with rfl | z
      · exact .inr (s2.dom _ hp)
      · exact v2.nw c a z
    · rcases List.mem_cons.mp ha with rfl | z
      · exact h0
      · exact v2.h0 c a z
    · cases e
      exact ⟨p, vs, fp, rfl, upd_same, v2.rep.same sm, s2.dom _ hp, nf, h0⟩
    · obtain ⟨e1, e2, e3⟩ := nr c
      exact ⟨e1, e2, fun a o e => sm _ _ (e3 a o e)⟩⟩

/-! ### built-ins -/
def rBlt (G : Gl0) (b : Blt) (t : Bool) : List V → Hp → VK → Prop := fun vs H Q => ∃ ps fp r, RepL G H ps vs fp ∧ LenOk G.K H ∧ evalB b ps = some r ∧ ∀ z H' fz, NewV G H fp r t z H' fz → Q z H'
abbrev evBlt (b : Blt) (evs : Env → Res (List PV × Env)) : Env → Res (PV × Env) := fun env => (evs env).bind fun r => (ofO (evalB b r.1)).bind fun x => .ok (x, r.2)
theorem blt_k {b : Blt} {t : Bool} {evs : Env → Res (List PV × Env)} {σ : St} {H : Hp} {F : Nat → List Addr} {env : Env} {Q : VK} (k : EnvOk R σ H F env) (h : okR R W ⟨false, s1, t, n1⟩ σ H F env Q (evBlt b evs env)) :
    rdA R W o1 s1 n1 evs σ H fun vs H1 => rBlt R.G b t vs H1 Q := ⟨F, env, k, okR.bindA Step.refl h fun q vs H2 F2 fp e k2 s2 v2 nr h2 => by
    obtain ⟨z, e, h3⟩ := okR.ofO h2
    exact ⟨q.1, fp, z, v2.rep, k2.lok, e, fun zv H' fz nv => okR.pure h3 k2 s2 nr nv v2.old v2.st rfl fun z => z⟩⟩
theorem ev_bltB {b : Blt} {t : Bool} {id : String} {x : Str} {p pos : Pos} {e : Expr} {es : List Expr} {evs : Env → Res (List PV × Env)} (hc : CallR X (.builtin id) (rBlt R.G b t)) (hg : Gl X x) (hm : X.mg x = none) (hv : bootBuiltins x = some (.builtin id)) (hs : (e :: es).all noStar = true)
    (ha : PA X (e :: es) (rdA R W o1 s1 n1 evs)) (hn : x ≠ "__name__") (hdb : (x == ("__debug__" : Str)) = false) : PE X (.Call (.Name x p) (e :: es) [] pos) (rdE R W ⟨false, s1, t, n1⟩ (evBlt b evs)) := by
  have hs' : noStar e = true ∧ es.all noStar = true := by simpa using hs
  exact PE.by (pe_callB hc hg hm hv ha hn hdb (star_cons hs'.1 _) (star_none hs'.2 _ _)) fun σ H Q F env k h => blt_k k h
theorem ev_bltT {b : Blt} {t : Bool} {id : String} {x : Str} {p pos : Pos} {e : Expr} {es : List Expr} {evs : Env → Res (List PV × Env)} (hc : CallR X (.type id) (rBlt R.G b t)) (hg : Gl X x) (hm : X.mg x = none) (hv : bootBuiltins x = some (.type id)) (hs : (e :: es).all noStar = true)
    (ha : PA X (e :: es) (rdA R W o1 s1 n1 evs)) (hn : x ≠ "__name__") (hdb : (x == ("__debug__" : Str)) = false) : PE X (.Call (.Name x p) (e :: es) [] pos) (rdE R W ⟨false, s1, t, n1⟩ (evBlt b evs)) := by
  have hs' : noStar e = true ∧ es.all noStar = true := by simpa using hs
  exact PE.by (pe_callTy hc hg hm hv ha hn hdb (star_cons hs'.1 _) (star_none hs'.2 _ _)) fun σ H Q F env k h => blt_k k h
end
/-! ### rows of one, of two -/
section
variable {G : Gl0} {H : Hp}
theorem RepL.one_inv {p : PV} {vs : List V} {fp : List Addr} (h : RepL G H [p] vs fp) : ∃ v, vs = [v] ∧ RepF G H p v fp := by
  obtain ⟨v, vs', f, f', rfl, rfl, h1, rfl, rfl⟩ := h
  exact ⟨v, rfl, by rw [List.append_nil]; exact h1⟩
theorem RepL.two_inv {p q : PV} {vs : List V} {fp : List Addr} (h : RepL G H [p, q] vs fp) : ∃ v w f g, vs = [v, w] ∧ fp = f ++ g ∧ RepF G H p v f ∧ RepF G H q w g := by
  obtain ⟨v, vs', f, f', rfl, rfl, h1, h2⟩ := h
  obtain ⟨w, rfl, h3⟩ := RepL.one_inv h2
  exact ⟨v, w, f, f', rfl, rfl, h1, h3⟩
theorem RepL.ints {l : List PV} : ∀ {ns : List Int} {vs : List V} {fp : List Addr}, asIntsP l = some ns → RepL G H l vs fp → vs = ns.map V.int := by
  induction l with
  | nil =>
    intro ns vs fp e h
    cases e
    exact h.1
  | cons p l ih =>
    intro ns vs fp e h
    obtain ⟨v, vs', f, f', rfl, rfl, h1, h2⟩ := h
    cases p <;> simp only [asIntsP, reduceCtorEq] at e
    cases e2 : asIntsP l with
    | none => rw [e2] at e; cases e
    | some ms =>
      rw [e2] at e
      cases e
      rw [ih e2 h2, h1.1]
      rfl
theorem RepL.bls {l : List PV} : ∀ {ns : List Bool} {vs : List V} {fp : List Addr}, asBlsP l = some ns → RepL G H l vs fp → vs = ns.map V.bl := by
  induction l with
  | nil =>
    intro ns vs fp e h
    cases e
    exact h.1
  | cons p l ih =>
    intro ns vs fp e h
    obtain ⟨v, vs', f, f', rfl, rfl, h1, h2⟩ := h
    cases p <;> simp only [asBlsP, reduceCtorEq] at e
    cases e2 : asBlsP l with
    | none => rw [e2] at e; cases e
    | some ms =>
      rw [e2] at e
      cases e
      rw [ih e2 h2, h1.1]
      rfl
end
section
variable {X : Cx} {G : Gl0}
theorem blt_len (hK : G.K = X.K) : CallR X (.builtin "len") (rBlt G .len true) := by
  intro pins s σ H xs us Q I rv ⟨ps, fp, r, hr, lok, e, k⟩
  match ps, e, hr with
  | [.tup l], e, hr =>
    cases e
    obtain ⟨v, rfl, a, vs, rfl, ha, hl⟩ := hr.one_inv
    refine call_len_seq pins s σ H _ us Q I rv ⟨a, vs, rfl, .inr (hK ▸ ha), ?_⟩
    rw [hl.length]
    exact k _ _ [] (NewV.flat lok ⟨rfl, rfl⟩)
  | [.lst l], e, hr =>
    cases e
    obtain ⟨v, rfl, a, vs, f, rfl, ha, hl, _⟩ := hr.one_inv
    refine call_len_seq pins s σ H _ us Q I rv ⟨a, vs, rfl, .inl (.of ha), ?_⟩
    rw [hl.length]
    exact k _ _ [] (NewV.flat lok ⟨rfl, rfl⟩)
  | [.str z], e, hr =>
    simp only [evalB] at e
    split at e
    · cases e
      obtain ⟨v, rfl, rfl, _⟩ := hr.one_inv
      exact call_len_str pins s σ H _ us Q I rv ⟨z, rfl, ‹_›, k _ _ [] (NewV.flat lok ⟨rfl, rfl⟩)⟩
    · cases e
theorem blt_tuple (hK : G.K = X.K) : CallR X (.type "tuple") (rBlt G .tuple true) := by
  intro pins s σ H xs us Q I rv ⟨ps, fp, r, hr, lok, e, k⟩
  match ps, e, hr with
  | [.tup l], e, hr =>
    cases e
    obtain ⟨v, rfl, a, vs, rfl, ha, hl⟩ := hr.one_inv
    exact call_tuple_of pins s σ H _ us Q I rv ⟨a, vs, rfl, .inr ⟨hK ▸ ha, k _ _ fp (NewV.partT lok ⟨a, vs, rfl, ha, hl⟩ fun _ z => z)⟩⟩
  | [.lst l], e, hr =>
    cases e
    obtain ⟨v, rfl, a, vs, f, rfl, ha, hl, rfl⟩ := hr.one_inv
    exact call_tuple_of pins s σ H _ us Q I rv ⟨a, vs, rfl, .inl ⟨.of ha, fun z hz => k _ _ f (NewV.tup lok hz hl (lok.1 a vs (.of ha)) fun b hb => List.mem_cons_of_mem _ hb)⟩⟩
theorem blt_list (hK : G.K = X.K) : CallR X (.type "list") (rBlt G .list true) := by
  intro pins s σ H xs us Q I rv ⟨ps, fp, r, hr, lok, e, k⟩
  match ps, e, hr with
  | [.tup l], e, hr =>
    cases e
    obtain ⟨v, rfl, a, vs, rfl, ha, hl⟩ := hr.one_inv
    exact call_list_of pins s σ H _ us Q I rv ⟨a, vs, rfl, .inr (hK ▸ ha), fun z hz => k _ _ _ (NewV.lst lok hz hl (lok.2 a vs ha) fun b hb => hb)⟩
  | [.lst l], e, hr =>
    cases e
    obtain ⟨v, rfl, a, vs, f, rfl, ha, hl, rfl⟩ := hr.one_inv
    exact call_list_of pins s σ H _ us Q I rv ⟨a, vs, rfl, .inl (.of ha), fun z hz => k _ _ _ (NewV.lst lok hz hl (lok.1 a vs (.of ha)) fun b hb => List.mem_cons_of_mem _ hb)⟩
  | [.scr l], e, hr =>
    cases e
    obtain ⟨v, rfl, a, vs, rfl, ha, hl, rfl⟩ := hr.one_inv
    have ha' : SqL G.K H a vs := ha.elim (fun ⟨o, z⟩ => .inl (.inr ⟨o, z⟩)) .inr
    exact call_list_of pins s σ H _ us Q I rv ⟨a, vs, rfl, .inl (hK ▸ ha'), fun z hz => k _ _ _ (NewV.lst lok hz hl (lok.1 a vs ha') fun b hb => hb)⟩
theorem blt_sum (hK : G.K = X.K) (hc : X.calm = true) : CallR X (.builtin "sum") (rBlt G .sum true) := by
  intro pins s σ H xs us Q I rv ⟨ps, fp, r, hr, lok, e, k⟩
  match ps, e, hr with
  | [.lst l], e, hr =>
    simp only [evalB] at e
    cases e2 : asIntsP l with
    | none => rw [e2] at e; cases e
    | some ns =>
      rw [e2] at e
      cases e
      obtain ⟨v, rfl, a, vs, f, rfl, ha, hl, rfl⟩ := hr.one_inv
      exact cr_sum hc pins s σ H _ us Q I rv ⟨a, ns, rfl, .of (hl.ints e2 ▸ ha), k _ _ [] (NewV.flat lok ⟨rfl, rfl⟩)⟩
theorem blt_all (hK : G.K = X.K) (hc : X.calm = true) : CallR X (.builtin "all") (rBlt G .all true) := by
  intro pins s σ H xs us Q I rv ⟨ps, fp, r, hr, lok, e, k⟩
  match ps, e, hr with
  | [.lst l], e, hr =>
    simp only [evalB] at e
    cases e2 : asBlsP l with
    | none => rw [e2] at e; cases e
    | some ns =>
      rw [e2] at e
      cases e
      obtain ⟨v, rfl, a, vs, f, rfl, ha, hl, rfl⟩ := hr.one_inv
      exact cr_all hc pins s σ H _ us Q I rv ⟨a, ns, rfl, .of (hl.bls e2 ▸ ha), k _ _ [] (NewV.flat lok ⟨rfl, rfl⟩)⟩
theorem blt_any (hK : G.K = X.K) (hc : X.calm = true) : CallR X (.builtin "any") (rBlt G .any true) := by
  intro pins s σ H xs us Q I rv ⟨ps, fp, r, hr, lok, e, k⟩
  match ps, e, hr with
  | [.lst l], e, hr =>
    simp only [evalB] at e
    cases e2 : asBlsP l with
    | none => rw [e2] at e; cases e
    | some ns =>
      rw [e2] at e
      cases e
      obtain ⟨v, rfl, a, vs, f, rfl, ha, hl, rfl⟩ := hr.one_inv
      exact cr_any hc pins s σ H _ us Q I rv ⟨a, ns, rfl, .of (hl.bls e2 ▸ ha), k _ _ [] (NewV.flat lok ⟨rfl, rfl⟩)⟩
theorem blt_abs : CallR X (.builtin "abs") (rBlt G .abs true) := by
  intro pins s σ H xs us Q I rv ⟨ps, fp, r, hr, lok, e, k⟩
  match ps, e, hr with
  | [.int i], e, hr =>
    cases e
    obtain ⟨v, rfl, rfl, _⟩ := hr.one_inv
    exact call_abs pins s σ H _ us Q I rv ⟨i, rfl, k _ _ [] (NewV.flat lok ⟨rfl, rfl⟩)⟩
theorem blt_int : CallR X (.type "int") (rBlt G .int true) := by
  intro pins s σ H xs us Q I rv ⟨ps, fp, r, hr, lok, e, k⟩
  match ps, e, hr with
  | [.int i], e, hr =>
    cases e
    obtain ⟨v, rfl, rfl, _⟩ := hr.one_inv
    exact call_int1 pins s σ H _ us Q I rv (.inl ⟨i, rfl, k _ _ [] (NewV.flat lok ⟨rfl, rfl⟩)⟩)
  | [.bl i], e, hr =>
    cases e
    obtain ⟨v, rfl, rfl, _⟩ := hr.one_inv
    refine call_int1 pins s σ H _ us Q I rv (.inr ⟨i, rfl, k _ _ [] (NewV.flat lok ⟨?_, rfl⟩)⟩)
    cases i <;> rfl
theorem blt_bool : CallR X (.type "bool") (rBlt G .bool true) := by
  intro pins s σ H xs us Q I rv ⟨ps, fp, r, hr, lok, e, k⟩
  match ps, e, hr with
  | [.int i], e, hr =>
    cases e
    obtain ⟨v, rfl, rfl, _⟩ := hr.one_inv
    exact call_bool1 pins s σ H _ us Q I rv (.inl ⟨i, rfl, k _ _ [] (NewV.flat lok ⟨rfl, rfl⟩)⟩)
  | [.bl i], e, hr =>
    cases e
    obtain ⟨v, rfl, rfl, _⟩ := hr.one_inv
    exact call_bool1 pins s σ H _ us Q I rv (.inr ⟨i, rfl, k _ _ [] (NewV.flat lok ⟨rfl, rfl⟩)⟩)
end
end Ev

/-! EvE7: min, max, sorted, repr; methods; items, slices; isinstance. -/
namespace Ev
open PySem PySem.Spec PyProof.Rows L2
mutual
theorem PV.pd_inj : ∀ (p q : PV), p.data = true → q.data = true → p.pd = q.pd → p = q
  | .non, q, _, h, e => by cases q <;> first | rfl | (simp [PV.data] at h; done) | (exact absurd e nofun)
  | .bl b, q, _, h, e => by cases q <;> first | (have e' := PyData.bool.inj e; rw [e']) | (exact absurd e nofun) | (simp [PV.data] at h)
  | .int b, q, _, h, e => by cases q <;> first | (have e' := PyData.int.inj e; rw [e']) | (exact absurd e nofun) | (simp [PV.data] at h)
  | .str b, q, _, h, e => by cases q <;> first | (have e' := PyData.str.inj e; rw [e']) | (exact absurd e nofun) | (simp [PV.data] at h)
  | .tup l, q, g, h, e => by
    cases q with
    | tup m =>
      have e' : PV.pds l = PV.pds m := PyData.tuple.inj e
      rw [PV.pds_inj l m (by simpa [PV.data] using g) (by simpa [PV.data] using h) e']
    | _ => first | (exact absurd e nofun) | (simp [PV.data] at h)
  | .lst l, q, g, h, e => by
    cases q with
    | lst m =>
      have e' : PV.pds l = PV.pds m := PyData.list.inj e
      rw [PV.pds_inj l m (by simpa [PV.data] using g) (by simpa [PV.data] using h) e']
    | _ => first | (exact absurd e nofun) | (simp [PV.data] at h)
  | .undef, _, g, _, _ => by simp [PV.data] at g
  | .fn _, _, g, _, _ => by simp [PV.data] at g
  | .exc _ _, _, g, _, _ => by simp [PV.data] at g
  | .scr _, _, g, _, _ => by simp [PV.data] at g
theorem PV.pds_inj : ∀ (p q : List PV), PV.datas p = true → PV.datas q = true → PV.pds p = PV.pds q → p = q
  | [], [], _, _, _ => rfl
  | [], _ :: _, _, _, e => by cases e
  | _ :: _, [], _, _, e => by cases e
  | x :: l, y :: m, g, h, e => by
    have g' : x.data = true ∧ PV.datas l = true := by simpa [PV.datas] using g
    have h' : y.data = true ∧ PV.datas m = true := by simpa [PV.datas] using h
    obtain ⟨e1, e2⟩ := List.cons.inj (show PV.pd x :: PV.pds l = PV.pd y :: PV.pds m from e)
    rw [PV.pd_inj x y g'.1 h'.1 e1, PV.pds_inj l m g'.2 h'.2 e2]
end
theorem pds_map : ∀ l : List PV, PV.pds l = l.map PV.pd
  | [] => rfl
  | x :: l => by rw [PV.pds, pds_map l]; rfl
theorem datas_all : ∀ {l : List PV}, PV.datas l = true → ∀ x ∈ l, x.data = true
  | [], _, _, h => by simp at h
  | y :: l, g, x, h => by
    have g' : y.data = true ∧ PV.datas l = true := by simpa [PV.datas] using g
    rcases List.mem_cons.mp h with rfl | h
    · exact g'.1
    · exact datas_all g'.2 x h
theorem all_datas : ∀ {l : List PV}, (∀ x ∈ l, x.data = true) → PV.datas l = true
  | [], _ => rfl
  | y :: l, g => by
    rw [PV.datas, g y (by simp), all_datas fun x h => g x (by simp [h])]
    rfl
theorem ordOk_all {l : List PV} (h : ordOk l = true) : ∀ x ∈ l, ∀ y ∈ l, ltOk x y = true := by
  unfold ordOk at h
  exact fun x hx y hy => List.all_eq_true.mp (List.all_eq_true.mp h x hx) y hy
theorem best_pd (f : PyData → PyData → Bool) : ∀ (l : List PV) (x : PV), (best (fun a b => f a.pd b.pd) x l).pd = (l.map PV.pd).foldl (fun a y => if f y a = true then y else a) x.pd
  | [], x => rfl
  | y :: l, x => by
    show (if f y.pd x.pd = true then best _ y l else best _ x l).pd = _
    rw [List.map_cons, List.foldl_cons]
    by_cases c : f y.pd x.pd = true
    · rw [if_pos c, if_pos c]; exact best_pd f l y
    · rw [if_neg c, if_neg c]; exact best_pd f l x
theorem best_mem (f : PV → PV → Bool) : ∀ (l : List PV) (x : PV), best f x l ∈ x :: l
  | [], x => by simp [best]
  | y :: l, x => by
    show (if f y x = true then best f y l else best f x l) ∈ _
    by_cases c : f y x = true
    · rw [if_pos c]; exact List.mem_cons_of_mem _ (best_mem f l y)
    · rw [if_neg c]
      rcases List.mem_cons.mp (best_mem f l x) with e | e
      · rw [e]; simp
      · exact List.mem_cons_of_mem _ (List.mem_cons_of_mem _ e)
theorem depthAll_le : ∀ {l : List PyData} {n : Nat}, (∀ x ∈ l, x.depth ≤ n) → PyData.depthAll l ≤ n
  | [], n, _ => by simp [PyData.depthAll]
  | x :: l, n, h => by
    rw [PyData.depthAll]
    exact Nat.max_le.mpr ⟨h x (by simp), depthAll_le fun y hy => h y (by simp [hy])⟩
section
variable {X : Cx} {G : Gl0}
theorem Dp.alike_data {pins : List (Addr × Obj)} {s : Shared} {σ : St} {H : Hp} (I : L2.Inv X pins σ H s) {v : V} {u : Value} {d d' : PyData} {as : List Addr} (h : Dp X.K H v d) (r : RelV v u) (hr : Reads s.heap u d' as) (ha : PySem.W.alike d d' = true) : d = d' := by
  obtain ⟨bs, hr'⟩ := Dp.reads I d v u h r
  exact PySem.W.alike_unique d d' u bs as ha hr' hr
/-- the least item, the greatest: a rule of the library gives an item that reads as the least -/
theorem pick_min {pins : List (Addr × Obj)} {s : Shared} {σ : St} {H : Hp} {Q : VK} {x : PV} {l : List PV} {vs : List V} {f fp : List Addr} {its : List Value} {lt : PyData → PyData → Bool} {bd : PyData} (I : L2.Inv X pins σ H s) (hK : G.K = X.K) (lok : LenOk G.K H) (hl : RepL G H (x :: l) vs f)
    (hf : ∀ a ∈ f, a ∈ fp) (rv : Vals vs its) (o : ordOk (x :: l) = true) (hb : bd = (l.map PV.pd).foldl (fun a y => if lt y a = true then y else a) x.pd)
    (k : ∀ z H' fz, NewV G H fp (best (fun a b => lt a.pd b.pd) x l) false z H' fz → Q z H') {i : Nat} {v : Value} {h' : Heap} {tk : Nat} {bs : List Addr} (e : its.toArray[i]? = some v) (r : Reads h' v bd bs) (sm : ∀ b o, s.heap.get? b = some o → h'.get? b = some o) :
    EP X pins σ Q v { s with heap := h', toks := tk } := by
  have I' : L2.Inv X pins σ H { s with heap := h', toks := tk } := I.kept sm
  have e' : its[i]? = some v := by simpa using e
  have hi : i < (x :: l).length := by
    have := (List.getElem?_eq_some_iff.mp e').1
    rw [← rv.length, hl.length] at this
    exact this
  have ep : (x :: l)[i]? = some (x :: l)[i] := List.getElem?_eq_getElem hi
  obtain ⟨y, g, ey, ry, hg⟩ := hl.get ep
  obtain ⟨u, eu, ru⟩ := rv.get ey
  rw [e'] at eu; cases eu
  have hm := best_mem (fun a b : PV => lt a.pd b.pd) l x
  have ok := ordOk_all o
  have d1 : (x :: l)[i].data = true := (ltOk_parts (ok _ (List.getElem_mem hi) _ (List.getElem_mem hi))).1
  have d2 := (ltOk_parts (ok _ hm _ hm)).1
  have eb := best_pd lt l x
  rw [← hb] at eb
  have same : (x :: l)[i].pd = bd := Dp.alike_data I' (hK ▸ ry.dp _ _ _ d1) ru r (by rw [← eb]; exact (ltOk_parts (ok _ (List.getElem_mem hi) _ hm)).2.2.1)
  have pe : (x :: l)[i] = best (fun a b => lt a.pd b.pd) x l := PV.pd_inj _ _ d1 d2 (same.trans eb.symm)
  refine ⟨y, H, I', ru, k y H g (NewV.part lok ?_ fun a ha => hf a (hg a ha))⟩
  rw [← pe]
  exact ry
theorem alikeAll_of {l : List PV} (o : ordOk l = true) : PySem.W.AllAlike (PV.pds l) := by
  rw [pds_map]
  intro d hd d' hd'
  obtain ⟨a, ha, rfl⟩ := List.mem_map.mp hd
  obtain ⟨b, hb, rfl⟩ := List.mem_map.mp hd'
  exact (ltOk_parts (ordOk_all o a ha b hb)).2.2.1
theorem noNone_of {l : List PV} (o : ordOk l = true) : ∀ d ∈ PV.pds l, d ≠ .none := by
  rw [pds_map]
  intro d hd
  obtain ⟨a, ha, rfl⟩ := List.mem_map.mp hd
  exact (ltOk_parts (ordOk_all o a ha a ha)).2.2.2.2
theorem depth_of {l : List PV} (o : ordOk l = true) : PyData.depthAll (PV.pds l) ≤ 64 := by
  rw [pds_map]
  refine depthAll_le fun d hd => ?_
  obtain ⟨a, ha, rfl⟩ := List.mem_map.mp hd
  exact (ltOk_parts (ordOk_all o a ha a ha)).2.2.2.1
theorem datas_of {l : List PV} (o : ordOk l = true) : PV.datas l = true := all_datas fun x hx => (ltOk_parts (ordOk_all o x hx x hx)).1
theorem blt_min (hK : G.K = X.K) (hc : X.calm = true) (hu : X.A.units + 66 < cLine) : CallR X (.builtin "min") (rBlt G .min false) := by
  intro pins s σ H xs us Q I rv ⟨ps, fp, r, hr, lok, e, k⟩
  match ps, e, hr with
  | [.int i, .int j], e, hr =>
    cases e
    obtain ⟨v, w, f, g, rfl, rfl, ⟨rfl, _⟩, ⟨rfl, _⟩⟩ := hr.two_inv
    exact call_min2 hc pins s σ H _ us Q I rv ⟨i, j, rfl, k _ _ [] (NewV.flat lok ⟨rfl, rfl⟩)⟩
  | [.lst (x :: l)], e, hr =>
    simp only [evalB, pmin] at e
    split at e
    · rename_i o
      cases e
      obtain ⟨v, rfl, a, vs, f, rfl, ha, hl, rfl⟩ := hr.one_inv
      obtain ⟨its, rv2, pl, _⟩ := I.list (SqL.of (K := X.K) ha)
      obtain ⟨as, hR⟩ := Dp.readsAll I (PV.pds (x :: l)) vs its (hK ▸ hl.dp _ _ _ (datas_of o)) rv2
      rw [Vals.ref1 rv]
      have hd := depth_of o
      refine PySem.W.min_list_data (I.ok.hd hc) pl.isList (x := x.pd) (xs := PV.pds l) (show ReadsAll s.heap its.toArray.toList (x.pd :: PV.pds l) as by simpa [PV.pds] using hR) ⟨alikeAll_of o, noNone_of o⟩ (by show X.A.units + 1 + PyData.depthAll (PV.pds (x :: l)) < cLine; omega) fun i v h' tk bs e r sm => ?_
      exact pick_min (lt := PySem.W.dataLt) I hK lok hl (fun a ha => List.mem_cons_of_mem _ ha) rv2 o (by rw [← pds_map]; rfl) k e r sm
    · cases e
  | [.lst []], e, hr => cases e
theorem blt_max (hK : G.K = X.K) (hc : X.calm = true) (hu : X.A.units + 66 < cLine) : CallR X (.builtin "max") (rBlt G .max false) := by
  intro pins s σ H xs us Q I rv ⟨ps, fp, r, hr, lok, e, k⟩
  match ps, e, hr with
  | [.int i, .int j], e, hr =>
    cases e
    obtain ⟨v, w, f, g, rfl, rfl, ⟨rfl, _⟩, ⟨rfl, _⟩⟩ := hr.two_inv
    exact call_max2 hc pins s σ H _ us Q I rv ⟨i, j, rfl, k _ _ [] (NewV.flat lok ⟨rfl, rfl⟩)⟩
  | [.lst (x :: l)], e, hr =>
    simp only [evalB, pmax] at e
    split at e
    · rename_i o
      cases e
      obtain ⟨v, rfl, a, vs, f, rfl, ha, hl, rfl⟩ := hr.one_inv
      obtain ⟨its, rv2, pl, _⟩ := I.list (SqL.of (K := X.K) ha)
      obtain ⟨as, hR⟩ := Dp.readsAll I (PV.pds (x :: l)) vs its (hK ▸ hl.dp _ _ _ (datas_of o)) rv2
      rw [Vals.ref1 rv]
      have hd := depth_of o
      refine PySem.W.max_list_data (I.ok.hd hc) pl.isList (x := x.pd) (xs := PV.pds l) (show ReadsAll s.heap its.toArray.toList (x.pd :: PV.pds l) as by simpa [PV.pds] using hR) ⟨alikeAll_of o, noNone_of o⟩ (by show X.A.units + 1 + PyData.depthAll (PV.pds (x :: l)) < cLine; omega) fun i v h' tk bs e r sm => ?_
      exact pick_min (lt := fun a b => PySem.W.dataLt b a) I hK lok hl (fun a ha => List.mem_cons_of_mem _ ha) rv2 o (by rw [← pds_map]; rfl) k e r sm
    · cases e
  | [.lst []], e, hr => cases e

/-! ### sorted -/
/-- the items with what stands for them -/
def Zip3 (G : Gl0) (H : Hp) : List PV → List V → List (PV × V × List Addr) → Prop
  | [], vs, z => vs = [] ∧ z = []
  | p :: l, vs, z => ∃ v vs' f z', vs = v :: vs' ∧ z = (p, v, f) :: z' ∧ RepF G H p v f ∧ Zip3 G H l vs' z'
theorem zip3_of {H : Hp} : ∀ {l : List PV} {vs : List V} {fp : List Addr}, RepL G H l vs fp → ∃ z, Zip3 G H l vs z ∧ ∀ b ∈ z, ∀ a ∈ b.2.2, a ∈ fp
  | [], vs, fp, h => ⟨[], ⟨h.1, rfl⟩, fun _ z => by simp at z⟩
  | p :: l, vs, fp, h => by
    obtain ⟨v, vs', f, f', rfl, rfl, h1, h2⟩ := h
    obtain ⟨z, hz, k⟩ := zip3_of h2
    refine ⟨(p, v, f) :: z, ⟨v, vs', f, z, rfl, rfl, h1, hz⟩, fun b hb a ha => ?_⟩
    rcases List.mem_cons.mp hb with rfl | hb
    · exact List.mem_append_left _ ha
    · exact List.mem_append_right _ (k b hb a ha)
theorem Zip3.rep {H : Hp} : ∀ {l : List PV} {vs : List V} {z : List (PV × V × List Addr)}, Zip3 G H l vs z → ∀ b ∈ z, RepF G H b.1 b.2.1 b.2.2
  | [], _, _, h, b, hb => by rw [h.2] at hb; simp at hb
  | p :: l, _, _, h, b, hb => by
    obtain ⟨v, vs', f, z', rfl, rfl, h1, h2⟩ := h
    rcases List.mem_cons.mp hb with rfl | hb
    · exact h1
    · exact Zip3.rep h2 b hb
theorem Zip3.fst {H : Hp} : ∀ {l : List PV} {vs : List V} {z : List (PV × V × List Addr)}, Zip3 G H l vs z → z.map (·.1) = l
  | [], _, _, h => by rw [h.2]; rfl
  | p :: l, _, _, h => by
    obtain ⟨v, vs', f, z', rfl, rfl, h1, h2⟩ := h
    rw [List.map_cons, Zip3.fst h2]
theorem repL_of {H : Hp} : ∀ {z : List (PV × V × List Addr)}, (∀ b ∈ z, RepF G H b.1 b.2.1 b.2.2) → ∃ f, RepL G H (z.map (·.1)) (z.map (·.2.1)) f ∧ ∀ a ∈ f, ∃ b ∈ z, a ∈ b.2.2
  | [], _ => ⟨[], RepL.nil, fun _ z => by simp at z⟩
  | b :: z, h => by
    obtain ⟨f, h1, h2⟩ := repL_of (z := z) fun c hc => h c (by simp [hc])
    refine ⟨b.2.2 ++ f, RepL.cons (h b (by simp)) h1, fun a ha => ?_⟩
    rcases List.mem_append.mp ha with w | w
    · exact ⟨b, by simp, w⟩
    · obtain ⟨c, hc, w⟩ := h2 a w
      exact ⟨c, by simp [hc], w⟩
theorem Zip3.each {H : Hp} : ∀ {l : List PV} {vs : List V} {z : List (PV × V × List Addr)} {its : List Value}, Zip3 G H l vs z → Vals vs its → PySem.W.EachIs (fun (v : Value) (b : PV × V × List Addr) => RelV b.2.1 v) its z
  | [], _, _, _, h, r => by
    obtain ⟨rfl, rfl⟩ := h
    cases r
    exact .nil
  | p :: l, _, _, _, h, r => by
    obtain ⟨v, vs', f, z', rfl, rfl, h1, h2⟩ := h
    cases r with
    | cons a b => exact .cons a (Zip3.each h2 b)
theorem each_vals : ∀ {z : List (PV × V × List Addr)} {its : List Value}, PySem.W.EachIs (fun (v : Value) (b : PV × V × List Addr) => RelV b.2.1 v) its z → Vals (z.map (·.2.1)) its
  | _, _, .nil => .nil
  | _, _, .cons a b => .cons a (each_vals b)
theorem each_reads {pins : List (Addr × Obj)} {s : Shared} {σ : St} {H : Hp} (I : L2.Inv X pins σ H s) : ∀ {z : List (PV × V × List Addr)} {its : List Value}, PySem.W.EachIs (fun (v : Value) (b : PV × V × List Addr) => RelV b.2.1 v) its z → (∀ b ∈ z, Dp X.K H b.2.1 b.1.pd) →
    PySem.W.EachIs (fun (v : Value) (b : PV × V × List Addr) => ∃ as, Reads s.heap v b.1.pd as) its z
  | _, _, .nil, _ => .nil
  | _, _, .cons a b, h => .cons (Dp.reads I _ _ _ (h _ (by simp)) a) (each_reads I b fun c hc => h c (by simp [hc]))
theorem sortOk_able {l : List PV} (o : sortOk l = true) : ordOk l = true ∧ PySem.W.Sortable (PV.pds l) := by
  unfold sortOk at o
  obtain ⟨o1, o2⟩ := Bool.and_eq_true_iff.mp o
  refine ⟨o1, ?_⟩
  rw [pds_map]
  rcases Bool.or_eq_true_iff.mp o2 with c | c
  · refine .inl fun d hd => ?_
    obtain ⟨p, hp, rfl⟩ := List.mem_map.mp hd
    have q := List.all_eq_true.mp c p hp
    match p, q with
    | .tup (x :: m), _ => exact ⟨x.pd, PV.pds m, rfl⟩
  · refine .inr fun d hd => ?_
    obtain ⟨p, hp, rfl⟩ := List.mem_map.mp hd
    refine ⟨(ltOk_parts (ordOk_all o1 p hp p hp)).2.2.2.2, fun xs e => ?_⟩
    have q := List.all_eq_true.mp c p hp
    cases p <;> first | (simp at q; done) | (exact absurd e nofun)
theorem blt_sorted (hK : G.K = X.K) (hu : X.A.units + 67 < cLine) : CallR X (.builtin "sorted") (rBlt G .sorted true) := by
  intro pins s σ H xs us Q I rv ⟨ps, fp, r, hr, lok, e, k⟩
  match ps, e, hr with
  | [.lst l], e, hr =>
    simp only [evalB] at e
    split at e
    · rename_i o
      cases e
      obtain ⟨o1, o2⟩ := sortOk_able o
      obtain ⟨v, rfl, a, vs, f, rfl, ha, hl, rfl⟩ := hr.one_inv
      obtain ⟨its, rv2, pl, _⟩ := I.list (SqL.of (K := X.K) ha)
      obtain ⟨z, hz, hzf⟩ := zip3_of hl
      rw [Vals.ref1 rv]
      have ez := hz.fst
      have dl := datas_all (datas_of o1)
      have lz : z.length = l.length := by rw [← ez, List.length_map]
      have em : z.map (fun b => b.1.pd) = PV.pds l := by rw [pds_map, ← ez, List.map_map]; rfl
      have hd := depth_of o1
      have hb : ∀ b ∈ z, b.1 ∈ l := fun b hb => by rw [← ez]; exact List.mem_map.mpr ⟨b, hb, rfl⟩
      refine PySem.W.sorted_data (enc := fun b : PV × V × List Addr => b.1.pd) pl.isList (hz.each rv2) (each_reads I (hz.each rv2) fun b h => hK ▸ (hz.rep b h).dp _ _ _ (dl _ (hb b h))) (by rw [em]; exact alikeAll_of o1) (by rw [em]; exact o2) (by rw [lz, ← hl.length]; exact lok.1 a vs (.of ha))
        (fun b h => by have := (ltOk_parts (ordOk_all o1 _ (hb b h) _ (hb b h))).2.2.2.1; show X.A.units + 2 + b.1.pd.depth < cLine; omega) fun out hlen hout => ?_
      obtain ⟨ep, he'⟩ := PyProof.Rows.sortedAll_at s.heap its out.toArray
      have hv := each_vals hout
      have hmem : ∀ b ∈ z.mergeSort (PySem.W.dataLe false fun b => b.1.pd), b ∈ z := fun b h => (List.mergeSort_perm z _).mem_iff.mp h
      obtain ⟨g, hg, hgf⟩ := repL_of (G := G) (H := H) (z := z.mergeSort (PySem.W.dataLe false fun b => b.1.pd)) fun b h => hz.rep b (hmem b h)
      have es : (z.mergeSort (PySem.W.dataLe false fun b => b.1.pd)).map (·.1) = psort l := by
        unfold psort
        rw [← ez]
        refine List.map_mergeSort fun a _ b _ => ?_
        rfl
      rw [es] at hg
      have hlz : ((z.mergeSort (PySem.W.dataLe false fun b => b.1.pd)).map (·.2.1)).length ≤ sizeLine := by
        rw [List.length_map, List.length_mergeSort, lz, ← hl.length]; exact lok.1 a vs (.of ha)
      have fr := I.hok.fresh (Nat.le_succ s.heap.objs.size)
      refine ⟨.ref _, upd H (s.heap.objs.size + 1) (.lst ((z.mergeSort (PySem.W.dataLe false fun b => b.1.pd)).map (·.2.1))), I.laid (t' := s.toks) (fun _ _ => PyProof.Rows.sortedAll_old) (Nat.le_succ _) ⟨hlz, out, ep, hv, by simpa using he'⟩, rfl, k _ _ _ (NewV.lst lok fr hg hlz fun b hb => ?_)⟩
      obtain ⟨c, hc, w⟩ := hgf b hb
      exact List.mem_cons_of_mem _ (hzf c (hmem c hc) b w)
    · cases e
/-! ### repr, str -/
mutual
theorem PV.nd : ∀ (p : PV), p.pd.hasDict = false
  | .non => rfl
  | .bl _ => rfl
  | .int _ => rfl
  | .str _ => rfl
  | .undef => rfl
  | .fn _ => rfl
  | .exc _ _ => rfl
  | .scr _ => rfl
  | .tup l => by
    show PyData.hasDict (.tuple (PV.pds l)) = false
    rw [PyData.hasDict]
    exact PV.nds l
  | .lst l => by
    show PyData.hasDict (.list (PV.pds l)) = false
    rw [PyData.hasDict]
    exact PV.nds l
theorem PV.nds : ∀ (p : List PV), PyData.hasDictAll (PV.pds p) = false
  | [] => by simp [PV.pds, PyData.hasDictAll]
  | x :: l => by rw [PV.pds, PyData.hasDictAll, PV.nd x, PV.nds l]; rfl
end
theorem blt_repr (hK : G.K = X.K) (hg : X.A.guards = some []) (hu : X.A.units + 62 < cLine) : CallR X (.builtin "repr") (rBlt G .repr true) := by
  intro pins s σ H xs us Q I rv ⟨ps, fp, r, hr, lok, e, k⟩
  match ps, e, hr with
  | [p], e, hr =>
    simp only [evalB] at e
    split at e
    · rename_i o
      cases e
      unfold reprOk at o
      obtain ⟨o, o4⟩ := Bool.and_eq_true_iff.mp o
      obtain ⟨o, o3⟩ := Bool.and_eq_true_iff.mp o
      obtain ⟨o1, o2⟩ := Bool.and_eq_true_iff.mp o
      have o3 := of_decide_eq_true o3
      have o4 := of_decide_eq_true o4
      obtain ⟨v, rfl, hv⟩ := hr.one_inv
      obtain ⟨u, rfl, ru⟩ := Vals.one rv
      have dp := hv.dp _ _ _ o1
      obtain ⟨as, rd⟩ := Dp.reads I p.pd v u (hK ▸ dp) ru
      have kk := k (.str p.pd.shown) H [] (NewV.flat lok ⟨rfl, rfl⟩)
      cases p with
      | non =>
        cases hv.1
        cases (show u = Value.none from ru)
        exact PySem.P.repr_of_none ⟨.str _, H, I.tok _, ⟨_, rfl⟩, kk⟩
      | bl b =>
        cases hv.1
        cases (show u = Value.bool b from ru)
        refine PySem.P.repr_of_bool ⟨.str _, H, I.tok _, ⟨_, rfl⟩, ?_⟩
        have ee : (PV.bl b).pd.shown = (if b = true then ("True" : Str) else ("False" : Str)) := by rw [PV.pd, PyData.shown]
        rw [ee] at kk
        exact kk
      | int i =>
        cases hv.1
        obtain ⟨t, rfl⟩ := (show ∃ t, u = Value.int i t from ru)
        have o2' : i.natAbs.log2 < 1920 := by
          have o2'' : PyData.showable (.int i) = true := o2
          rw [PyData.showable] at o2''
          exact of_decide_eq_true o2''
        refine PySem.P.repr_of_int o2' ⟨.str _, H, I.tok _, ⟨_, rfl⟩, ?_⟩
        have ee : (PV.int i).pd.shown = (toString i : Str) := by rw [PV.pd, PyData.shown]
        rw [← ee]
        exact kk
      | str x =>
        cases hv.1
        obtain ⟨t, rfl⟩ := (show ∃ t, u = Value.str x t from ru)
        have ee : (PV.str x).pd.shown = reprText x := by rw [PV.pd, PyData.shown]
        rw [ee] at kk o4
        exact PySem.P.repr_of_str ⟨.str _, H, I.tok _, ⟨_, rfl⟩, kk⟩ o4
      | tup l =>
        obtain ⟨a, vs, rfl, ha, hl⟩ := hv
        cases ru
        exact repr_of_reads' rd o2 (PyData.noDict_hsm (PV.nd _)) hg (by omega) (fun _ _ e => e) (fun h' u tk hk => ⟨.str _, H, I.kept hk, ⟨_, rfl⟩, kk⟩) o4
      | lst l =>
        obtain ⟨a, vs, f, rfl, ha, hl, _⟩ := hv
        cases ru
        exact repr_of_reads' rd o2 (PyData.noDict_hsm (PV.nd _)) hg (by omega) (fun _ _ e => e) (fun h' u tk hk => ⟨.str _, H, I.kept hk, ⟨_, rfl⟩, kk⟩) o4
      | _ => simp [PV.data] at o1
    · cases e
theorem blt_str : CallR X (.type "str") (rBlt G .str true) := by
  intro pins s σ H xs us Q I rv ⟨ps, fp, r, hr, lok, e, k⟩
  match ps, e, hr with
  | [.str x], e, hr => exact absurd e (by simp [evalB])
  | [.int i], e, hr =>
    simp only [evalB] at e
    split at e
    · cases e
      obtain ⟨v, rfl, rfl, _⟩ := hr.one_inv
      exact call_str_int pins s σ H _ us Q I rv ⟨i, rfl, ‹_›, k _ _ [] (NewV.flat lok ⟨rfl, rfl⟩)⟩
    · cases e
/-! ### methods of lists -/
def rMth (G : Gl0) (m : Mth) : V → List V → Hp → VK → Prop := fun x vs H Q => ∃ p ps fp fq r, RepF G H p x fp ∧ RepL G H ps vs fq ∧ LenOk G.K H ∧ evalM m p ps = some r ∧ ∀ z H' fz, NewV G H [] r true z H' fz → Q z H'
theorem mth_index (hK : G.K = X.K) (hu : X.A.units + 65 < cLine) : MtR X "list.index" (rMth G .index) := by
  intro pins s σ H x vs v us Q I rx rv ⟨p, ps, fp, fq, r, hp, hr, lok, e, k⟩
  match p, ps, e, hp, hr with
  | .lst l, [y], e, hp, hr =>
    simp only [evalM] at e
    split at e
    · rename_i c
      cases e2 : (PV.pds l).findIdx? fun z => PyData.eqv z y.pd with
      | none => rw [e2] at e; cases e
      | some j =>
        rw [e2] at e
        cases e
        obtain ⟨c1, c2, c3, c4⟩ := inOk_parts c
        have hd := hp.dp (.lst l) _ _ (by simpa [PV.data] using c2)
        obtain ⟨a, xs, f, rfl, ha, hl, _⟩ := hp
        obtain ⟨w, rfl, hw⟩ := hr.one_inv
        obtain ⟨h1, h2, h3⟩ := List.findIdx?_eq_some_iff_getElem.mp e2
        refine mt_indexD hu pins s σ H _ _ v us Q I rx rv ⟨a, w, y.pd, PV.pds l, j, (PV.pds l)[j], rfl, rfl, hK ▸ hd, hK ▸ hw.dp _ _ _ c1, c4, c3, List.getElem?_eq_getElem h1, h2, fun m z' hm hz' => ?_, k _ _ [] (NewV.flat lok ⟨rfl, rfl⟩)⟩
        obtain ⟨hm', ez⟩ := List.getElem?_eq_some_iff.mp hz'
        have h4 := h3 m hm
        rw [← ez]
        simpa using h4
    · cases e
theorem mth_count (hK : G.K = X.K) (hu : X.A.units + 65 < cLine) : MtR X "list.count" (rMth G .count) := by
  intro pins s σ H x vs v us Q I rx rv ⟨p, ps, fp, fq, r, hp, hr, lok, e, k⟩
  match p, ps, e, hp, hr with
  | .lst l, [y], e, hp, hr =>
    simp only [evalM] at e
    split at e
    · rename_i c
      cases e
      obtain ⟨c1, c2, c3, c4⟩ := inOk_parts c
      obtain ⟨a, xs, f, rfl, ha, hl, _⟩ := hp
      obtain ⟨w, rfl, hw⟩ := hr.one_inv
      obtain ⟨u, rfl, ru⟩ := Vals.one rv
      obtain ⟨bs, r1⟩ := Dp.reads I y.pd w u (hK ▸ hw.dp _ _ _ c1) ru
      obtain ⟨its, rv2, pl, _⟩ := I.list (SqL.of (K := X.K) ha)
      obtain ⟨as, hR⟩ := Dp.readsAll I (PV.pds l) xs its (hK ▸ hl.dp _ _ _ c2) rv2
      cases rx
      have cl : PyData.canLayAll0 (PV.pds l) = true := SeqAt.canLay_of_shaped c4
      refine PySem.SeqAt.count_list_data pl.isList (show ReadsAll s.heap its.toArray.toList (PV.pds l) as from hR) r1 (PyData.plainAll_of_canLay0 _ cl) (PyData.plain_of_canLay0 _ (SeqAt.canLay_of_shaped c3)) (room_in_shaped c3 hu) ⟨.int _, H, I.tok _, ⟨_, rfl⟩, k _ _ [] (NewV.flat lok ⟨rfl, rfl⟩)⟩
    · cases e

/-! ### items, slices -/
theorem ixN_eq (n : Nat) (i : Int) : Ev.ixN n i = L2.ixN n i := rfl
theorem atI_eq {α : Type} (l : List α) (i : Int) : Ev.atI l i = L2.atI l i := rfl
theorem RepL.atI {H : Hp} {l : List PV} {vs : List V} {f : List Addr} {i : Int} {x : PV} (h : RepL G H l vs f) (e : Ev.atI l i = some x) : ∃ y g, L2.atI vs i = some y ∧ RepF G H x y g ∧ ∀ a ∈ g, a ∈ f := by
  unfold Ev.atI at e
  rw [ixN_eq] at e
  unfold L2.atI
  rw [h.length]
  cases e2 : L2.ixN l.length i with
  | none => rw [e2] at e; cases e
  | some j =>
    rw [e2] at e
    obtain ⟨y, g, e3, r, k⟩ := h.get (i := j) (x := x) e
    exact ⟨y, g, e3, r, k⟩
def rIdx (G : Gl0) : R2 := fun x y H Q => ∃ p q r fp fq, RepF G H p x fp ∧ RepF G H q y fq ∧ LenOk G.K H ∧ index p q = some r ∧ ∀ z H' fz, NewV G H fp r false z H' fz → Q z H'
theorem ix_P (hK : G.K = X.K) : IxR X (rIdx G) := by
  intro va sl pins s σ H x y v u Q I rx ry ⟨p, q, r, fp, fq, hp, hq, lok, e, k⟩ hs
  cases q with
  | int i =>
    obtain ⟨rfl, _⟩ := hq
    cases p with
    | tup l =>
      obtain ⟨a, vs, rfl, ha, hl⟩ := hp
      obtain ⟨z, g, e2, rz, hg⟩ := hl.atI (show Ev.atI l i = some r from e)
      exact ix_tup va sl pins s σ H _ _ v u Q I rx ry ⟨a, vs, i, z, rfl, rfl, hK ▸ ha, e2, k z H g (NewV.part lok rz hg)⟩ hs
    | lst l =>
      obtain ⟨a, vs, f, rfl, ha, hl, rfl⟩ := hp
      obtain ⟨z, g, e2, rz, hg⟩ := hl.atI (show Ev.atI l i = some r from e)
      exact ix_list va sl pins s σ H _ _ v u Q I rx ry ⟨a, vs, i, z, rfl, rfl, .of ha, e2, k z H g (NewV.part lok rz fun b hb => List.mem_cons_of_mem _ (hg b hb))⟩ hs
    | str z =>
      obtain ⟨rfl, _⟩ := hp
      simp only [index] at e
      split at e
      · cases e2 : Ev.atI z.cps.toList i with
        | none => rw [e2] at e; cases e
        | some c =>
          rw [e2] at e
          cases e
          exact ix_str va sl pins s σ H _ _ v u Q I rx ry ⟨z, i, c, rfl, rfl, ‹_›, e2, k _ _ [] (NewV.part lok ⟨rfl, rfl⟩ fun _ z => by simp at z)⟩ hs
      · cases e
    | _ => simp [index] at e
  | _ => cases p <;> simp [index] at e
end
section
variable {X : Cx} {R : Fr0} {W : WXX} {kd kd1 kd2 kd3 : Kd}
def isSlice : Expr → Bool
  | .Slice _ _ _ _ => true
  | _ => false
theorem plainIx_of {b : Expr} (h : isSlice b = false) : PlainIx b := by
  intro o i
  cases b <;> first | rfl | cases h
/-- a[i] -/
theorem ev_idx {a i : Expr} {pos : Pos} {eva evi : Env → Res (PV × Env)} (hK : R.G.K = X.K) (ha : PE X a (rdE R W kd1 eva)) (hi : PE X i (rdE R W kd2 evi)) (hc : (kd1.stb || kd2.nor) = true) (hp : isSlice i = false) :
    PE X (.Subscript a i pos) (rdE R W ⟨false, kd1.stb, false, kd1.nor && kd2.nor⟩ fun env => (eva env).bind fun r => (evi r.2).bind fun q => (ofO (index r.1 q.1)).bind fun x => .ok (x, q.2)) :=
  PE.by (pe_ix (ix_P hK) ha hi (plainIx_of hp)) fun σ H Q F env k h => by
    refine ⟨F, env, k, okR.bind Step.refl h fun p x H1 F1 fp _ k1 s1 v1 m1 h1 => ?_⟩
    refine ⟨F1, p.2, k1, okR.bind s1 h1 fun q y H2 F2 fq _ k2 s2 v2 m2 h2 => ?_⟩
    obtain ⟨z, e, h3⟩ := okR.ofO h2
    refine ⟨p.1, q.1, z, fp, fq, v1.held k1 s2 m2 hc, v2.rep, k2.lok, e, fun zv H' fz nv => ?_⟩
    exact okR.pure h3 k2 (s1.trans s2) (Nor.trans m1 m2) nv v1.old (fun c a ha => OW.none_of s2 (v1.st c a ha) (Option.ne_none_iff_exists'.mp (RepF.there _ _ _ v1.rep a ha))) rfl fun z => z
end
end Ev

/-! EvE8: slices, [::-1] of lists and tuples, isinstance. -/
namespace Ev
open PySem PySem.Spec PyProof.Rows L2
section
open HT
variable {prog : Program} {w : World} {A : Around} {E : Value → Shared → Prop} {s : Shared}
theorem sliceApplied_rev {sl : Addr} {vl vu vk : Value} {n : Nat} {Q : Int × Int × Nat → Shared → Prop} (hs : s.heap.IsSliceOf sl vl vu vk) (pl : IsPart vl none) (pu : IsPart vu none) (pk : IsPart vk (some (-1)))
    (h : Q ((n : Int) - 1, -1, n) s) : wpAny (model prog w) A (Builtin.Slice.sliceApplied (.ref sl) (pure (n : Int))) Q E s := by
  obtain ⟨os, hos, hcs, hds⟩ := id hs
  unfold Builtin.Slice.sliceApplied Builtin.Slice.sliceFields
  refine wpAny_bind (wpAny_bind (wpAny_field hos hds (x := vl) rfl (wpAny_bind (wpAny_field hos hds (x := vu) rfl (wpAny_bind (wpAny_field hos hds (x := vk) rfl (wpAny_pure ?_)))))))
  refine wpAny_bind (slicePart_ pk ?_)
  show wpAny _ _ (if ((-1 : Int) == 0) = true then _ else _) _ _ s
  rw [if_neg (by decide)]
  refine wpAny_bind (slicePart_ pl (wpAny_bind (slicePart_ pu (wpAny_bind (wpAny_pure ?_)))))
  have e : Builtin.Slice.slicePlaces ((n : Int) - 1) (-1) (-1) = n := by
    unfold Builtin.Slice.slicePlaces
    simp only [show ¬ ((-1 : Int) > 0) by omega, if_false, Int.neg_neg, Int.ediv_one]
    split <;> omega
  show wpAny _ _ (pure (((n : Int) - 1), (-1 : Int), Builtin.Slice.slicePlaces ((n : Int) - 1) (-1) (-1))) _ _ s
  rw [e]
  exact wpAny_pure h
theorem pick_rev (xs : Array Value) : ((List.range xs.size).filterMap fun (m : Nat) => xs[(((xs.size : Nat) : Int) - 1 + (m : Int) * (-1)).toNat]?).toArray = xs.toList.reverse.toArray := by
  have e : ((List.range xs.size).filterMap fun (m : Nat) => xs[(((xs.size : Nat) : Int) - 1 + (m : Int) * (-1)).toNat]?) = (List.range xs.size).filterMap fun m => xs[xs.size - 1 - m]? := by
    have ef : (fun (m : Nat) => xs[(((xs.size : Nat) : Int) - 1 + (m : Int) * (-1)).toNat]?) = fun m => xs[xs.size - 1 - m]? := by
      funext m
      have : (((xs.size : Nat) : Int) - 1 + (m : Int) * (-1)).toNat = xs.size - 1 - m := by omega
      rw [this]
    rw [ef]
  rw [e]
  have e2 : ((List.range xs.size).filterMap fun m => xs[xs.size - 1 - m]?) = ((List.range xs.size).map fun m => xs.size - 1 - m).filterMap fun m => xs[m]? := by
    rw [List.filterMap_map]; rfl
  rw [e2, PySem.W.krv_range, List.filterMap_reverse, PySem.W.krv_all]
theorem getItem_tuple_rev {t sl : Addr} {items : Array Value} {vl vu vk : Value} {Q : Value → Shared → Prop} (ht : IsTup s.heap t items) (hs : s.heap.IsSliceOf sl vl vu vk) (pl : IsPart vl none) (pu : IsPart vu none) (pk : IsPart vk (some (-1)))
    (h : Q (.ref s.heap.objs.size) { s with heap := s.heap.push { cls := .type "tuple", data := .seq items.toList.reverse.toArray } })
    (hsz : items.size ≤ sizeLine) : wpAny (model prog w) A (getItem (.ref t) (.ref sl)) Q E s := by
  have htake : sizeOk (.seq items.toList.reverse.toArray) := by
    show (items.toList.reverse.toArray).size ≤ sizeLine
    rw [List.size_toArray, List.length_reverse, Array.length_toList]
    omega
  obtain ⟨os, hos, hcs, hds⟩ := id hs
  have hTs : s.TypeIs (.ref sl) "slice" := ⟨os, hos, hcs⟩
  unfold getItem
  try with_reducible refine wpAny_holding ?_
  first | refine wpAny_bind (wpAny_pure ?_) | skip
  refine wpAny_bind (wpAny_sequenceKey ht.typeIs (by decide) ?_)
  refine wpAny_bind (wpAny_callSpecial?_slot (name := Str.ofString "__getitem__") ht.typeIs PyProof.Rows.slot_tuple_getitem
    (wpAny_call_entry PyProof.Rows.slot_tuple_getitem ht.typeIs entry_tuple_getitem ?_ (args_tuple_getitem _ _)))
  show wpAny _ _ (Builtin.Tuple.tupleItemsOf (.ref t) >>= _) _ _ s
  refine wpAny_bind (tupleItemsOf_ ht ?_)
  refine wpAny_bind (wpAny_typeOf hTs ?_)
  rw [if_pos (by decide)]
  refine wpAny_bind (sliceApplied_rev hs pl pu pk ?_)
  have hno : ¬ ((((items.size : Nat) : Int) - 1 == 0 && (-1 : Int) == 1 && items.size == items.size) = true) := by
    intro q
    rw [Bool.and_eq_true, Bool.and_eq_true] at q
    exact absurd q.1.2 (by decide)
  show wpAny _ _ (if (((items.size : Nat) : Int) - 1 == 0 && (-1 : Int) == 1 && items.size == items.size) = true then _ else _) _ _ s
  rw [if_neg hno, pick_rev]
  first
    | exact wpAny_bind (m := Builtin.Tuple.tupleExact _) (wpAny_newObj_type (wpAny_pure ⟨_, rfl, wpAny_pure h⟩) htake)
    | exact wpAny_bind (m := Builtin.Tuple.tupleExact _) (wpAny_newObj_type (wpAny_bind (wpAny_pure (wpAny_pure ⟨_, rfl, wpAny_pure h⟩))) htake)
    | exact wpAny_bind (wpAny_bind (m := Builtin.Tuple.tupleExact _) (wpAny_newObj_type (wpAny_pure (wpAny_pure ⟨_, rfl, wpAny_pure h⟩)) htake))
    | exact wpAny_bind (wpAny_bind (m := Builtin.Tuple.tupleExact _) (wpAny_newObj_type (wpAny_pure ⟨_, rfl, wpAny_pure h⟩) htake))
end
section
variable {X : Cx}
/-- xs[::-1], t[::-1] -/
def tRev (K : PySem.W.Frag) (te : TE) : TE := fun σ H Q => te σ H fun x H1 => ∃ a xs, x = .ref a ∧ ((SqL K H1 a xs ∧ ∀ p, H1 p = none → Q (.ref p) (upd H1 p (.lst xs.reverse))) ∨ (SqT K H1 a xs ∧ ∀ p, H1 p = none → Q (.ref p) (upd H1 p (.tup xs.reverse))))
theorem pe_rev {e : Expr} {te : TE} {k : Nat} {p1 p2 p3 pos : Pos} (he : PE X e te) : PE X (.Subscript e (.Slice none none (some (.UnaryOp .USub (.Constant (.int 1) k p1) p2)) p3) pos) (tRev X.K te) := by
  refine ⟨fun pins s σ H Q I h => ?_⟩
  refine Subscript_ (thn (he.run pins s σ H _ I h) fun v s1 ⟨x, H1, I1, r1, q1⟩ => ?_)
  obtain ⟨a, xs, ex, q⟩ := q1
  subst ex
  cases r1
  have hst : PO X (some (.UnaryOp .USub (.Constant (.int 1) k p1) p2)) (tPart (tUn (rU fun i => .int (-i)) (tC (.int 1)))) := po_some (pe_un un_neg pe_int)
  refine wpAny_Slice (thn (po_none.run pins s1 σ H1 (fun o H2 => o = none ∧ H2 = H1) I1 ⟨rfl, rfl⟩) fun vl s2 ⟨l, H2, I2, pl, el, e2⟩ => ?_)
  subst el e2
  refine thn (po_none.run pins s2 σ H2 (fun o H3 => o = none ∧ H3 = H2) I2 ⟨rfl, rfl⟩) fun vu s3 ⟨u, H3, I3, pu, eu, e3⟩ => ?_
  subst eu e3
  refine thn (hst.run pins s3 σ H3 (fun o H4 => o = some (-1) ∧ H4 = H3) I3 ⟨1, rfl, -1, rfl, rfl, rfl⟩) fun vs s4 ⟨o, H4, I4, ps, eo, e4⟩ => ?_
  subst eo e4
  have I5 : L2.Inv X pins σ H4 { s4 with heap := s4.heap.push { cls := .type "slice", data := .fields #[vl, vu, vs] } } := I4.kept (t' := s4.toks) fun b ob q => Heap.get?_push_of_some _ q
  show wpAny (model X.prog X.w) X.A (subscriptTail e (.Slice none none (some (.UnaryOp .USub (.Constant (.int 1) k p1) p2)) p3) (.ref a) (.ref s4.heap.objs.size)) (EP X pins σ Q) X.xe { s4 with heap := s4.heap.push { cls := .type "slice", data := .fields #[vl, vu, vs] } }
  rcases q with ⟨hx, q⟩ | ⟨hx, q⟩
  · obtain ⟨its, r, ht, hz⟩ := I5.list hx
    have hlen := r.length
    refine tail_any (ops := [.ref a, .ref s4.heap.objs.size]) ht.isList.typeIs (PySem.slot_list_getitem.lookup) ?_ (by with_unfolding_all rfl)
    refine wpAny_getItem_list_slice ht.isList (Heap.IsSliceOf.new _ vl vu vs) pl pu ps (by decide) ?_ (by rw [List.size_toArray]; omega)
    rw [PySem.W.krv_pick]
    refine ⟨.ref _, _, I5.laid (t' := s4.toks) (o := .lst xs.reverse) (fun b ob q => Heap.get?_push_of_some _ q) (Nat.le_refl _) ?_, rfl, q _ (I5.hok.fresh (Nat.le_refl _))⟩
    exact ⟨by rw [List.length_reverse]; exact hz, _, 0, r.reverse, Heap.get?_push_size _ rfl⟩
  · obtain ⟨its, r, ht, hz⟩ := I5.tuple hx
    have hlen := r.length
    refine tail_any (ops := [.ref a, .ref s4.heap.objs.size]) ht.typeIs (PyProof.Rows.slot_tuple_getitem.lookup) ?_ (by with_unfolding_all rfl)
    refine getItem_tuple_rev ht (Heap.IsSliceOf.new _ vl vu vs) pl pu ps ?_ (by rw [List.size_toArray]; omega)
    refine ⟨.ref _, _, I5.laid (t' := s4.toks) (o := .tup xs.reverse) (fun b ob q => Heap.get?_push_of_some _ q) (Nat.le_refl _) ?_, rfl, q _ (I5.hok.fresh (Nat.le_refl _))⟩
    exact ⟨by rw [List.length_reverse]; exact hz, _, r.reverse, ⟨_, Heap.get?_push_size _ rfl, rfl, _, rfl⟩⟩
end
section
variable {X : Cx} {R : Fr0} {W : WXX} {kd kd1 kd2 kd3 : Kd}
theorem RepL.rev {G : Gl0} {H : Hp} : ∀ {l : List PV} {vs : List V} {f : List Addr}, RepL G H l vs f → ∃ g, RepL G H l.reverse vs.reverse g ∧ ∀ a ∈ g, a ∈ f
  | [], vs, f, h => ⟨[], by rw [h.1]; exact RepL.nil, fun _ z => by simp at z⟩
  | x :: l, vs, f, h => by
    obtain ⟨v, vs', f1, f2, rfl, rfl, h1, h2⟩ := h
    obtain ⟨g, hg, k⟩ := RepL.rev h2
    refine ⟨g ++ f1, ?_, fun a ha => ?_⟩
    · rw [List.reverse_cons, List.reverse_cons]
      exact hg.append (RepL.one h1)
    · rcases List.mem_append.mp ha with z | z
      · exact List.mem_append_right _ (k a z)
      · exact List.mem_append_left _ z
theorem ev_rev {e : Expr} {k : Nat} {p1 p2 p3 pos : Pos} {ev : Env → Res (PV × Env)} (hK : R.G.K = X.K) (he : PE X e (rdE R W kd1 ev)) :
    PE X (.Subscript e (.Slice none none (some (.UnaryOp .USub (.Constant (.int 1) k p1) p2)) p3) pos) (rdE R W ⟨false, kd1.stb, true, kd1.nor⟩ fun env => (ev env).bind fun r => match r.1 with
      | .lst l => .ok (.lst l.reverse, r.2)
      | .tup l => .ok (.tup l.reverse, r.2)
      | _ => .fail) :=
  PE.by (pe_rev he) fun σ H Q F env k h => ⟨F, env, k, okR.bind Step.refl h fun q v H2 F2 fp _ k2 s2 v2 nr h2 => by
    obtain ⟨p, env2⟩ := q
    cases p with
    | lst l =>
      obtain ⟨a, vs, f, rfl, ha, hl, ef⟩ := v2.rep
      subst ef
      obtain ⟨g, hg, kg⟩ := hl.rev
      refine ⟨a, vs, rfl, .inl ⟨.of ha, fun z hz => ?_⟩⟩
      exact okR.pure h2 k2 s2 nr (NewV.lst k2.lok hz hg (by rw [List.length_reverse]; exact k2.lok.1 a vs (.of ha)) fun b hb => List.mem_cons_of_mem _ (kg b hb)) v2.old v2.st rfl fun z => z
    | tup l =>
      obtain ⟨a, vs, rfl, ha, hl⟩ := v2.rep
      obtain ⟨g, hg, kg⟩ := hl.rev
      refine ⟨a, vs, rfl, .inr ⟨hK ▸ ha, fun z hz => ?_⟩⟩
      exact okR.pure h2 k2 s2 nr (NewV.tup (t := true) k2.lok hz hg (by rw [List.length_reverse]; exact k2.lok.2 a vs ha) fun b hb => kg b hb) v2.old v2.st rfl fun z => z
    | _ => exact h2.elim⟩

/-! ### slices -/
theorem sIx_eq (n d : Nat) (o : Option Int) : Ev.sIx n d o = HT.sIx n d o := by
  cases o <;> rfl
theorem cut_eq (l : List V) (a b : Option Int) : Ev.cut l a b = cutV l a b := by
  unfold Ev.cut cutV
  rw [sIx_eq, sIx_eq]
theorem RepL.cut {G : Gl0} {H : Hp} {l : List PV} {vs : List V} {f : List Addr} (h : RepL G H l vs f) (a b : Option Int) : ∃ g, RepL G H (Ev.cut l a b) (cutV vs a b) g ∧ ∀ c ∈ g, c ∈ f := by
  rw [← cut_eq]
  unfold Ev.cut
  rw [h.length]
  obtain ⟨g1, h1, k1⟩ := h.drop (Ev.sIx l.length 0 a)
  obtain ⟨g2, h2, k2⟩ := h1.take (Ev.sIx l.length l.length b - Ev.sIx l.length 0 a)
  exact ⟨g2, h2, fun c hc => k1 c (k2 c hc)⟩
/-- an optional bound -/
def okO (R : Fr0) (W : WXX) (nor : Bool) (σ : St) (H : Hp) (F : Nat → List Addr) (env : Env) (Q : Option Int → Hp → Prop) : Res (Option Int × Env) → Prop
  | .ok r => ∀ H' F', EnvOk R σ H' F' r.2 → Step R.ms H F H' F' → Nor nor H F env H' F' r.2 → Q r.1 H'
  | .raise c x env' => ∀ d H' F', EnvOk R σ H' F' env' → Step R.ms H F H' F' → ExcAt R H' c x d → W (.ref (R.cls c)) (some d) σ H'
  | .fail => False
def rdO (R : Fr0) (W : WXX) (nor : Bool) (ev : Env → Res (Option Int × Env)) : TO := fun σ H Q => ∃ F env, EnvOk R σ H F env ∧ okO R W nor σ H F env Q (ev env)
theorem PO.imp {e : Option Expr} {t t' : TO} (h : PO X e t) (k : ∀ σ H Q, t' σ H Q → t σ H Q) : PO X e t' := ⟨fun pins s σ H Q I q => h.run pins s σ H Q I (k σ H Q q)⟩
theorem PO.by {e : Option Expr} {t : TO} {n : Bool} {ev : Env → Res (Option Int × Env)} (h : PO X e t) (k : ∀ σ H Q F env, EnvOk R σ H F env → okO R W n σ H F env Q (ev env) → t σ H Q) : PO X e (rdO R W n ev) :=
  PO.imp h fun σ H Q ⟨F, env, a, b⟩ => k σ H Q F env a b
theorem ev_no : PO X none (rdO R W true fun env => .ok (none, env)) := PO.imp po_none fun σ H Q ⟨F, env, k, h⟩ => h H F k Step.refl Nor.refl
theorem ev_so {e : Expr} {ev : Env → Res (PV × Env)} (he : PE X e (rdE R W kd ev)) : PO X (some e) (rdO R W kd.nor fun env => (ev env).bind fun r => match r.1 with
    | .int i => .ok (some i, r.2)
    | _ => .fail) := PO.by (po_some he) fun σ H Q F env k h => ⟨F, env, k, by
  cases e : ev env with
  | ok q =>
    rw [e] at h
    refine fun v H2 F2 fp k2 s2 v2 nr => ?_
    obtain ⟨p, env2⟩ := q
    cases p with
    | int i => exact ⟨_, v2.rep.1, h H2 F2 k2 s2 nr⟩
    | _ => exact h.elim
  | raise c x e' => rw [e] at h; exact h
  | fail => rw [e] at h; exact h⟩
theorem okR.bindO {σ : St} {H H1 : Hp} {F F1 : Nat → List Addr} {env env1 : Env} {Q : VK} {n1 : Bool} {QO : Option Int → Hp → Prop} {r : Res (Option Int × Env)} {k : Option Int × Env → Res (PV × Env)} (s0 : Step R.ms H F H1 F1) (h : okR R W kd σ H F env Q (r.bind k))
    (step : ∀ q H2 F2, r = .ok q → EnvOk R σ H2 F2 q.2 → Step R.ms H1 F1 H2 F2 → Nor n1 H1 F1 env1 H2 F2 q.2 → okR R W kd σ H F env Q (k q) → QO q.1 H2) :
    okO R W n1 σ H1 F1 env1 QO r := by
  cases r with
  | ok q => exact fun H2 F2 k1 k2 k4 => step q H2 F2 rfl k1 k2 k4 h
  | raise c x e => exact fun d H2 F2 k1 k2 k3 => h d H2 F2 k1 (s0.trans k2) k3
  | fail => exact h
def rSli (G : Gl0) : V → Option Int → Option Int → Hp → VK → Prop := fun x lo hi H Q => ∃ p fp r, RepF G H p x fp ∧ LenOk G.K H ∧ slice p lo hi = some r ∧ ∀ z H' fz, NewV G H fp r true z H' fz → Q z H'
theorem sl_P {G : Gl0} (hK : G.K = X.K) : SlR X (rSli G) := by
  intro pins s σ H x v vl vu lo hi sl Q I rx hs pl pu ⟨p, fp, r, hp, lok, e3, k⟩
  cases p with
  | tup l =>
    cases e3
    obtain ⟨a, vs, rfl, ha, hl⟩ := hp
    refine sl_tupA pins s σ H _ v vl vu lo hi sl Q I rx hs pl pu ⟨a, vs, rfl, hK ▸ ha, fun ⟨c1, c2⟩ => ?_, fun _ z hz => ?_⟩
    · refine k _ _ fp (NewV.partT lok ⟨a, vs, rfl, ha, ?_⟩ fun _ z => z)
      have ec : Ev.cut l lo hi = l := by
        unfold Ev.cut
        rw [sIx_eq, sIx_eq, ← hl.length, c1, c2, hl.length, List.drop_zero, Nat.sub_zero, List.take_length]
      rw [ec]
      exact hl
    · obtain ⟨g, hg, kg⟩ := hl.cut lo hi
      exact k _ _ g (NewV.tup lok hz hg (Nat.le_trans (cutV_length _ _ _) (lok.2 a vs ha)) kg)
  | lst l =>
    cases e3
    obtain ⟨a, vs, f, rfl, ha, hl, rfl⟩ := hp
    refine sl_list pins s σ H _ v vl vu lo hi sl Q I rx hs pl pu ⟨a, vs, rfl, .of ha, fun z hz => ?_⟩
    obtain ⟨g, hg, kg⟩ := hl.cut lo hi
    exact k _ _ _ (NewV.lst lok hz hg (Nat.le_trans (cutV_length _ _ _) (lok.1 a vs (.of ha))) fun b hb => List.mem_cons_of_mem _ (kg b hb))
  | str z =>
    simp only [slice] at e3
    split at e3
    · cases e3
      obtain ⟨rfl, _⟩ := hp
      refine sl_str pins s σ H _ v vl vu lo hi sl Q I rx hs pl pu ⟨z, rfl, ‹_›, ?_⟩
      have ec : cutS z lo hi = ⟨(Ev.cut z.cps.toList lo hi).toArray⟩ := by
        unfold cutS Ev.cut
        rw [sIx_eq, sIx_eq]
        rfl
      rw [ec]
      exact k _ _ [] (NewV.flat lok ⟨rfl, rfl⟩)
    · cases e3
  | _ => simp [slice] at e3
theorem ev_sl {a : Expr} {lo hi : Option Expr} {p2 pos : Pos} {eva : Env → Res (PV × Env)} {evl evh : Env → Res (Option Int × Env)} {n1 n2 : Bool} (hK : R.G.K = X.K) (ha : PE X a (rdE R W kd1 eva)) (hl : PO X lo (rdO R W n1 evl)) (hh : PO X hi (rdO R W n2 evh)) (hc : (kd1.stb || (n1 && n2)) = true) :
    PE X (.Subscript a (.Slice lo hi none p2) pos) (rdE R W ⟨false, kd1.stb, true, kd1.nor && (n1 && n2)⟩ fun env => (eva env).bind fun r => (evl r.2).bind fun p => (evh p.2).bind fun q => (ofO (slice r.1 p.1 q.1)).bind fun x => .ok (x, q.2)) :=
  PE.by (pe_slice (sl_P hK) ha hl hh) fun σ H Q F env k h => by
    refine ⟨F, env, k, okR.bind Step.refl h fun p x H1 F1 fp _ k1 s1 v1 m1 h1 => ?_⟩
    refine ⟨F1, p.2, k1, okR.bindO s1 h1 fun q H2 F2 _ k2 s2 m2 h2 => ?_⟩
    refine ⟨F2, q.2, k2, okR.bindO (s1.trans s2) h2 fun q3 H3 F3 _ k3 s3 m3 h3 => ?_⟩
    obtain ⟨z, e, h4⟩ := okR.ofO h3
    refine ⟨p.1, fp, z, v1.held k1 (s2.trans s3) (Nor.trans m2 m3) hc, k3.lok, e, fun zv H' fz nv => ?_⟩
    exact okR.pure h4 k3 ((s1.trans s2).trans s3) (Nor.trans m1 (Nor.trans m2 m3)) nv v1.old (fun c a ha => OW.none_of (s2.trans s3) (v1.st c a ha) (Option.ne_none_iff_exists'.mp (RepF.there _ _ _ v1.rep a ha))) rfl fun z => z

/-! ### isinstance, of built-in classes -/
def tyN : Ty → Option String
  | .int => some "int"
  | .bool => some "bool"
  | .tuple => some "tuple"
  | .str => some "str"
  | .list => some "list"
  | _ => none
theorem tyx_of {G : Gl0} {H : Hp} {p : PV} {x : V} {fp : List Addr} {t : Ty} {n : String} {b : Bool} (h : RepF G H p x fp) (hn : tyN t = some n) (e : isinst p t = some b) : ∃ tn, TyX G.K H x (.type tn) ∧ kitB tn n = some b := by
  cases p with
  | undef => exact h.elim
  | non =>
    rw [h.1]
    refine ⟨"NoneType", .base .non, ?_⟩
    cases t <;> cases hn <;> cases e <;> decide +kernel
  | bl c =>
    rw [h.1]
    refine ⟨"bool", .base (.bl c), ?_⟩
    cases t <;> cases hn <;> cases e <;> decide +kernel
  | int c =>
    rw [h.1]
    refine ⟨"int", .base (.int c), ?_⟩
    cases t <;> cases hn <;> cases e <;> decide +kernel
  | str c =>
    rw [h.1]
    refine ⟨"str", .base (.str c), ?_⟩
    cases t <;> cases hn <;> cases e <;> decide +kernel
  | tup l =>
    obtain ⟨a, vs, rfl, ha, hl⟩ := h
    refine ⟨"tuple", ?_, ?_⟩
    · rcases ha with (ha | ⟨o, ha⟩) | ⟨o, its, n, h1, h2, _⟩
      · exact .base (.tup ha)
      · exact .fTuple ha
      · exact .kTuple h1 h2
    · cases t <;> cases hn <;> cases e <;> decide +kernel
  | lst l =>
    obtain ⟨a, vs, f, rfl, ha, hl, _⟩ := h
    refine ⟨"list", .base (.lst ha), ?_⟩
    cases t <;> cases hn <;> cases e <;> decide +kernel
  | fn k => simp [isinst] at e
  | scr k => simp [isinst] at e
  | exc c k => cases t <;> first | (cases hn; done) | (simp [isinst] at e)
def rIsiP (G : Gl0) (t : Ty) : List V → Hp → VK → Prop := fun vs H Q => ∃ p x n b fp, vs = [x, .ty n] ∧ RepF G H p x fp ∧ tyN t = some n ∧ isinst p t = some b ∧ Q (.bl b) H
theorem isi_P {G : Gl0} {t : Ty} (hK : G.K = X.K) : CallR X (.builtin "isinstance") (rIsiP G t) := by
  intro pins s σ H vs us Q I rv ⟨p, x, n, b, fp, e, hp, hn, hi, q⟩
  subst e
  obtain ⟨tn, h1, h2⟩ := tyx_of hp hn hi
  exact call_isi pins s σ H _ us Q I rv ⟨x, .ty n, .type tn, .type n, b, rfl, .ty n, hK ▸ h1, kit_ty h2, q⟩
theorem ev_isi {a : Expr} {t : Ty} {n : String} {tx x : Str} {pt p pos : Pos} {eva : Env → Res (PV × Env)} (hK : R.G.K = X.K) (hg : Gl X x) (hm : X.mg x = none) (hv : bootBuiltins x = some (.builtin "isinstance")) (hnn : x ≠ "__name__") (hdb : (x == ("__debug__" : Str)) = false)
    (hgt : Gl X tx) (hmt : X.mg tx = none) (hvt : bootBuiltins tx = some (.type n)) (hnt : tx ≠ "__name__") (hdt : (tx == ("__debug__" : Str)) = false) (ht : tyN t = some n) (hs : noStar a = true) (ha : PE X a (rdE R W kd eva)) :
    PE X (.Call (.Name x p) [a, .Name tx pt] [] pos) (rdE R W ⟨true, true, true, kd.nor⟩ fun env => (eva env).bind fun r => (ofO (isinst r.1 t)).bind fun b => .ok (.bl b, r.2)) := by
  have h1 : PA X [a, .Name tx pt] (tCons (rdE R W kd eva) (tCons (tC (.ty n)) tNil)) := pa_cons ha (pa_cons (pe_bltn hgt hmt hvt rfl hnt hdt) pa_nil rfl) (star_cons hs _)
  refine PE.by (pe_callB (isi_P (t := t) hK) hg hm hv h1 hnn hdb (star_cons hs _) rfl) fun σ H Q F env k h => ?_
  refine ⟨F, env, k, okR.bind Step.refl h fun q v H2 F2 fp _ k2 s2 v2 nr h2 => ?_⟩
  obtain ⟨b, e, h3⟩ := okR.ofO h2
  exact ⟨q.1, v, n, b, fp, rfl, v2.rep, ht, e, okR.flat h3 k2 s2 nr (fun z => z) ⟨rfl, rfl⟩⟩
end
end Ev

/-! EvE9: stores into slots, targets, methods. -/
namespace Ev
open PySem PySem.Spec PyProof.Rows L2
/-- one slot's lists are other ones -/
def setF (F : Nat → List Addr) (n i : Nat) (fp : List Addr) : Nat → List Addr := fun j => if j = i ∧ i < n then fp else F j
theorem setF_same {F : Nat → List Addr} {n i : Nat} {fp : List Addr} (h : i < n) : setF F n i fp i = fp := if_pos ⟨rfl, h⟩
theorem setF_ne {F : Nat → List Addr} {n i j : Nat} {fp : List Addr} (h : j ≠ i) : setF F n i fp j = F j := if_neg fun z => h z.1
theorem setF_out {F : Nat → List Addr} {n i : Nat} {fp : List Addr} (h : ¬ i < n) : setF F n i fp = F := by
  funext j; exact if_neg fun z => h z.2
/-- behind a statement -/
structure StepS (ms : List Nat) (H : Hp) (F : Nat → List Addr) (H' : Hp) (F' : Nat → List Addr) : Prop where
  st : Stay (OW ms F) H H'
  ow : ∀ a, OW ms F' a → OW ms F a ∨ H a = none
  dom : ∀ a, H' a = none → H a = none
variable {R : Fr0} {σ : St} {H H1 H' : Hp} {F F1 F' : Nat → List Addr} {env env' : Env}
theorem Step.s (h : Step R.ms H F H' F') : StepS R.ms H F H' F' := ⟨h.st, h.ow, h.dom⟩
theorem StepS.refl : StepS R.ms H F H F := ⟨fun _ _ e _ => e, fun _ h => .inl h, fun _ e => e⟩
theorem StepS.trans (s1 : StepS R.ms H F H1 F1) (s2 : StepS R.ms H1 F1 H' F') : StepS R.ms H F H' F' where
  st := fun a o e n => s2.st a o (s1.st a o e n) fun z => by
    rcases s1.ow a z with h | h
    · exact n h
    · rw [e] at h; cases h
  ow := fun a h => by
    rcases s2.ow a h with h | h
    · exact s1.ow a h
    · exact .inr (s1.dom a h)
  dom := fun a e => s1.dom a (s2.dom a e)
theorem StepS.rep (s1 : StepS R.ms H F H1 F1) (k : EnvOk R σ H F env) {p : PV} {v : V} {fp : List Addr} (h : RepF R.G H p v fp) (n : ∀ a ∈ fp, ¬ OW R.ms F a) : RepF R.G H1 p v fp := RepF.stay s1.st k.lsts p v fp h n
theorem StepS.repL (s1 : StepS R.ms H F H1 F1) (k : EnvOk R σ H F env) {p : List PV} {v : List V} {fp : List Addr} (h : RepL R.G H p v fp) (n : ∀ a ∈ fp, ¬ OW R.ms F a) : RepL R.G H1 p v fp := RepL.stay s1.st k.lsts p v fp h n
theorem StepS.dead (s : StepS R.ms H F H1 F1) {a : Addr} (n : ¬ OW R.ms F a) (e : ∃ o, H a = some o) : ¬ OW R.ms F1 a := fun z => by
  obtain ⟨o, e⟩ := e
  rcases s.ow a z with h | h
  · exact n h
  · rw [e] at h; cases h
/-- no slot holds a new address -/
theorem EnvOk.nf (k : EnvOk R σ H F env) {a : Addr} (e : H a = none) (j : Nat) : a ∉ F j := fun hj => by
  cases ep : env.getD j .undef with
  | undef => rw [k.non j ep] at hj; simp at hj
  | _ =>
    obtain ⟨v, _, r⟩ := k.slot j _ (getD_of ep nofun) nofun
    exact RepF.there _ _ _ r a hj e
theorem EnvOk.set (k : EnvOk R σ H F env) {i : Nat} {p : PV} {v : V} {fp : List Addr} (r : RepF R.G H p v fp) (old : ∀ a ∈ fp, R.A a) (dis : ∀ j ∈ R.ms, j ≠ i → ∀ a ∈ fp, a ∉ F j)
    (own : i ∈ R.ms → fp.Nodup ∧ (∀ a ∈ fp, ∃ vs, H a = some (.lst vs)) ∧ (∀ a ∈ fp, R.H0 a = none ∨ (i = 0 ∧ R.br = true ∧ R.B a)) ∧ ∀ a ∈ fp, ∀ j, j ≠ i → a ∉ F j) (hrf : ∀ w, R.pin i = some w → w = v) :
    EnvOk R (σ.set i (some v)) H (setF F env.length i fp) (env.set i p) := by
  by_cases hi : i < env.length
  · have e1 : ∀ {j a}, a ∈ setF F env.length i fp j → (j = i ∧ a ∈ fp) ∨ (j ≠ i ∧ a ∈ F j) := fun {j a} h => by
      by_cases c : j = i
      · subst c; rw [setF_same hi] at h; exact .inl ⟨rfl, h⟩
      · rw [setF_ne c] at h; exact .inr ⟨c, h⟩
    refine ⟨by rw [List.length_set, List.length_set]; exact k.len, fun j q e n => ?_, fun j e => ?_, fun j hj => ?_, fun j hj a ha => ?_, fun j hj a ha => ?_, fun j hj l n a ha hb => ?_, fun j a ha => ?_, k.keep, k.dom, k.lok, fun j w hw => ?_⟩
    · rcases getElem?_set_undef e with ⟨rfl, rfl, _⟩ | ⟨hj, e⟩
      · exact ⟨v, by rw [List.getElem?_set_self (by rw [← k.len]; exact hi)], by rw [setF_same hi]; exact r⟩
      · rw [setF_ne hj]
        obtain ⟨w, h1, h2⟩ := k.slot j q e n
        exact ⟨w, by rw [List.getElem?_set_ne (Ne.symm hj)]; exact h1, h2⟩
    · by_cases c : j = i
      · subst c
        rw [List.getD_eq_getElem?_getD, List.getElem?_set_self hi] at e
        have e : p = .undef := e
        subst e
        exact r.elim
      · rw [setF_ne c]; exact k.non j (by rw [getD_set c] at e; exact e)
    · by_cases c : j = i
      · subst c; rw [setF_same hi]; exact (own hj).1
      · rw [setF_ne c]; exact k.nd j hj
    · rcases e1 ha with ⟨rfl, ha2⟩ | ⟨_, ha2⟩
      · exact (own hj).2.1 a ha2
      · exact k.mu j hj a ha2
    · rcases e1 ha with ⟨rfl, ha2⟩ | ⟨_, ha2⟩
      · exact (own hj).2.2.1 a ha2
      · exact k.ow j hj a ha2
    · rcases e1 ha with ⟨rfl, ha2⟩ | ⟨c, ha2⟩
      · rcases e1 hb with ⟨rfl, hb2⟩ | ⟨_, hb2⟩
        · exact n rfl
        · exact (own hj).2.2.2 a ha2 l n hb2
      · rcases e1 hb with ⟨rfl, hb2⟩ | ⟨_, hb2⟩
        · exact dis j hj c a hb2 ha2
        · exact k.dj j hj l n a ha2 hb2
    · rcases e1 ha with ⟨rfl, ha2⟩ | ⟨_, ha2⟩
      · exact old a ha2
      · exact k.old j a ha2
    · obtain ⟨h1, h2⟩ := k.rf j w hw
      refine ⟨h1, ?_⟩
      by_cases c : j = i
      · subst c
        rw [hrf w hw, List.getElem?_set_self (by rw [← k.len]; exact hi)]
      · rw [List.getElem?_set_ne (Ne.symm c)]; exact h2
  · rw [setF_out hi, List.set_eq_of_length_le (by rw [← k.len]; exact Nat.le_of_not_lt hi), List.set_eq_of_length_le (Nat.le_of_not_lt hi)]
    exact k
/-- a value that is nobody's, into a slot that owns nothing -/
theorem EnvOk.put (k : EnvOk R σ H F env) {i : Nat} {p : PV} {v : V} {fp : List Addr} (hi : i ∉ R.ms) (r : RepF R.G H p v fp) (old : ∀ a ∈ fp, R.A a) (st : ∀ a ∈ fp, ¬ OW R.ms F a) :
    EnvOk R (σ.set i (some v)) H (setF F env.length i fp) (env.set i p) := k.set r old (fun j hj _ a ha hb => st a ha ⟨j, hj, hb⟩) (fun z => absurd z hi) fun w hw => absurd (k.rf i w hw).1 hi
theorem OW_setF {ms : List Nat} {n i : Nat} {fp : List Addr} {a : Addr} (hi : i ∉ ms) : OW ms (setF F n i fp) a ↔ OW ms F a := by
  constructor
  · rintro ⟨j, hj, h⟩
    rw [setF_ne (fun z : j = i => hi (z ▸ hj))] at h
    exact ⟨j, hj, h⟩
  · rintro ⟨j, hj, h⟩
    exact ⟨j, hj, by rw [setF_ne (fun z : j = i => hi (z ▸ hj))]; exact h⟩

/-! ### targets -/
def T.sl : T → List Nat
  | .n i => [i]
  | .nil => []
  | .cons a r => a.sl ++ r.sl
def T.len : T → Nat
  | .cons _ r => r.len + 1
  | _ => 0
/-- behind the store into slots sl that own nothing -/
structure SetS (R : Fr0) (sl : List Nat) (σ : St) (F : Nat → List Addr) (env : Env) (σ' : St) (F' : Nat → List Addr) (env' : Env) : Prop where
  ow : ∀ a, OW R.ms F' a ↔ OW R.ms F a
  f : ∀ j, j ∉ sl → F' j = F j
  e : ∀ j, j ∉ sl → env'[j]? = env[j]?
  s : ∀ j, j ∉ sl → σ'[j]? = σ[j]?
theorem SetS.trans {s1 s2 : List Nat} {σ1 σ2 : St} {F2 : Nat → List Addr} {env1 env2 : Env} (a : SetS R s1 σ F env σ1 F1 env1) (b : SetS R s2 σ1 F1 env1 σ2 F2 env2) : SetS R (s1 ++ s2) σ F env σ2 F2 env2 := by
  refine ⟨fun x => (b.ow x).trans (a.ow x), fun j h => ?_, fun j h => ?_, fun j h => ?_⟩ <;> rw [List.mem_append] at h
  · rw [b.f j fun z => h (.inr z), a.f j fun z => h (.inl z)]
  · rw [b.e j fun z => h (.inr z), a.e j fun z => h (.inl z)]
  · rw [b.s j fun z => h (.inr z), a.s j fun z => h (.inl z)]
def rdG (R : Fr0) (t : T) : TG := fun v σ H Q => ∃ F env p fp env', EnvOk R σ H F env ∧ RepF R.G H p v fp ∧ (∀ a ∈ fp, R.A a) ∧ (∀ a ∈ fp, ¬ OW R.ms F a) ∧ assign t p env = some env' ∧ ∀ σ' F', EnvOk R σ' H F' env' → SetS R t.sl σ F env σ' F' env' → Q σ' H
def rdGs (R : Fr0) (t : T) : TGs := fun vs σ H Q => ∃ F env l fp env', EnvOk R σ H F env ∧ RepL R.G H l vs fp ∧ (∀ a ∈ fp, R.A a) ∧ (∀ a ∈ fp, ¬ OW R.ms F a) ∧ assign t (.tup l) env = some env' ∧ ∀ σ' F', EnvOk R σ' H F' env' → SetS R t.sl σ F env σ' F' env' → Q σ' H
section
variable {X : Cx}
theorem PG.imp {e : Expr} {t t' : TG} (h : PG X e t) (k : ∀ v σ H Q, t' v σ H Q → t v σ H Q) : PG X e t' := ⟨fun pins s σ H v u Q I r q => h.run pins s σ H v u Q I r (k v σ H Q q)⟩
theorem PGs.imp {e : List Expr} {t t' : TGs} (h : PGs X e t) (k : ∀ v σ H Q, t' v σ H Q → t v σ H Q) : PGs X e t' := ⟨fun pins s σ H v u Q I r q => h.run pins s σ H v u Q I r (k v σ H Q q)⟩
theorem tg_n {i : Nat} {x : Str} {pos : Pos} (hN : X.N.Nodup) (hi : X.N[i]? = some x) (hx : Loc X.env.scope x) (hf : X.fn x = true ∨ X.env.scope.names.lookup x = some .local) (hm : i ∉ R.ms) : PG X (.Name x pos) (rdG R (.n i)) :=
  PG.imp (pg_name hN hi hx hf) fun v σ H Q ⟨F, env, p, fp, env', k, r, old, st, e, q⟩ => by
    cases e
    exact q _ _ (k.put hm r old st) ⟨fun a => OW_setF hm, fun j h => setF_ne (by simpa [T.sl] using h), fun j h => by rw [List.getElem?_set_ne]; simpa [T.sl, eq_comm] using h, fun j h => by rw [List.getElem?_set_ne]; simpa [T.sl, eq_comm] using h⟩
theorem tgs_nil : PGs X [] (rdGs R .nil) := PGs.imp pgs_nil fun v σ H Q ⟨F, env, l, fp, env', k, r, old, st, e, q⟩ => by
  cases l with
  | nil =>
    simp only [assign, Option.some.injEq] at e
    subst e
    exact ⟨r.1, q _ _ k ⟨fun _ => .rfl, fun _ _ => rfl, fun _ _ => rfl, fun _ _ => rfl⟩⟩
  | cons x l => simp [assign] at e
theorem assignEach_cons {e : Expr} {es : List Expr} (hn : noStar e = true) (env : PySem.Env) : assignEach (e :: es) env = (false, PySem.assign e env) :: assignEach es env := by
  cases e <;> first | rfl | simp [noStar] at hn
theorem tgs_cons {a : T} {r : T} {e : Expr} {es : List Expr} (hn : noStar e = true) (h1 : PG X e (rdG R a)) (h2 : PGs X es (rdGs R r)) : PGs X (e :: es) (rdGs R (.cons a r)) :=
  PGs.imp (pgs_cons h1 h2 (by rw [assignEach_cons hn]; rfl)) fun v σ H Q ⟨F, env, l, fp, env', k, rl, old, st, e, q⟩ => by
    cases l with
    | nil => simp [Ev.assign] at e
    | cons x l =>
      obtain ⟨y, vs, f, f', rfl, rfl, r1, r2⟩ := rl
      simp only [Ev.assign, Option.bind_eq_some_iff] at e
      obtain ⟨env1, e1, e2⟩ := e
      refine ⟨y, vs, rfl, F, env, x, f, env1, k, r1, fun b hb => old b (by simp [hb]), fun b hb => st b (by simp [hb]), e1, fun σ1 F1 k1 s1 => ?_⟩
      exact ⟨F1, env1, l, f', env', k1, r2, fun b hb => old b (by simp [hb]), fun b hb => fun z => st b (by simp [hb]) ((s1.ow b).mp z), e2, fun σ2 F2 k2 s2 => q σ2 F2 k2 (s1.trans s2)⟩
theorem assign_len : ∀ {t : T} {l : List PV} {env env' : Env}, (∀ i, t ≠ .n i) → (∀ a r, t = .cons a r → True) → Ev.assign t (.tup l) env = some env' → True := fun _ _ _ => trivial
/-- a spine's length -/
def T.sp : T → Bool
  | .n _ => false
  | .nil => true
  | .cons _ r => r.sp
theorem assign_sp : ∀ {t : T} {l : List PV} {env env' : Env}, t.sp = true → Ev.assign t (.tup l) env = some env' → l.length = t.len
  | .nil, [], _, _, _, _ => rfl
  | .nil, _ :: _, _, _, _, e => by simp [Ev.assign] at e
  | .cons a r, [], _, _, _, e => by simp [Ev.assign] at e
  | .cons a r, x :: l, _, _, h, e => by
    simp only [Ev.assign, Option.bind_eq_some_iff] at e
    obtain ⟨env1, e1, e2⟩ := e
    simp [T.len, assign_sp (t := r) h e2]
theorem tg_tup {es : List Expr} {k : Nat} {t : T} {pos : Pos} (hK : R.G.K = X.K) (hc : X.calm = true) (h : PGs X es (rdGs R t)) (hsp : t.sp = true) (hn : (assignEach es X.env).length = t.len) (hst : (assignEach es X.env).findIdx? (·.1) = none) : PG X (.Tuple es k pos) (rdG R t) :=
  PG.imp (pg_tup (n := t.len) hc h hn hst) fun v σ H Q ⟨F, env, p, fp, env', k, r, old, st, e, q⟩ => by
    have sh : ∃ l, p = .tup l := by
      cases t with
      | n i => cases hsp
      | nil =>
        cases p with
        | tup l => exact ⟨l, rfl⟩
        | _ => simp [Ev.assign] at e
      | cons a r =>
        cases p with
        | tup l => exact ⟨l, rfl⟩
        | _ => simp [Ev.assign] at e
    obtain ⟨l, rfl⟩ := sh
    obtain ⟨a, vs, rfl, hs, hl⟩ := r
    exact ⟨a, vs, rfl, hK ▸ hs, by rw [hl.length]; exact assign_sp hsp e, F, env, l, fp, env', k, hl, old, st, e, q⟩

/-! ### methods -/
theorem attr_base {o : Expr} {name : Str} {env : PySem.Env} {w : Sem Value} (h : (match o with | .Call (.Name _ _) [] [] _ => false | _ => true) = true) : attributeBase o name env w = w := by
  unfold attributeBase
  split
  · simp at h
  · rfl
end
end Ev

/-! EvE10: what a loop walks. -/
namespace Ev
open PySem PySem.Spec PyProof.Rows L2
/-- an iterator yields the items, as long as what stands outside O stays -/
def ItOk (R : Fr0) (O : Addr → Prop) (H : Hp) (J : L2.It) (items : List PV) (fs : List Addr) : Prop :=
  ∃ Gp Y, Walk J items.length Gp Y ∧ (∀ H', Stay O H H' → Gp H') ∧ ∀ i H1 x H', i < items.length → Stay O H H1 → LenOk R.G.K H1 → Y i H1 x H' → ∃ p fz, items[i]? = some p ∧ NewV R.G H1 fs p false x H' fz
def OO (stb : Bool) (ms : List Nat) (F : Nat → List Addr) : Addr → Prop := if stb = true then OW ms F else fun _ => False
def okI (R : Fr0) (W : WXX) (stb nor : Bool) (σ : St) (H : Hp) (F : Nat → List Addr) (env : Env) (Q : L2.It → Hp → Prop) : Res (List PV × Env) → Prop
  | .ok r => ∀ J H' F' fs, EnvOk R σ H' F' r.2 → Step R.ms H F H' F' → ItOk R (OO stb R.ms F') H' J r.1 fs → (∀ a ∈ fs, R.A a) → (∀ a ∈ fs, (∃ o, H' a = some o) ∧ ¬ OW R.ms F' a) → Nor nor H F env H' F' r.2 → Q J H'
  | .raise c x env' => ∀ d H' F', EnvOk R σ H' F' env' → Step R.ms H F H' F' → ExcAt R H' c x d → W (.ref (R.cls c)) (some d) σ H'
  | .fail => False
def rdI (R : Fr0) (W : WXX) (stb nor : Bool) (ev : Env → Res (List PV × Env)) : TI := fun σ H Q => ∃ F env, EnvOk R σ H F env ∧ okI R W stb nor σ H F env Q (ev env)
variable {R : Fr0} {W : WXX} {σ : St} {H H1 H' : Hp} {F F1 F' : Nat → List Addr} {env env1 env' : Env} {own stb nor o1 s1 n1 : Bool} {kd kd1 kd2 : Kd}
theorem OO.lsts (k : EnvOk R σ H F env) : Lsts (OO stb R.ms F) H := fun a h => by
  unfold OO at h
  split at h
  · exact k.lsts a h
  · exact h.elim
theorem okI.bind {env1 : Env} {Q : L2.It → Hp → Prop} {Q1 : VK} {r : Res (PV × Env)} {k : PV × Env → Res (List PV × Env)} (s0 : Step R.ms H F H1 F1) (h : okI R W stb nor σ H F env Q (r.bind k))
    (step : ∀ q v H2 F2 fp, r = .ok q → EnvOk R σ H2 F2 q.2 → Step R.ms H1 F1 H2 F2 → ValOk R kd1 H1 F1 H2 F2 q.1 v fp → Nor kd1.nor H1 F1 env1 H2 F2 q.2 → okI R W stb nor σ H F env Q (k q) → Q1 v H2) :
    okR R W kd1 σ H1 F1 env1 Q1 r := by
  cases r with
  | ok q => exact fun v H2 F2 fp k1 k2 k3 k4 => step q v H2 F2 fp rfl k1 k2 k3 k4 h
  | raise c x e => exact fun d H2 F2 k1 k2 k3 => h d H2 F2 k1 (s0.trans k2) k3
  | fail => exact h
theorem okI.bindA {env1 : Env} {Q : L2.It → Hp → Prop} {QA : List V → Hp → Prop} {r : Res (List PV × Env)} {k : List PV × Env → Res (List PV × Env)} (s0 : Step R.ms H F H1 F1) (h : okI R W stb nor σ H F env Q (r.bind k))
    (step : ∀ q vs H2 F2 fp, r = .ok q → EnvOk R σ H2 F2 q.2 → Step R.ms H1 F1 H2 F2 → RowOk R o1 s1 H1 F1 H2 F2 q.1 vs fp → Nor n1 H1 F1 env1 H2 F2 q.2 → okI R W stb nor σ H F env Q (k q) → QA vs H2) :
    okA R W o1 s1 n1 σ H1 F1 env1 QA r := by
  cases r with
  | ok q => exact fun v H2 F2 fp k1 k2 k3 k4 => step q v H2 F2 fp rfl k1 k2 k3 k4 h
  | raise c x e => exact fun d H2 F2 k1 k2 k3 => h d H2 F2 k1 (s0.trans k2) k3
  | fail => exact h
theorem okI.ofO {α : Type} {Q : L2.It → Hp → Prop} {o : Option α} {k : α → Res (List PV × Env)} (h : okI R W stb nor σ H F env Q ((Ev.ofO o).bind k)) : ∃ x, o = some x ∧ okI R W stb nor σ H F env Q (k x) := by
  cases o with
  | none => exact h.elim
  | some x => exact ⟨x, rfl, h⟩
section
variable {X : Cx} {tg : Expr}
theorem PI.imp {e : Expr} {t t' : TI} (h : PI X tg e t) (k : ∀ σ H Q, t' σ H Q → t σ H Q) : PI X tg e t' := ⟨fun pins s σ H Q I q => h.run pins s σ H Q I (k σ H Q q)⟩
/-! ### a list or a tuple -/
def iSeq (K : PySem.W.Frag) (te : TE) : TI := fun σ H R => te σ H fun x H1 => ∃ a, x = .ref a ∧ (((∃ xs, SqL K H1 a xs) ∧ R (Itl K a) H1) ∨ ((∃ xs, SqT K H1 a xs) ∧ R (Itt K a) H1))
theorem pi_seq {l : Expr} {tl : TE} (hl : PE X l tl) : PI X tg l (iSeq X.K tl) := by
  refine ⟨fun pins s σ H R I h => ?_⟩
  refine thn (hl.run pins s σ H _ I h) fun v s1 ⟨x, H1, I1, r1, q1⟩ => ?_
  obtain ⟨a, e, q1⟩ := q1
  subst e
  cases r1
  rcases q1 with ⟨⟨xs, hq⟩, q⟩ | ⟨⟨xs, hq⟩, q⟩
  · obtain ⟨its, rv, p, hz⟩ := I1.list hq
    refine wpAny_pyIter_list p.isList ?_
    exact pi_one (tk := s1.toks) I1 _ (turn_list a _) ⟨_, Heap.get?_push_size _ rfl, rfl, rfl⟩ q
  · obtain ⟨its, rv, p, hz⟩ := I1.tuple hq
    refine wpAny_pyIter_tuple (show s1.heap.IsTuple a its.toArray from p) ?_
    exact pi_one (tk := s1.toks) I1 _ (turn_tuple a _) ⟨_, Heap.get?_push_size _ rfl, rfl, rfl⟩ q
theorem Stay.sub {O O' : Addr → Prop} (h : Stay O H H') (k : ∀ a, O a → O' a) : Stay O' H H' := fun a o e n => h a o e fun z => n (k a z)
theorem it_list {O : Addr → Prop} {l : List PV} {a : Addr} {xs : List V} {f : List Addr} (ls : Lsts O H) (ha : ¬ O a) (hs : SqL R.G.K H a xs) (r : RepL R.G H l xs f) (n : ∀ b ∈ f, ¬ O b) : ItOk R O H (Itl R.G.K a) l f := by
  refine ⟨fun H' => SqL R.G.K H' a xs, YAt xs, by rw [← r.length]; exact walk_list, fun H' st => st.sqL ha hs, fun i H1 x H' hi st lok y => ?_⟩
  obtain ⟨rfl, e⟩ := y
  have r1 := RepL.stay st ls l xs f r n
  obtain ⟨z, f', e2, r2, sub⟩ := r1.get (i := i) (x := l[i]) (by simp [hi])
  rw [e] at e2
  cases e2
  exact ⟨l[i], f', by simp [hi], NewV.part lok r2 sub⟩
theorem it_tup {O : Addr → Prop} {l : List PV} {a : Addr} {xs : List V} {f : List Addr} (ls : Lsts O H) (hs : SqT R.G.K H a xs) (r : RepL R.G H l xs f) (n : ∀ b ∈ f, ¬ O b) : ItOk R O H (Itt R.G.K a) l f := by
  refine ⟨fun H' => SqT R.G.K H' a xs, YAt xs, by rw [← r.length]; exact walk_tup, fun H' st => st.sqT ls hs, fun i H1 x H' hi st lok y => ?_⟩
  obtain ⟨rfl, e⟩ := y
  have r1 := RepL.stay st ls l xs f r n
  obtain ⟨z, f', e2, r2, sub⟩ := r1.get (i := i) (x := l[i]) (by simp [hi])
  rw [e] at e2
  cases e2
  exact ⟨l[i], f', by simp [hi], NewV.part lok r2 sub⟩
theorem RepF.seqL {K : PySem.W.Frag} {G : Gl0} (hK : G.K = K) {p : PV} {l : List PV} {v : V} {fp : List Addr} (r : RepF G H p v fp) (e : seqOf p = some l) :
    ∃ a xs f, v = .ref a ∧ RepL G H l xs f ∧ (∀ b ∈ f, b ∈ fp) ∧ ((SqL K H a xs ∧ (a ∈ fp ∨ (∃ o, H a = some (.frz o (.lst xs))) ∨ KLst K a xs)) ∨ SqT K H a xs) := by
  subst hK
  cases p with
  | tup m =>
    cases e
    obtain ⟨a, xs, rfl, hs, hl⟩ := r
    exact ⟨a, xs, fp, rfl, hl, fun _ z => z, .inr hs⟩
  | lst m =>
    cases e
    obtain ⟨a, xs, f, rfl, hs, hl, rfl⟩ := r
    exact ⟨a, xs, f, rfl, hl, fun b z => by simp [z], .inl ⟨.of hs, .inl (by simp)⟩⟩
  | scr m =>
    cases e
    obtain ⟨a, xs, rfl, hs, hl, rfl⟩ := r
    refine ⟨a, xs, [], rfl, hl, fun _ z => z, .inl ⟨?_, .inr hs⟩⟩
    rcases hs with ⟨o, h⟩ | h
    · exact .inl (.inr ⟨o, h⟩)
    · exact .inr h
  | _ => cases e
theorem Stay.klst {O : Addr → Prop} (st : Stay O H H') (ls : Lsts O H) {K : PySem.W.Frag} {a : Addr} {xs : List V} (h : (∃ o, H a = some (.frz o (.lst xs))) ∨ KLst K a xs) : SqL K H' a xs := by
  rcases h with ⟨o, h⟩ | h
  · refine .inl (.inr ⟨o, st a _ h fun z => ?_⟩)
    obtain ⟨vs, e⟩ := ls a z
    rw [h] at e; cases e
  · exact .inr h
/-- a script -/
theorem it_klst {O : Addr → Prop} {l : List PV} {a : Addr} {xs : List V} {f : List Addr} (ls : Lsts O H) (hs : (∃ o, H a = some (.frz o (.lst xs))) ∨ KLst R.G.K a xs) (r : RepL R.G H l xs f) (n : ∀ b ∈ f, ¬ O b) : ItOk R O H (Itl R.G.K a) l f := by
  refine ⟨fun H' => SqL R.G.K H' a xs, YAt xs, by rw [← r.length]; exact walk_list, fun H' st => st.klst ls hs, fun i H1 x H' hi st lok y => ?_⟩
  obtain ⟨rfl, e⟩ := y
  have r1 := RepL.stay st ls l xs f r n
  obtain ⟨z, f', e2, r2, sub⟩ := r1.get (i := i) (x := l[i]) (by simp [hi])
  rw [e] at e2
  cases e2
  exact ⟨l[i], f', by simp [hi], NewV.part lok r2 sub⟩
theorem evi_e {e : Expr} {ev : Env → Res (PV × Env)} (hK : R.G.K = X.K) (he : PE X e (rdE R W kd ev)) (hs : kd.stb = true) : PI X tg e (rdI R W true kd.nor fun env => (ev env).bind fun r => (ofO (seqOf r.1)).bind fun l => .ok (l, r.2)) :=
  PI.imp (pi_seq he) fun σ H Q ⟨F, env, k, h⟩ => by
    refine ⟨F, env, k, okI.bind Step.refl h fun q v H2 F2 fp _ k2 s2 v2 nr h2 => ?_⟩
    obtain ⟨l, e1, h3⟩ := okI.ofO h2
    obtain ⟨a, xs, f, rfl, hl, hf, hq⟩ := v2.rep.seqL hK e1
    have n : ∀ b ∈ f, ¬ OW R.ms F2 b := fun b hb => v2.st hs b (hf b hb)
    rcases hq with ⟨hq, w⟩ | hq
    · refine ⟨a, rfl, .inl ⟨⟨xs, hq⟩, h3 _ H2 F2 f k2 s2 ?_ (fun b hb => v2.old b (hf b hb)) (fun b hb => ⟨Option.ne_none_iff_exists'.mp (RepL.there _ _ _ hl b hb), n b hb⟩) nr⟩⟩
      rw [← hK] at hq w ⊢
      rcases w with w | w
      · exact it_list k2.lsts (v2.st hs a w) hq hl n
      · exact it_klst k2.lsts w hl n
    · refine ⟨a, rfl, .inr ⟨⟨xs, hq⟩, h3 _ H2 F2 f k2 s2 ?_ (fun b hb => v2.old b (hf b hb)) (fun b hb => ⟨Option.ne_none_iff_exists'.mp (RepL.there _ _ _ hl b hb), n b hb⟩) nr⟩⟩
      rw [← hK] at hq ⊢
      exact it_tup k2.lsts hq hl n
/-- a row that some slot owns, its items without lists; the body changes nothing -/
theorem evi_m {e : Expr} {ev : Env → Res (PV × Env)} (hK : R.G.K = X.K) (he : PE X e (rdE R W kd ev)) : PI X tg e (rdI R W false kd.nor fun env => (ev env).bind fun r => (ofO (seqOf r.1)).bind fun l => if PV.lfs l = true then .ok (l, r.2) else .fail) :=
  PI.imp (pi_seq he) fun σ H Q ⟨F, env, k, h⟩ => by
    refine ⟨F, env, k, okI.bind Step.refl h fun q v H2 F2 fp _ k2 s2 v2 nr h2 => ?_⟩
    obtain ⟨l, e1, h3⟩ := okI.ofO h2
    by_cases c : PV.lfs l = true
    · rw [if_pos c] at h3
      obtain ⟨a, xs, f, rfl, hl, hf, hq⟩ := v2.rep.seqL hK e1
      have e2 : f = [] := RepL.lf _ _ _ hl c
      subst e2
      have ls : Lsts (OO false R.ms F2) H2 := fun a z => z.elim
      rcases hq with ⟨hq, w⟩ | hq
      · refine ⟨a, rfl, .inl ⟨⟨xs, hq⟩, h3 _ H2 F2 [] k2 s2 ?_ (fun b hb => by simp at hb) (fun b hb => by simp at hb) nr⟩⟩
        rw [← hK] at hq ⊢
        exact it_list ls (fun z => z) hq hl fun b hb => by simp at hb
      · refine ⟨a, rfl, .inr ⟨⟨xs, hq⟩, h3 _ H2 F2 [] k2 s2 ?_ (fun b hb => by simp at hb) (fun b hb => by simp at hb) nr⟩⟩
        rw [← hK] at hq ⊢
        exact it_tup ls hq hl fun b hb => by simp at hb
    · rw [if_neg c] at h3
      exact h3.elim
/-! ### ranges -/
theorem rng_len {a : Int} : ∀ {n : Nat}, (rng a n).length = n
  | 0 => rfl
  | n + 1 => by simp [rng, rng_len (n := n)]
theorem rng_get {a : Int} : ∀ {n i : Nat}, i < n → (rng a n)[i]? = some (.int (a + i))
  | n + 1, 0, _ => by simp [rng]
  | n + 1, i + 1, h => by
    simp only [rng, List.getElem?_cons_succ]
    rw [rng_get (a := a + 1) (n := n) (i := i) (by omega)]
    congr 2
    omega
theorem rngC_len {a c : Int} : ∀ {n : Nat}, (rngC a c n).length = n
  | 0 => rfl
  | n + 1 => by simp [rngC, rngC_len (n := n)]
theorem rngC_get {a c : Int} : ∀ {n i : Nat}, i < n → (rngC a c n)[i]? = some (.int (a + (i : Nat) * c))
  | n + 1, 0, _ => by simp [rngC]
  | n + 1, i + 1, h => by
    simp only [rngC, List.getElem?_cons_succ]
    rw [rngC_get (a := a + c) (n := n) (i := i) (by omega)]
    congr 2
    rw [show (((i + 1 : Nat) : Int)) = (i : Int) + 1 by omega, Int.add_mul, Int.one_mul]
    omega
theorem it_rng {O : Addr → Prop} {lo : Int} {n : Nat} : ItOk R O H (Itr lo n) (rng lo n) [] := by
  refine ⟨fun _ => True, YFn fun i => .int (lo + i), by rw [rng_len]; exact walk_range, fun _ _ => trivial, fun i H1 x H' hi st lok y => ?_⟩
  obtain ⟨rfl, rfl⟩ := y
  rw [rng_len] at hi
  exact ⟨_, [], rng_get hi, NewV.flat lok ⟨rfl, rfl⟩⟩
theorem it_rngC {O : Addr → Prop} {lo c : Int} {n : Nat} : ItOk R O H (Itc lo c n) (rngC lo c n) [] := by
  refine ⟨fun _ => True, YFn fun i => .int (lo + (i : Nat) * c), by rw [rngC_len]; exact walk_rangeC, fun _ _ => trivial, fun i H1 x H' hi st lok y => ?_⟩
  obtain ⟨rfl, rfl⟩ := y
  rw [rngC_len] at hi
  exact ⟨_, [], rngC_get hi, NewV.flat lok ⟨rfl, rfl⟩⟩
theorem small62_iff {i : Int} : small62 i = true ↔ -(2 ^ 62) ≤ i ∧ i < 2 ^ 62 := by
  unfold small62
  rw [Bool.and_eq_true, decide_eq_true_eq, decide_eq_true_eq]
  constructor <;> rintro ⟨h1, h2⟩ <;> constructor <;> omega
def evRng (ev : Env → Res (List PV × Env)) : Env → Res (List PV × Env) := fun env => (ev env).bind fun r => (ofO (ranges r.1)).bind fun l => .ok (l, r.2)
theorem evi_rng1 {a : Expr} {p pos : Pos} {ev : Env → Res (List PV × Env)} (hg : Gl X "range") (hm : X.mg "range" = none) (ha : PA X [a] (rdA R W o1 s1 n1 ev)) (hl : ∀ env r, ev env = .ok r → r.1.length = 1) (hn : noStar a = true) :
    PI X tg (.Call (.Name "range" p) [a] [] pos) (rdI R W stb n1 (evRng ev)) :=
  PI.imp (pi_range1 hg hm ha (star_cons hn _)) fun σ H Q ⟨F, env, k, h⟩ => by
    refine ⟨F, env, k, okI.bindA Step.refl h fun q vs H2 F2 fp e0 k2 s2 v2 nr h2 => ?_⟩
    obtain ⟨l, e1, h3⟩ := okI.ofO h2
    have hl1 := hl env q e0
    obtain ⟨ps, env2⟩ := q
    match ps, hl1 with
    | [p1], _ =>
      cases p1 with
      | int j =>
        obtain ⟨v, e, r⟩ := RepL.one_inv v2.rep
        subst e
        obtain ⟨rfl, rfl⟩ := r
        simp only [ranges] at e1
        split at e1
        · rename_i c
          cases e1
          obtain ⟨c1, c2⟩ := small62_iff.mp c
          exact ⟨j, rfl, c1, c2, h3 _ H2 F2 [] k2 s2 it_rng (fun b hb => by simp at hb) (fun b hb => by simp at hb) nr⟩
        · cases e1
      | _ => simp [ranges] at e1
theorem evi_rng2 {a b : Expr} {p pos : Pos} {ev : Env → Res (List PV × Env)} (hg : Gl X "range") (hm : X.mg "range" = none) (ha : PA X [a, b] (rdA R W o1 s1 n1 ev)) (hl : ∀ env r, ev env = .ok r → r.1.length = 2) (hn : noStar a = true) (hn2 : noStar b = true) :
    PI X tg (.Call (.Name "range" p) [a, b] [] pos) (rdI R W stb n1 (evRng ev)) :=
  PI.imp (pi_range2 hg hm ha (by rw [star_cons hn, star_cons hn2]; rfl) (by rw [star_cons hn2]; rfl)) fun σ H Q ⟨F, env, k, h⟩ => by
    refine ⟨F, env, k, okI.bindA Step.refl h fun q vs H2 F2 fp e0 k2 s2 v2 nr h2 => ?_⟩
    obtain ⟨l, e1, h3⟩ := okI.ofO h2
    have hl1 := hl env q e0
    obtain ⟨ps, env2⟩ := q
    match ps, hl1 with
    | [p1, p2], _ =>
      cases p1 with
      | int i =>
        cases p2 with
        | int j =>
          obtain ⟨v, w, f1, f2, e, _, r, r'⟩ := RepL.two_inv v2.rep
          subst e
          obtain ⟨rfl, rfl⟩ := r
          obtain ⟨rfl, rfl⟩ := r'
          simp only [ranges] at e1
          split at e1
          · rename_i c
            cases e1
            obtain ⟨c, d⟩ := Bool.and_eq_true_iff.mp c
            obtain ⟨c1, c2⟩ := small62_iff.mp c
            obtain ⟨d1, d2⟩ := small62_iff.mp d
            exact ⟨i, j, rfl, ⟨c1, c2, d1, d2⟩, h3 _ H2 F2 [] k2 s2 it_rng (fun b hb => by simp at hb) (fun b hb => by simp at hb) nr⟩
          · cases e1
        | _ => simp [ranges] at e1
      | _ => simp [ranges] at e1
end
end Ev

/-! EvE11: zip, enumerate, range with a step; methods of lists. -/
namespace Ev
open PySem PySem.Spec PyProof.Rows L2 RZ
variable {R : Fr0} {W : WXX} {σ : St} {H H1 H' : Hp} {F F1 F' : Nat → List Addr} {env env1 env' : Env} {own stb nor o1 s1 n1 : Bool} {kd kd1 kd2 : Kd}
theorem zips_len : ∀ {l r : List PV}, (zips l r).length = min l.length r.length
  | [], _ => by simp [zips]
  | _ :: _, [] => by simp [zips]
  | x :: l, y :: r => by simp [zips, zips_len (l := l) (r := r), Nat.succ_min_succ]
theorem zips_get : ∀ {l r : List PV} {i : Nat} {x y : PV}, l[i]? = some x → r[i]? = some y → (zips l r)[i]? = some (.tup [x, y])
  | [], _, _, _, _, e, _ => by simp at e
  | _ :: _, [], _, _, _, _, e => by simp at e
  | a :: l, b :: r, 0, x, y, e1, e2 => by
    simp at e1 e2
    subst e1 e2
    simp [zips]
  | a :: l, b :: r, i + 1, x, y, e1, e2 => by
    simp only [zips, List.getElem?_cons_succ] at e1 e2 ⊢
    exact zips_get e1 e2
theorem pairs_len : ∀ {l : List PV} {n : Int}, (pairs n l).length = l.length
  | [], _ => rfl
  | x :: l, n => by simp [pairs, pairs_len (l := l)]
theorem pairs_get : ∀ {l : List PV} {n : Int} {i : Nat} {x : PV}, l[i]? = some x → (pairs n l)[i]? = some (.tup [.int (n + i), x])
  | [], _, _, _, e => by simp at e
  | a :: l, n, 0, x, e => by
    simp at e
    subst e
    simp [pairs]
  | a :: l, n, i + 1, x, e => by
    simp only [pairs, List.getElem?_cons_succ] at e ⊢
    rw [pairs_get e]
    congr 4
    omega
theorem RepL.pair {x y : PV} {v w : V} {f g : List Addr} (h : RepF R.G H x v f) (k : RepF R.G H y w g) : RepL R.G H [x, y] [v, w] (f ++ g) := RepL.cons h (RepL.one k)
theorem it_pair {O : Addr → Prop} {J : L2.It} {l r : List PV} {xs ys : List V} {f g : List Addr} {Gp : Hp → Prop} (ls : Lsts O H) (rl : RepL R.G H l xs f) (rr : RepL R.G H r ys g) (n : ∀ b ∈ f ++ g, ¬ O b)
    (w : Walk J (min l.length r.length) Gp (YPair (fun i => xs[i]?) (fun i => ys[i]?))) (hg : ∀ H', Stay O H H' → Gp H') : ItOk R O H J (zips l r) (f ++ g) := by
  refine ⟨Gp, YPair (fun i => xs[i]?) (fun i => ys[i]?), by rw [zips_len]; exact w, hg, fun i H1 x H' hi st lok y => ?_⟩
  rw [zips_len] at hi
  obtain ⟨t, v, u, rfl, ht, rfl, e1, e2⟩ := y
  have r1 := RepL.stay st ls l xs f rl fun b hb => n b (by simp [hb])
  have r2 := RepL.stay st ls r ys g rr fun b hb => n b (by simp [hb])
  obtain ⟨z, f', e3, q1, s1⟩ := r1.get (i := i) (x := l[i]'(by omega)) (by simp)
  obtain ⟨z2, g', e4, q2, s2⟩ := r2.get (i := i) (x := r[i]'(by omega)) (by simp)
  have e1 : xs[i]? = some v := e1
  have e2 : ys[i]? = some u := e2
  rw [e1] at e3; cases e3
  rw [e2] at e4; cases e4
  refine ⟨.tup [l[i]'(by omega), r[i]'(by omega)], f' ++ g', zips_get (by simp) (by simp), NewV.tup lok ht (RepL.pair q1 q2) (by show 2 ≤ sizeLine; decide) fun b hb => ?_⟩
  rcases List.mem_append.mp hb with z | z
  · exact List.mem_append_left _ (s1 b z)
  · exact List.mem_append_right _ (s2 b z)
section
variable {X : Cx}
theorem walk_zipT {K : PySem.W.Frag} {a b : Addr} {xs ys : List V} {n : Nat} (hn : n = min xs.length ys.length) : Walk (ItzT K a b) n (fun H => SqT K H a xs ∧ SqT K H b ys) (YPair (fun i => xs[i]?) (fun i => ys[i]?)) := by
  subst hn
  refine ⟨fun i _ hi q => ?_, fun _ q => ⟨xs, ys, q.1, q.2, by omega⟩, fun i H v H' _ q y => ?_⟩
  · have h1 : i < xs.length := by omega
    have h2 : i < ys.length := by omega
    exact ⟨xs, ys, xs[i], ys[i], q.1, q.2, by simp [h1], by simp [h2]⟩
  · obtain ⟨T, x, z, h1, h2, h3, h4, h5⟩ := y
    exact ⟨T, x, z, h1, h2, h3, h4 xs q.1, h5 ys q.2⟩
def evZip (ev : Env → Res (List PV × Env)) : Env → Res (List PV × Env) := fun env => (ev env).bind fun r => match r.1 with
  | [x, y] => (ofO (zip2 x y)).bind fun l => .ok (l, r.2)
  | _ => .fail
theorem OO_true {ms : List Nat} {F : Nat → List Addr} : OO true ms F = OW ms F := if_pos rfl
theorem evi_zip {a b : Expr} {p pos tpos : Pos} {elts : List Expr} {kk : Nat} {ev : Env → Res (List PV × Env)} (hK : R.G.K = X.K) (hg : Gl X "zip") (hm : X.mg "zip" = none) (ha : PA X [a, b] (rdA R W o1 true n1 ev)) (hn : noStar a = true) (hn2 : noStar b = true) :
    PI X (.Tuple elts kk tpos) (.Call (.Name "zip" p) [a, b] [] pos) (rdI R W true n1 (evZip ev)) :=
  PI.imp (pi_zipA hg hm ha (by rw [star_cons hn]) (by rw [star_cons hn2]; rfl)) fun σ H Q ⟨F, env, k, h⟩ => by
    refine ⟨F, env, k, okI.bindA Step.refl h fun q vs H2 F2 fp e0 k2 s2 v2 nr h2 => ?_⟩
    obtain ⟨ps, env2⟩ := q
    match ps with
    | [x, y] =>
      obtain ⟨l, e1, h3⟩ := okI.ofO h2
      obtain ⟨v, w, f1, f2, e, e', r, r'⟩ := RepL.two_inv v2.rep
      subst e e'
      have n := v2.st rfl
      have ol := v2.old
      have th : ∀ {l : List PV} {vs : List V} (f : List Addr) b, RepL R.G H2 l vs f → b ∈ f → ∃ o, H2 b = some o := fun f b r hb => Option.ne_none_iff_exists'.mp (RepL.there _ _ _ r b hb)
      cases x with
      | tup m =>
        cases y with
        | tup m2 =>
          cases e1
          obtain ⟨a1, xs, rfl, ha1, r1⟩ := r
          obtain ⟨a2, ys, rfl, ha2, r2⟩ := r'
          refine ⟨a1, a2, xs, ys, rfl, .inr ⟨hK ▸ ha1, hK ▸ ha2, h3 _ H2 F2 _ k2 s2 (OO_true ▸ it_pair (Gp := fun H => SqT R.G.K H a1 xs ∧ SqT R.G.K H a2 ys) k2.lsts r1 r2 n (by rw [← hK]; exact walk_zipT (by rw [r1.length, r2.length])) fun H' st => ⟨st.sqT k2.lsts ha1, st.sqT k2.lsts ha2⟩) ol (fun b hb => ⟨th _ b (r1.append r2) hb, n b hb⟩) nr⟩⟩
        | _ => cases e1
      | lst m =>
        cases y with
        | lst m2 =>
          cases e1
          obtain ⟨a1, xs, g1, rfl, ha1, r1, rfl⟩ := r
          obtain ⟨a2, ys, g2, rfl, ha2, r2, rfl⟩ := r'
          have sub : ∀ b ∈ g1 ++ g2, b ∈ (a1 :: g1) ++ (a2 :: g2) := fun b hb => by
            rcases List.mem_append.mp hb with z | z <;> simp [z]
          refine ⟨a1, a2, xs, ys, rfl, .inl ⟨.of ha1, .of ha2, h3 _ H2 F2 (g1 ++ g2) k2 s2 (OO_true ▸ it_pair (Gp := fun H => SqL R.G.K H a1 xs ∧ SqL R.G.K H a2 ys) k2.lsts r1 r2 (fun b hb => n b (sub b hb)) (by rw [← hK]; exact walk_zip (by rw [r1.length, r2.length])) fun H' st => ⟨st.sqL (n a1 (by simp)) (.of ha1), st.sqL (n a2 (by simp)) (.of ha2)⟩) (fun b hb => ol b (sub b hb)) (fun b hb => ⟨th _ b (r1.append r2) hb, n b (sub b hb)⟩) nr⟩⟩
        | _ => cases e1
      | _ => cases e1
    | [] => exact h2.elim
    | [_] => exact h2.elim
    | _ :: _ :: _ :: _ => exact h2.elim
end
end Ev

/-! EvE12: comprehensions. -/
namespace Ev
open PySem PySem.Spec PyProof.Rows L2
variable {R : Fr0} {W : WXX} {σ σ2 : St} {H H1 H2 H' : Hp} {F F1 F2 F' : Nat → List Addr} {env env1 env2 env' : Env} {own : List Nat}
/-! ### slots forgotten -/
theorem lwipe_get {vs : List Nat} {j : Nat} : (L2.wipe σ vs)[j]? = if j ∈ vs ∧ j < σ.length then some none else σ[j]? := by
  induction vs with
  | nil => simp [L2.wipe]
  | cons v vs ih =>
    unfold L2.wipe
    by_cases e : v = j
    · subst e
      by_cases hl : v < σ.length
      · rw [List.getElem?_set_self (by rw [wipe_length]; exact hl), if_pos ⟨by simp, hl⟩]
      · rw [List.set_eq_of_length_le (by rw [wipe_length]; omega), ih, if_neg fun z => hl z.2, if_neg fun z => hl z.2]
    · rw [List.getElem?_set_ne e, ih]
      have : j ∈ v :: vs ↔ j ∈ vs := by simp [Ne.symm e]
      simp only [this]
theorem lwipe_eq {vs : List Nat} (hl : σ2.length = σ.length) (h : ∀ j, j ∉ vs → σ2[j]? = σ[j]?) : L2.wipe σ2 vs = L2.wipe σ vs := by
  apply List.ext_getElem?
  intro j
  rw [lwipe_get, lwipe_get, hl]
  by_cases c : j ∈ vs
  · by_cases d : j < σ.length
    · rw [if_pos ⟨c, d⟩, if_pos ⟨c, d⟩]
    · rw [if_neg fun z => d z.2, if_neg fun z => d z.2, List.getElem?_eq_none (by omega), List.getElem?_eq_none (by omega)]
  · rw [if_neg fun z => c z.1, if_neg fun z => c z.1, h j c]
theorem foldset_len {g : Nat → PV} : ∀ {own : List Nat} {env : Env}, (own.foldl (fun e i => e.set i (g i)) env).length = env.length
  | [], _ => rfl
  | i :: own, env => by
    rw [List.foldl_cons, foldset_len, List.length_set]
theorem foldset_get {g : Nat → PV} {j : Nat} : ∀ {own : List Nat} {env : Env}, (own.foldl (fun e i => e.set i (g i)) env)[j]? = if j ∈ own ∧ j < env.length then some (g j) else env[j]?
  | [], env => by simp
  | i :: own, env => by
    rw [List.foldl_cons, foldset_get]
    rw [List.length_set]
    by_cases hl : j < env.length
    · by_cases c : j ∈ own
      · rw [if_pos ⟨c, hl⟩, if_pos ⟨by simp [c], hl⟩]
      · rw [if_neg fun z => c z.1]
        by_cases e : i = j
        · subst e
          rw [List.getElem?_set_self hl, if_pos ⟨by simp, hl⟩]
        · rw [List.getElem?_set_ne e, if_neg]
          rintro ⟨z, _⟩
          rcases List.mem_cons.mp z with z | z
          · exact e z.symm
          · exact c z
    · rw [if_neg fun z => hl z.2, if_neg fun z => hl z.2]
      by_cases e : i = j
      · subst e
        rw [List.set_eq_of_length_le (by omega)]
      · rw [List.getElem?_set_ne e]
theorem wipe_len : (Ev.wipe own env).length = env.length := foldset_len
theorem wipe_get {j : Nat} : (Ev.wipe own env)[j]? = if j ∈ own ∧ j < env.length then some .undef else env[j]? := foldset_get
theorem wipe_get_ne {j : Nat} (h : j ∉ own) : (Ev.wipe own env)[j]? = env[j]? := by rw [wipe_get, if_neg fun z => h z.1]
theorem wipe_eq (hl : env2.length = env.length) (h : ∀ j, j ∉ own → env2[j]? = env[j]?) : Ev.wipe own env2 = Ev.wipe own env := by
  apply List.ext_getElem?
  intro j
  rw [wipe_get, wipe_get, hl]
  by_cases c : j ∈ own
  · by_cases d : j < env.length
    · rw [if_pos ⟨c, d⟩, if_pos ⟨c, d⟩]
    · rw [if_neg fun z => d z.2, if_neg fun z => d z.2, List.getElem?_eq_none (by omega), List.getElem?_eq_none (by omega)]
  · rw [if_neg fun z => c z.1, if_neg fun z => c z.1, h j c]
theorem wipe_wipe : Ev.wipe own (Ev.wipe own env) = Ev.wipe own env := wipe_eq wipe_len fun j h => wipe_get_ne h
theorem restore_get {e0 : Env} {j : Nat} (hl : env.length = e0.length) : (restore own e0 env)[j]? = if j ∈ own then e0[j]? else env[j]? := by
  unfold restore
  rw [foldset_get]
  by_cases c : j ∈ own
  · rw [if_pos c]
    by_cases d : j < env.length
    · rw [if_pos ⟨c, d⟩, List.getD_eq_getElem?_getD, List.getElem?_eq_getElem (by omega)]
      rfl
    · rw [if_neg fun z => d z.2, List.getElem?_eq_none (by omega), List.getElem?_eq_none (by omega)]
  · rw [if_neg c, if_neg fun z => c z.1]
theorem restore_wipe {e0 : Env} : restore own e0 (Ev.wipe own e0) = e0 := by
  apply List.ext_getElem?
  intro j
  rw [restore_get wipe_len]
  split
  · rfl
  · rename_i c
    exact wipe_get_ne c
def wipeF (own : List Nat) (F : Nat → List Addr) : Nat → List Addr := fun j => if j ∈ own then [] else F j
def restF (own : List Nat) (F0 F : Nat → List Addr) : Nat → List Addr := fun j => if j ∈ own then F0 j else F j
theorem wipeF_sub {j : Nat} {a : Addr} (h : a ∈ wipeF own F j) : a ∈ F j ∧ j ∉ own := by
  unfold wipeF at h
  split at h
  · simp at h
  · exact ⟨h, by assumption⟩
theorem wipeF_ne {j : Nat} (h : j ∉ own) : wipeF own F j = F j := if_neg h
theorem OW_wipeF {ms : List Nat} {a : Addr} (h : ∀ i ∈ own, i ∉ ms) : OW ms (wipeF own F) a ↔ OW ms F a := by
  constructor
  · rintro ⟨j, hj, ha⟩
    exact ⟨j, hj, (wipeF_sub ha).1⟩
  · rintro ⟨j, hj, ha⟩
    exact ⟨j, hj, by rw [wipeF_ne fun z => h j z hj]; exact ha⟩
theorem OW_restF {ms : List Nat} {F0 : Nat → List Addr} {a : Addr} (h : ∀ i ∈ own, i ∉ ms) : OW ms (restF own F0 F) a ↔ OW ms F a := by
  constructor
  · rintro ⟨j, hj, ha⟩
    unfold restF at ha
    rw [if_neg fun z => h j z hj] at ha
    exact ⟨j, hj, ha⟩
  · rintro ⟨j, hj, ha⟩
    refine ⟨j, hj, ?_⟩
    unfold restF
    rw [if_neg fun z => h j z hj]
    exact ha
theorem getD_none_of {env : Env} {j : Nat} {o : Option PV} (h : env[j]? = o) : env.getD j .undef = o.getD .undef := by
  rw [List.getD_eq_getElem?_getD, h]
theorem EnvOk.wipe (ho : ∀ i ∈ own, i ∉ R.ms) (k : EnvOk R σ H F env) : EnvOk R (L2.wipe σ own) H (wipeF own F) (Ev.wipe own env) where
  len := by rw [wipe_len, wipe_length]; exact k.len
  slot := fun j p e n => by
    rw [wipe_get] at e
    by_cases c : j ∈ own
    · split at e
      · cases e; exact absurd rfl n
      · rename_i d
        have : ¬ j < env.length := fun z => d ⟨c, z⟩
        rw [List.getElem?_eq_none (by omega)] at e
        cases e
    · rw [if_neg fun z => c z.1] at e
      obtain ⟨v, h1, h2⟩ := k.slot j p e n
      exact ⟨v, by rw [lwipe_get, if_neg fun z => c z.1]; exact h1, by rw [wipeF_ne c]; exact h2⟩
  non := fun j e => by
    by_cases c : j ∈ own
    · exact if_pos c
    · rw [wipeF_ne c]
      refine k.non j ?_
      rw [List.getD_eq_getElem?_getD, wipe_get_ne c] at e
      rw [List.getD_eq_getElem?_getD]; exact e
  nd := fun j hj => by
    unfold wipeF
    split
    · exact List.nodup_nil
    · exact k.nd j hj
  mu := fun j hj a ha => k.mu j hj a (wipeF_sub ha).1
  ow := fun j hj a ha => k.ow j hj a (wipeF_sub ha).1
  dj := fun j hj l n a ha hb => k.dj j hj l n a (wipeF_sub ha).1 (wipeF_sub hb).1
  old := fun j a ha => k.old j a (wipeF_sub ha).1
  keep := k.keep
  dom := k.dom
  lok := k.lok
  rf := fun i v h => ⟨(k.rf i v h).1, by rw [lwipe_get, if_neg fun z => ho i z.1 (k.rf i v h).1]; exact (k.rf i v h).2⟩
/-- behind a comprehension -/
theorem EnvOk.restore (ho : ∀ i ∈ own, i ∉ R.ms) (k1 : EnvOk R σ H1 F1 env1) (k : EnvOk R (L2.wipe σ own) H F env) (s : Step R.ms H1 (wipeF own F1) H F) : EnvOk R σ H (restF own F1 F) (Ev.restore own env1 env) := by
  have el : env.length = env1.length := by rw [k.len, wipe_length, k1.len]
  have st : Stay (OW R.ms F1) H1 H := fun a o e n => s.st a o e fun z => n ((OW_wipeF ho).mp z)
  have r1 : ∀ {j}, j ∈ own → restF own F1 F j = F1 j := fun h => if_pos h
  have r2 : ∀ {j}, j ∉ own → restF own F1 F j = F j := fun h => if_neg h
  have nn : ∀ {j}, j ∈ R.ms → j ∉ own := fun h z => ho _ z h
  refine ⟨?_, fun j p e n => ?_, fun j e => ?_, fun j hj => ?_, fun j hj a ha => ?_, fun j hj a ha => ?_, fun j hj l n a ha hb => ?_, fun j a ha => ?_, k.keep, k.dom, k.lok, fun i v h => k1.rf i v h⟩
  · unfold Ev.restore
    rw [foldset_len, el, k1.len]
  · rw [restore_get el] at e
    by_cases c : j ∈ own
    · rw [if_pos c] at e
      obtain ⟨v, h1, h2⟩ := k1.slot j p e n
      exact ⟨v, h1, by rw [r1 c]; exact RepF.stay st k1.lsts _ _ _ h2 (k1.free (ho j c))⟩
    · rw [if_neg c] at e
      obtain ⟨v, h1, h2⟩ := k.slot j p e n
      rw [lwipe_get, if_neg fun z => c z.1] at h1
      exact ⟨v, h1, by rw [r2 c]; exact h2⟩
  · rw [List.getD_eq_getElem?_getD, restore_get el] at e
    by_cases c : j ∈ own
    · rw [if_pos c] at e
      rw [r1 c]
      exact k1.non j (by rw [List.getD_eq_getElem?_getD]; exact e)
    · rw [if_neg c] at e
      rw [r2 c]
      exact k.non j (by rw [List.getD_eq_getElem?_getD]; exact e)
  · rw [r2 (nn hj)]; exact k.nd j hj
  · rw [r2 (nn hj)] at ha; exact k.mu j hj a ha
  · rw [r2 (nn hj)] at ha; exact k.ow j hj a ha
  · rw [r2 (nn hj)] at ha
    by_cases c : l ∈ own
    · rw [r1 c] at hb
      rcases s.ow a ⟨j, hj, ha⟩ with z | z
      · exact k1.free (ho l c) a hb ((OW_wipeF ho).mp z)
      · exact k1.nf z l hb
    · rw [r2 c] at hb
      exact k.dj j hj l n a ha hb
  · by_cases c : j ∈ own
    · rw [r1 c] at ha; exact k1.old j a ha
    · rw [r2 c] at ha; exact k.old j a ha
/-- a list that is none of the slots' is changed -/
theorem EnvOk.side (k : EnvOk R σ H F env) {D : Addr} {xs ys : List V} (hD : H D = some (.lst xs)) (h0 : R.H0 D = none ∧ R.A D) (n : ∀ j, D ∉ F j) (hz : ys.length ≤ sizeLine) : EnvOk R σ (upd H D (.lst ys)) F env := by
  have st : Stay (fun a => a = D) H (upd H D (.lst ys)) := fun a o e c => by rw [upd_ne c]; exact e
  have ls : Lsts (fun a => a = D) H := fun a e => ⟨xs, by rw [e]; exact hD⟩
  refine ⟨k.len, fun i p e c => ?_, k.non, k.nd, fun i hi a ha => ?_, k.ow, k.dj, k.old, fun a o e c => ?_, fun a e => ?_, lok_lst k.lok hz, k.rf⟩
  · obtain ⟨v, h1, h2⟩ := k.slot i p e c
    exact ⟨v, h1, RepF.stay st ls _ _ _ h2 fun a ha z => n i (z ▸ ha)⟩
  · obtain ⟨vs, e⟩ := k.mu i hi a ha
    exact ⟨vs, st a _ e fun z => n i (z ▸ ha)⟩
  · exact st a _ (k.keep a o e c) fun z => by rw [z, h0.1] at e; cases e
  · by_cases c : a = D
    · rw [c]; exact h0
    · rw [upd_ne c] at e; exact k.dom a e
theorem Step.side (s : Step R.ms H F H1 F1) {D : Addr} {o : HO} (hD : H D = none) : Step R.ms H F (upd H1 D o) F1 := by
  refine ⟨fun a u e n => ?_, s.sub, s.ow, fun a e => ?_⟩
  · rw [upd_ne (ne_of_none e hD)]; exact s.st a u e n
  · by_cases c : a = D
    · rw [c]; exact hD
    · rw [upd_ne c] at e; exact s.dom a e
/-- a turn: the item laid into a slot, the parts run, the slots forgotten -/
theorem Step.turn {sl : List Nat} {H0' H3 : Hp} {F3 : Nat → List Addr} (ho : ∀ i ∈ own, i ∉ R.ms) (hs : ∀ i ∈ sl, i ∈ own) (same : ∀ a o, H a = some o → H0' a = some o) (a : SetS R sl σ F env σ2 F2 env2) (s : Step R.ms H0' F2 H3 F3) : Step R.ms H F H3 (wipeF own F3) where
  st := fun x o e n => s.st x o (same x o e) fun z => n ((a.ow x).mp z)
  sub := fun j x hx => by
    obtain ⟨hx, hj⟩ := wipeF_sub hx
    rcases s.sub j x hx with z | z | z
    · rw [a.f j fun w => hj (hs j w)] at z; exact .inl z
    · exact .inr (.inl ((a.ow x).mp z))
    · exact .inr (.inr (none_of_same same x z))
  ow := fun x hx => by
    rcases s.ow x ((OW_wipeF ho).mp hx) with z | z
    · exact .inl ((a.ow x).mp z)
    · exact .inr (none_of_same same x z)
  dom := fun x e => none_of_same same x (s.dom x e)
end Ev

/-! EvE13: the comprehension. -/
namespace Ev
open PySem PySem.Spec PyProof.Rows L2
variable {R : Fr0} {W : WXX} {σ σ2 : St} {H H1 H2 H' : Hp} {F F1 F2 F' : Nat → List Addr} {env env1 env2 env' : Env} {own : List Nat} {kd kde : Kd} {nor stb nc nI : Bool}
/-- a clause's test -/
def okC (R : Fr0) (nor : Bool) (σ : St) (H : Hp) (F : Nat → List Addr) (env : Env) (Q : Bool → Hp → Prop) : Res (Bool × Env) → Prop
  | .ok r => ∀ H' F', EnvOk R σ H' F' r.2 → Step R.ms H F H' F' → Nor nor H F env H' F' r.2 → Q r.1 H'
  | _ => False
def rdC (R : Fr0) (nor : Bool) (ev : Env → Res (Bool × Env)) : TT := fun σ H Q => ∃ F env, EnvOk R σ H F env ∧ okC R nor σ H F env Q (ev env)
section
variable {X : Cx}
theorem PTs.imp {e : List Expr} {t t' : TT} (h : PTs X e t) (k : ∀ σ H Q, t' σ H Q → t σ H Q) : PTs X e t' := ⟨fun pins s σ H Q I q => h.run pins s σ H Q I (k σ H Q q)⟩
theorem evc_no : PTs X [] (rdC R true fun env => .ok (true, env)) := PTs.imp pts_nil fun σ H Q ⟨F, env, k, h⟩ => h H F k Step.refl Nor.refl
theorem evc_so {c : Expr} {ev : Env → Res (PV × Env)} (h : PT X c (rdT R W nor ev)) : PTs X [c] (rdC R nor fun env => (ev env).bind fun p => (ofO (truth p.1)).bind fun t => .ok (t, p.2)) :=
  PTs.imp (pts_one h) fun σ H Q ⟨F, env, k, h⟩ => by
    refine ⟨F, env, k, ?_⟩
    cases e : ev env with
    | ok r =>
      have h' : okC R nor σ H F env Q ((ev env).bind fun p => (ofO (truth p.1)).bind fun t => .ok (t, p.2)) := h
      rw [e] at h'
      cases e2 : truth r.1 with
      | none =>
        have h2 : okC R nor σ H F env Q ((ofO (truth r.1)).bind fun t => .ok (t, r.2)) := h'
        rw [e2] at h2
        exact h2.elim
      | some b =>
        have h2 : okC R nor σ H F env Q ((ofO (truth r.1)).bind fun t => .ok (t, r.2)) := h'
        rw [e2] at h2
        exact ⟨b, e2, h2⟩
    | raise c x e' =>
      have h' : okC R nor σ H F env Q ((ev env).bind fun p => (ofO (truth p.1)).bind fun t => .ok (t, p.2)) := h
      rw [e] at h'
      exact h'.elim
    | fail =>
      have h' : okC R nor σ H F env Q ((ev env).bind fun p => (ofO (truth p.1)).bind fun t => .ok (t, p.2)) := h
      rw [e] at h'
      exact h'.elim
/-- the new list so far -/
structure AccOk (R : Fr0) (own stb : Bool) (H1 : Hp) (F1 : Nat → List Addr) (D : Addr) (H : Hp) (F : Nat → List Addr) (p : List PV) (v : List V) (fp : List Addr) : Prop where
  rep : RepL R.G H p v fp
  nD : D ∉ fp
  old : ∀ a ∈ fp, R.A a
  st : stb = true → ∀ a ∈ fp, ¬ OW R.ms F a
  nd : own = true → fp.Nodup
  mu : own = true → ∀ a ∈ fp, ∃ vs, H a = some (.lst vs)
  fr : own = true → ∀ a ∈ fp, ∀ j, a ∉ F j
  nw : own = true → ∀ a ∈ fp, OW R.ms F1 a ∨ H1 a = none
  h0 : own = true → ∀ a ∈ fp, R.H0 a = none
theorem AccOk.nil {own stb : Bool} {D : Addr} : AccOk R own stb H1 F1 D H F [] [] [] :=
  ⟨RepL.nil, by simp, fun _ z => by simp at z, fun _ _ z => by simp at z, fun _ => List.nodup_nil, fun _ _ z => by simp at z, fun _ _ z => by simp at z, fun _ _ z => by simp at z, fun _ _ z => by simp at z⟩
/-- the list so far behind a step; D as it stands or changed -/
theorem AccOk.step {own stb nb : Bool} {D : Addr} {l : List PV} {vs : List V} {fp : List Addr} (k : EnvOk R σ H F env) (a : AccOk R own stb H1 F1 D H F l vs fp) (s : Step R.ms H F H' F') (hn : nb = true → ∀ a o, H a = some o → H' a = some o) (c : (stb || nb) = true) : AccOk R own stb H1 F1 D H' F' l vs fp := by
  have th : ∀ b ∈ fp, ∃ o, H b = some o := fun b hb => Option.ne_none_iff_exists'.mp (RepL.there _ _ _ a.rep b hb)
  have keepOut : ∀ b, (∃ o, H b = some o) → (∀ j, b ∉ F j) → ∀ j, b ∉ F' j := fun b ⟨o, e⟩ n j hj => by
    rcases s.sub j b hj with z | ⟨k, _, z⟩ | z
    · exact n j z
    · exact n k z
    · rw [e] at z; cases z
  refine ⟨?_, a.nD, a.old, fun z b hb => OW.none_of s (a.st z b hb) (th b hb), a.nd, fun z b hb => ?_, fun z b hb => keepOut b (th b hb) (a.fr z b hb), a.nw, a.h0⟩
  · rcases Bool.or_eq_true_iff.mp c with z | z
    · exact s.repL k a.rep (a.st z)
    · exact a.rep.same (hn z)
  · obtain ⟨us, e⟩ := a.mu z b hb
    exact ⟨us, s.st b _ e fun ⟨j, _, hj⟩ => a.fr z b hb j hj⟩
theorem AccOk.side {own stb : Bool} {D : Addr} {l : List PV} {vs : List V} {fp : List Addr} (a : AccOk R own stb H1 F1 D H F l vs fp) {xs ys : List V} (hD : H D = some (.lst xs)) : AccOk R own stb H1 F1 D (upd H D (.lst ys)) F l vs fp := by
  have st : Stay (fun a => a = D) H (upd H D (.lst ys)) := fun a o e c => by rw [upd_ne c]; exact e
  have ls : Lsts (fun a => a = D) H := fun a e => ⟨xs, by rw [e]; exact hD⟩
  refine ⟨RepL.stay st ls _ _ _ a.rep fun b hb z => a.nD (z ▸ hb), a.nD, a.old, a.st, a.nd, fun z b hb => ?_, a.fr, a.nw, a.h0⟩
  obtain ⟨us, e⟩ := a.mu z b hb
  exact ⟨us, st b _ e fun z => a.nD (z ▸ hb)⟩
/-- the new list is nobody's -/
def Fr0.hide (R : Fr0) (D : Addr) : Fr0 := { R with A := fun a => R.A a ∧ a ≠ D }
theorem EnvOk.hide {D : Addr} (k : EnvOk R σ H F env) (n : ∀ j, D ∉ F j) (h : H D ≠ none) : EnvOk (R.hide D) σ H F env :=
  ⟨k.len, k.slot, k.non, k.nd, k.mu, k.ow, k.dj, fun i a ha => ⟨k.old i a ha, fun z => n i (z ▸ ha)⟩, k.keep, fun a e => ⟨(k.dom a e).1, (k.dom a e).2, fun z => h (z ▸ e)⟩, k.lok, k.rf⟩
theorem EnvOk.show {D : Addr} (k : EnvOk (R.hide D) σ H F env) : EnvOk R σ H F env :=
  ⟨k.len, k.slot, k.non, k.nd, k.mu, k.ow, k.dj, fun i a ha => (k.old i a ha).1, k.keep, fun a e => ⟨(k.dom a e).1, (k.dom a e).2.1⟩, k.lok, k.rf⟩
/-- what holds at each turn -/
structure CompInv (R : Fr0) (ownE stbE nb : Bool) (own : List Nat) (σ : St) (H1 : Hp) (F1 : Nat → List Addr) (env1 : Env) (D : Addr) (f : PV → Env → Res (Option PV × Env)) (items : List PV) (L : List PV) (enE : Env) (i : Nat) (H : Hp) : Prop where
  ex : ∃ F en done out accV facc, EnvOk R (L2.wipe σ own) H F en ∧ Ev.wipe own en = en ∧ (∀ j ∈ own, F j = []) ∧ Step R.ms H1 (wipeF own F1) H F ∧ (H D = some (.lst accV) ∧ ∀ j, D ∉ F j) ∧ compGo f (items.drop i) en = .ok (out, enE) ∧ L = done ++ out ∧ AccOk R ownE stbE H1 (wipeF own F1) D H F done accV facc ∧ (nb = true → F = wipeF own F1 ∧ en = Ev.wipe own env1 ∧ ∀ a o, H1 a = some o → H a = some o)
def evComp (own : List Nat) (tg : T) (evI : Env → Res (List PV × Env)) (evC : Env → Res (Bool × Env)) (evE : Env → Res (PV × Env)) : Env → Res (PV × Env) := fun env => (evI env).bind fun r =>
  (compGo (fun x en => ((ofO (assign tg x en)).bind fun en1 => (evC en1).bind fun t => if t.1 = true then (evE t.2).bind fun q => .ok (some q.1, Ev.wipe own q.2) else .ok (none, Ev.wipe own t.2)).nr)
    r.1 (Ev.wipe own r.2)).bind fun q => if q.1.length ≤ sizeLine then .ok (.lst q.1, Ev.restore own r.2 q.2) else .fail
theorem Res.bind_ok {α β : Type} {r : Res α} {f : α → Res β} {b : β} (h : r.bind f = .ok b) : ∃ a, r = .ok a ∧ f a = .ok b := by
  cases r with
  | ok a => exact ⟨a, rfl, h⟩
  | raise c x e => cases h
  | fail => cases h
theorem Res.nr_ok {α : Type} {r : Res α} {b : α} (h : r.nr = .ok b) : r = .ok b := by
  cases r with
  | ok a => exact h
  | raise c x e => cases h
  | fail => cases h
theorem ofO_ok {α : Type} {o : Option α} {a : α} (h : ofO o = .ok a) : o = some a := by
  cases o with
  | none => cases h
  | some b => cases h; rfl
theorem compGo_noraise {f : PV → Env → Res (Option PV × Env)} (hf : ∀ x en c a e, f x en ≠ .raise c a e) : ∀ {l : List PV} {en : Env} {c : Nat} {a : PV} {e : Env}, compGo f l en ≠ .raise c a e
  | [], _, _, _, _ => nofun
  | x :: l, en, c, a, e => fun h => by
    unfold compGo at h
    cases e1 : f x en with
    | ok r =>
      rw [e1] at h
      have h : (compGo f l r.2).bind _ = _ := h
      cases e2 : compGo f l r.2 with
      | ok q => rw [e2] at h; cases h
      | raise c' a' e' => exact compGo_noraise hf e2
      | fail => rw [e2] at h; cases h
    | raise c' a' e' => exact hf _ _ _ _ _ e1
    | fail => rw [e1] at h; cases h
theorem Res.nr_ne {α : Type} {r : Res α} {c : Nat} {a : PV} {e : Env} : r.nr ≠ .raise c a e := by
  cases r <;> exact nofun
theorem assign_length : ∀ {t : T} {x : PV} {env env' : Env}, Ev.assign t x env = some env' → env'.length = env.length
  | .n i, x, env, env', e => by cases e; exact List.length_set
  | .nil, x, env, env', e => by
    cases x with
    | tup l =>
      cases l with
      | nil => cases e; rfl
      | cons y l => cases e
    | _ => cases e
  | .cons a r, x, env, env', e => by
    cases x with
    | tup l =>
      cases l with
      | nil => cases e
      | cons y l =>
        simp only [Ev.assign, Option.bind_eq_some_iff] at e
        obtain ⟨e1, h1, h2⟩ := e
        rw [assign_length h2, assign_length h1]
    | _ => cases e
theorem lwipe_lwipe {vs : List Nat} : L2.wipe (L2.wipe σ vs) vs = L2.wipe σ vs := lwipe_eq (wipe_length _ _) fun j h => by rw [lwipe_get, if_neg fun z => h z.1]
theorem comp_turn {tg : T} {evC : Env → Res (Bool × Env)} {evE : Env → Res (PV × Env)} {WF : WXX} {D : Addr} {items L : List PV} {enE : Env} {fs : List Addr} {i : Nat} {x : V} {Yp : Nat → Hp → V → Hp → Prop}
    (hms : ∀ i ∈ own, i ∉ R.ms) (hsl : ∀ i ∈ tg.sl, i ∈ own) (cE : (kde.stb || (nc && kde.nor)) = true) (cI : (stb || (nc && kde.nor)) = true)
    (k1 : EnvOk R σ H1 F1 env1) (hD1 : H1 D = none) (hL : L.length ≤ sizeLine) (old : ∀ a ∈ fs, R.A a) (hfs : ∀ a ∈ fs, (∃ o, H1 a = some o) ∧ ¬ OW R.ms F1 a)
    (hy : ∀ i H2 x H', i < items.length → Stay (OO stb R.ms F1) H1 H2 → LenOk R.G.K H2 → Yp i H2 x H' → ∃ p fz, items[i]? = some p ∧ NewV R.G H2 fs p false x H' fz) (hi : i < items.length)
    (p : CompInv R kde.own kde.stb (nc && kde.nor) own σ H1 F1 env1 D (fun x en => ((ofO (assign tg x en)).bind fun en1 => (evC en1).bind fun t => if t.1 = true then (evE t.2).bind fun q => .ok (some q.1, Ev.wipe own q.2) else .ok (none, Ev.wipe own t.2)).nr) items L enE i H) (y : Yp i H x H') :
    rdG (R.hide D) tg x (L2.wipe σ own) H' fun σ2 H2 => L2.wipe σ2 own = L2.wipe σ own ∧ rdC (R.hide D) nc evC σ2 H2 fun b H3 => if b = true then rdE (R.hide D) WF kde evE σ2 H3 fun y H4 => ∃ acc, H4 D = some (.lst acc) ∧ acc.length < sizeLine ∧
      CompInv R kde.own kde.stb (nc && kde.nor) own σ H1 F1 env1 D (fun x en => ((ofO (assign tg x en)).bind fun en1 => (evC en1).bind fun t => if t.1 = true then (evE t.2).bind fun q => .ok (some q.1, Ev.wipe own q.2) else .ok (none, Ev.wipe own t.2)).nr) items L enE (i + 1) (upd H4 D (.lst (acc ++ [y])))
    else CompInv R kde.own kde.stb (nc && kde.nor) own σ H1 F1 env1 D (fun x en => ((ofO (assign tg x en)).bind fun en1 => (evC en1).bind fun t => if t.1 = true then (evE t.2).bind fun q => .ok (some q.1, Ev.wipe own q.2) else .ok (none, Ev.wipe own t.2)).nr) items L enE (i + 1) H3 := by
  obtain ⟨F, en, done, out, accV, facc, k, wen, wF, s, ⟨hD, nDF⟩, go, eL, acc, nb⟩ := p
  have ow1 : ∀ a, OW R.ms (wipeF own F1) a ↔ OW R.ms F1 a := fun a => OW_wipeF hms
  have stO : Stay (OO stb R.ms F1) H1 H := by
    rcases Bool.or_eq_true_iff.mp cI with z | z
    · rw [z, OO_true]
      exact fun a o e n => s.st a o e fun w => n ((ow1 a).mp w)
    · exact fun a o e _ => (nb z).2.2 a o e
  obtain ⟨pv, fz, eI, nv⟩ := hy i H x H' hi stO k.lok y
  have hdrop : items.drop i = pv :: items.drop (i + 1) := by
    rw [List.drop_eq_getElem_cons hi]
    rw [List.getElem?_eq_getElem hi] at eI
    cases eI; rfl
  rw [hdrop] at go
  unfold compGo at go
  obtain ⟨r1, go1, go2⟩ := Res.bind_ok go
  obtain ⟨r2, go3, go4⟩ := Res.bind_ok go2
  obtain ⟨en1, as1, go5⟩ := Res.bind_ok (Res.nr_ok go1)
  have as1 := ofO_ok as1
  obtain ⟨t, cc1, go6⟩ := Res.bind_ok go5
  have k' : EnvOk R (L2.wipe σ own) H' F en := k.same nv.same nv.lok
  have fzst : ∀ a ∈ fz, ¬ OW R.ms F a := fun a ha => by
    rcases nv.sub a ha with z | z
    · obtain ⟨⟨o, e⟩, n⟩ := hfs a z
      intro w
      rcases s.ow a w with w | w
      · exact n ((ow1 a).mp w)
      · rw [e] at w; cases w
    · exact fun ⟨j, _, hj⟩ => k.nf z j hj
  have fzold : ∀ a ∈ fz, (R.hide D).A a := fun a ha => by
    rcases nv.sub a ha with z | z
    · exact ⟨old a z, fun w => by
        obtain ⟨⟨o, e⟩, _⟩ := hfs a z
        rw [w, hD1] at e; cases e⟩
    · exact ⟨(k.dom a z).2, fun w => by rw [w, hD] at z; cases z⟩
  have hD' : H' D = some (.lst accV) := nv.same D _ hD
  have kh : EnvOk (R.hide D) (L2.wipe σ own) H' F en := k'.hide nDF (by rw [hD']; exact nofun)
  refine ⟨F, en, pv, fz, en1, kh, nv.rep, fzold, fzst, as1, fun σ2 F2 k2h a2h => ⟨?_, F2, en1, k2h, ?_⟩⟩
  all_goals have k2 : EnvOk R σ2 H' F2 en1 := k2h.show
  all_goals have a2 : SetS R tg.sl (L2.wipe σ own) F en σ2 F2 en1 := ⟨a2h.ow, a2h.f, a2h.e, a2h.s⟩
  · have l2 : σ2.length = (L2.wipe σ own).length := by
      have e1 := k2.len
      have e2 := k'.len
      rw [← e1, ← e2]
      exact assign_length as1
    rw [lwipe_eq l2 fun j hj => a2.s j fun z => hj (hsl j z)]
    exact lwipe_lwipe
  rw [cc1]
  intro H3 F3 k3h s3 n3
  have k3 : EnvOk R σ2 H3 F3 t.2 := k3h.show
  have s3 : Step R.ms H' F2 H3 F3 := s3
  have wσ2 : L2.wipe σ2 own = L2.wipe σ own := by
    have l2 : σ2.length = (L2.wipe σ own).length := by
      have e1 := k2.len
      have e2 := k'.len
      rw [← e1, ← e2]
      exact assign_length as1
    rw [lwipe_eq l2 fun j hj => a2.s j fun z => hj (hsl j z)]
    exact lwipe_lwipe
  have wen1 : Ev.wipe own en1 = en := by
    rw [wipe_eq (assign_length as1) fun j hj => a2.e j fun z => hj (hsl j z), wen]
  have wF2 : wipeF own F2 = F := by
    funext j
    by_cases c : j ∈ own
    · rw [wF j c]; exact if_pos c
    · rw [wipeF_ne c]; exact a2.f j fun z => c (hsl j z)
  have nOW2 : ∀ {a}, OW R.ms F2 a → OW R.ms F a := fun h => (a2.ow _).mp h
  have nDW2 : ¬ OW R.ms F2 D := fun z => by
    obtain ⟨j, _, hj⟩ := nOW2 z
    exact nDF j hj
  have hD3 : H3 D = some (.lst accV) := s3.st D _ hD' nDW2
  -- the end of a turn
  have fin : ∀ {H4 : Hp} {F4 : Nat → List Addr} {en4 : Env}, ((nc && kde.nor) = true → F4 = F2 ∧ en4 = en1 ∧ ∀ a o, H' a = some o → H4 a = some o) →
      (nc && kde.nor) = true → wipeF own F4 = wipeF own F1 ∧ Ev.wipe own en4 = Ev.wipe own env1 ∧ ∀ a o, H1 a = some o → H4 a = some o := by
    intro H4 F4 en4 nn z
    obtain ⟨e1, e2, e3⟩ := nn z
    obtain ⟨b1, b2, b3⟩ := nb z
    refine ⟨by rw [e1, wF2, b1], by rw [e2, wen1, b2], fun a o e => e3 a o (nv.same a o (b3 a o e))⟩
  by_cases ct : t.1 = true
  · rw [if_pos ct] at go6 ⊢
    obtain ⟨q, ee, go7⟩ := Res.bind_ok go6
    cases go7
    refine ⟨F3, t.2, k3h, ?_⟩
    rw [ee]
    intro v H4 F4 fp k4h s4 v4h n4
    have k4 : EnvOk R σ2 H4 F4 q.2 := k4h.show
    have s4 : Step R.ms H3 F3 H4 F4 := s4
    have v4 : ValOk R kde H3 F3 H4 F4 q.1 v fp := ⟨v4h.rep, fun a ha => (v4h.old a ha).1, v4h.st, v4h.nd, v4h.mu, v4h.fr, v4h.nw, v4h.h0, v4h.tp⟩
    have s24 : Step R.ms H' F2 H4 F4 := s3.trans s4
    have sT : Step R.ms H F H4 (wipeF own F4) := Step.turn hms hsl nv.same a2 s24
    have s14 : Step R.ms H1 (wipeF own F1) H4 (wipeF own F4) := s.trans sT
    have kw : EnvOk R (L2.wipe σ own) H4 (wipeF own F4) (Ev.wipe own q.2) := wσ2 ▸ k4.wipe hms
    have nDW3 : ¬ OW R.ms F3 D := fun z => by
      rcases s3.ow D z with w | w
      · exact nDW2 w
      · rw [hD'] at w; cases w
    have hD4 : H4 D = some (.lst accV) := s4.st D _ hD3 nDW3
    have nD4 : ∀ j, D ∉ wipeF own F4 j := fun j hj => by
      rcases sT.sub j D hj with z | ⟨l, _, z⟩ | z
      · exact nDF j z
      · exact nDF l z
      · rw [hD] at z; cases z
    cases go4
    obtain ⟨out2, en2⟩ := r2
    have eL' : L = (done ++ [q.1]) ++ out2 := by rw [eL]; simp
    have nn : (nc && kde.nor) = true → F4 = F2 ∧ q.2 = en1 ∧ ∀ a o, H' a = some o → H4 a = some o := fun z => by
      obtain ⟨z1, z2⟩ := Bool.and_eq_true_iff.mp z
      obtain ⟨e1, e2, e3⟩ := n3 z1
      obtain ⟨e4, e5, e6⟩ := n4 z2
      exact ⟨e4.trans e1, e5.trans e2, fun a o e => e6 a o (e3 a o e)⟩
    have accl : accV.length < sizeLine := by
      have e1 := acc.rep.length
      have e2 : L.length = done.length + 1 + out2.length := by rw [eL']; simp; omega
      omega
    have acc4 : AccOk R kde.own kde.stb H1 (wipeF own F1) D H4 (wipeF own F4) done accV facc := acc.step k sT (fun z a o e => (nn z).2.2 a o (nv.same a o e)) cE
    have th : ∀ b ∈ facc, ∃ o, H b = some o := fun b hb => Option.ne_none_iff_exists'.mp (RepL.there _ _ _ acc.rep b hb)
    have nDp : D ∉ fp := fun z => (v4h.old D z).2 rfl
    refine ⟨accV, hD4, accl, ⟨wipeF own F4, Ev.wipe own q.2, done ++ [q.1], out2, accV ++ [v], facc ++ fp, kw.side hD4 (k1.dom D hD1) nD4 (by rw [List.length_append]; exact accl), wipe_wipe, fun j hj => if_pos hj, s14.side hD1, ⟨upd_same, nD4⟩, go3, eL', ?_, fun z => ?_⟩⟩
    · have a5 : AccOk R kde.own kde.stb H1 (wipeF own F1) D H4 (wipeF own F4) (done ++ [q.1]) (accV ++ [v]) (facc ++ fp) := by
        refine ⟨acc4.rep.append (RepL.one v4.rep), fun z => (List.mem_append.mp z).elim acc.nD nDp, fun a ha => (List.mem_append.mp ha).elim (acc.old a) (v4.old a), fun z a ha => ?_, fun z => ?_, fun z a ha => ?_, fun z a ha j => ?_, fun z a ha => ?_, fun z a ha => ?_⟩
        · rcases List.mem_append.mp ha with w | w
          · exact acc4.st z a w
          · exact fun y => v4.st z a w ((OW_wipeF hms).mp y)
        · refine List.nodup_append.mpr ⟨acc.nd z, v4.nd z, fun a ha b hb e => ?_⟩
          subst e
          obtain ⟨o, e⟩ := th a ha
          rcases v4.nw z a hb with w | w
          · rcases s3.ow a w with w | w
            · obtain ⟨j, _, hj⟩ := nOW2 w
              exact acc.fr z a ha j hj
            · rw [nv.same a o e] at w; cases w
          · have := none_of_same nv.same a (s3.dom a w)
            rw [e] at this; cases this
        · rcases List.mem_append.mp ha with w | w
          · exact acc4.mu z a w
          · exact v4.mu z a w
        · rcases List.mem_append.mp ha with w | w
          · exact acc4.fr z a w j
          · exact fun hj => v4.fr z a w j (wipeF_sub hj).1
        · rcases List.mem_append.mp ha with w | w
          · exact acc.nw z a w
          · rcases v4.nw z a w with y | y
            · rcases s3.ow a y with y | y
              · exact s.ow a (nOW2 y)
              · exact .inr (s.dom a (none_of_same nv.same a y))
            · exact .inr (s.dom a (none_of_same nv.same a (s3.dom a y)))
        · rcases List.mem_append.mp ha with w | w
          · exact acc.h0 z a w
          · exact v4.h0 z a w
      exact a5.side hD4
    · obtain ⟨e1, e2, e3⟩ := fin nn z
      exact ⟨e1, e2, fun a o e => by rw [upd_ne (ne_of_none e hD1)]; exact e3 a o e⟩
  · rw [if_neg ct] at go6 ⊢
    cases go6
    cases go4
    obtain ⟨out2, en2⟩ := r2
    have sT : Step R.ms H F H3 (wipeF own F3) := Step.turn hms hsl nv.same a2 s3
    have kw : EnvOk R (L2.wipe σ own) H3 (wipeF own F3) (Ev.wipe own t.2) := wσ2 ▸ k3.wipe hms
    have nD4 : ∀ j, D ∉ wipeF own F3 j := fun j hj => by
      rcases sT.sub j D hj with z | ⟨l, _, z⟩ | z
      · exact nDF j z
      · exact nDF l z
      · rw [hD] at z; cases z
    have nn : (nc && kde.nor) = true → F3 = F2 ∧ t.2 = en1 ∧ ∀ a o, H' a = some o → H3 a = some o := fun z => by
      obtain ⟨z1, z2⟩ := Bool.and_eq_true_iff.mp z
      exact n3 z1
    exact ⟨wipeF own F3, Ev.wipe own t.2, done, out2, accV, facc, kw, wipe_wipe, fun j hj => if_pos hj, s.trans sT, ⟨hD3, nD4⟩, go3, eL, acc.step k sT (fun z a o e => (nn z).2.2 a o (nv.same a o e)) cE, fin nn⟩
end
end Ev

/-! EvE14: the comprehension as an expression. -/
namespace Ev
open PySem PySem.Spec PyProof.Rows L2
variable {R : Fr0} {W WF : WXX} {σ σ2 : St} {H H1 H2 H' : Hp} {F F1 F2 F' : Nat → List Addr} {env env1 env2 env' : Env} {own : List Nat} {kd kde : Kd} {nor stb nc nI : Bool}
section
variable {X : Cx}
theorem PG.any {ι : Type} {e : Expr} {t : ι → TG} (h : ∀ D, PG X e (t D)) : PG X e (fun v σ H Q => ∃ D, t D v σ H Q) := ⟨fun pins s σ H v u Q I r ⟨D, q⟩ => (h D).run pins s σ H v u Q I r q⟩
theorem PTs.any {ι : Type} {e : List Expr} {t : ι → TT} (h : ∀ D, PTs X e (t D)) : PTs X e (fun σ H Q => ∃ D, t D σ H Q) := ⟨fun pins s σ H Q I ⟨D, q⟩ => (h D).run pins s σ H Q I q⟩
theorem PE.any {ι : Type} {e : Expr} {t : ι → TE} (h : ∀ D, PE X e (t D)) : PE X e (fun σ H Q => ∃ D, t D σ H Q) := ⟨fun pins s σ H Q I ⟨D, q⟩ => (h D).run pins s σ H Q I q⟩
/-- what the layer asks of a comprehension, from what the evaluator says -/
theorem comp_law {tg : T} {evI : Env → Res (List PV × Env)} {evC : Env → Res (Bool × Env)} {evE : Env → Res (PV × Env)}
    (hms : ∀ i ∈ own, i ∉ R.ms) (hsl : ∀ i ∈ tg.sl, i ∈ own) (cE : (kde.stb || (nc && kde.nor)) = true) (cI : (stb || (nc && kde.nor)) = true) {Q : VK}
    (k : EnvOk R σ H F env) (h : okR R W ⟨kde.own, kde.stb, true, nI && (nc && kde.nor)⟩ σ H F env Q (evComp own tg evI evC evE env)) :
    tLc (rdI R W stb nI evI) (fun v σ H Q => ∃ D, rdG (R.hide D) tg v σ H Q) (fun σ H Q => ∃ D, rdC (R.hide D) nc evC σ H Q) (fun σ H Q => ∃ D, rdE (R.hide D) WF kde evE σ H Q) own σ H Q := by
  refine ⟨F, env, k, ?_⟩
  cases eI : evI env with
  | fail =>
    unfold evComp at h
    rw [eI] at h
    exact h.elim
  | raise c x e =>
    unfold evComp at h
    rw [eI] at h
    exact h
  | ok r =>
    unfold evComp at h
    rw [eI] at h
    have h := (show okR R W _ σ H F env Q ((compGo _ r.1 (Ev.wipe own r.2)).bind _) from h)
    generalize hf : (fun (x : PV) (en : Env) => ((ofO (Ev.assign tg x en)).bind fun en1 => (evC en1).bind fun t => if t.1 = true then (evE t.2).bind fun q => .ok (some q.1, Ev.wipe own q.2) else .ok (none, Ev.wipe own t.2)).nr) = f at h
    cases eG : compGo f r.1 (Ev.wipe own r.2) with
    | fail => rw [eG] at h; exact h.elim
    | raise c x e => exact absurd eG (compGo_noraise fun x en c a e => by rw [← hf]; exact Res.nr_ne)
    | ok q =>
      rw [eG] at h
      have h := (show okR R W _ σ H F env Q (if q.1.length ≤ sizeLine then .ok (.lst q.1, Ev.restore own r.2 q.2) else .fail) from h)
      by_cases hL : q.1.length ≤ sizeLine
      case neg => rw [if_neg hL] at h; exact h.elim
      rw [if_pos hL] at h
      intro J H1 F1 fs k1 s1 io old hfs n1
      obtain ⟨Gp, Yp, wk, hG, hy⟩ := io
      intro D hD1
      have ow1 : ∀ a, OW R.ms (wipeF own F1) a ↔ OW R.ms F1 a := fun a => OW_wipeF hms
      obtain ⟨out0, enE⟩ := q
      refine lc_it wk (g := fun v σ H Q => ∃ D, rdG (R.hide D) tg v σ H Q) (tt := fun σ H Q => ∃ D, rdC (R.hide D) nc evC σ H Q) (te := fun σ H Q => ∃ D, rdE (R.hide D) WF kde evE σ H Q) (vs := own) (σ := σ) (H1 := H1) (D := D) (Qd := fun H => Q (.ref D) H) (CompInv R kde.own kde.stb (nc && kde.nor) own σ H1 F1 r.2 D f r.1 out0 enE) ?_ ?_ ?_ ?_
      · -- the first turn
        refine ⟨wipeF own F1, Ev.wipe own r.2, [], out0, [], [], (k1.same (same_upd hD1) (lok_lst k1.lok (Nat.zero_le _))).wipe hms, wipe_wipe, fun j hj => if_pos hj, Step.same (same_upd hD1), ⟨upd_same, fun j hj => k1.nf hD1 j (wipeF_sub hj).1⟩, eG, rfl, AccOk.nil, fun _ => ⟨rfl, rfl, same_upd hD1⟩⟩
      · -- the walk stands
        rintro i H2 hi ⟨F2, en, done, out, accV, facc, k2, wen, wF, s, hD, go, eL, acc, nb⟩
        refine hG H2 ?_
        rcases Bool.or_eq_true_iff.mp cI with z | z
        · rw [z, OO_true]
          exact fun a o e n => s.st a o e fun w => n ((ow1 a).mp w)
        · exact fun a o e _ => (nb z).2.2 a o e
      · intro i x H2 H2' hi p y
        subst hf
        obtain ⟨F, env, p, fp, env', g1, g2, g3, g4, g5, g6⟩ := comp_turn (WF := WF) hms hsl cE cI k1 hD1 hL old hfs hy hi p y
        refine ⟨D, F, env, p, fp, env', g1, g2, g3, g4, g5, fun σ' F' a b => ?_⟩
        obtain ⟨e1, F2, env2, k2, c2⟩ := g6 σ' F' a b
        refine ⟨e1, D, F2, env2, k2, ?_⟩
        cases ec : evC env2 with
        | fail => rw [ec] at c2; exact c2
        | raise c x e => rw [ec] at c2; exact c2
        | ok t =>
          rw [ec] at c2
          intro H3 F3 k3 s3 n3
          have c3 := c2 H3 F3 k3 s3 n3
          have c3 := (show (if t.1 = true then _ else _) from c3)
          by_cases ct : t.1 = true
          · rw [if_pos ct] at c3
            show if t.1 = true then _ else _
            rw [if_pos ct]
            exact ⟨D, c3⟩
          · rw [if_neg ct] at c3
            show if t.1 = true then _ else _
            rw [if_neg ct]
            exact c3
      · rintro H2 ⟨F2, en, done, out, accV, facc, k2, wen, wF, s, ⟨hD, nDF⟩, go, eL, acc, nb⟩
        rw [List.drop_length] at go
        cases go
        rw [List.append_nil] at eL
        subst eL
        have ksh : EnvOk R σ H2 (restF own F1 F2) (Ev.restore own r.2 enE) := EnvOk.restore hms k1 k2 s
        have sub1 : ∀ j a, a ∈ restF own F1 F2 j → a ∈ F1 j ∨ OW R.ms F1 a ∨ H1 a = none := fun j a ha => by
          unfold restF at ha
          split at ha
          · exact .inl ha
          · rcases s.sub j a ha with z | z | z
            · exact .inl (wipeF_sub z).1
            · exact .inr (.inl ((ow1 a).mp z))
            · exact .inr (.inr z)
        have s12 : Step R.ms H1 F1 H2 (restF own F1 F2) := ⟨fun a o e n => s.st a o e fun z => n ((ow1 a).mp z), sub1, fun a ha => by
          rcases s.ow a ((OW_restF hms).mp ha) with z | z
          · exact .inl ((ow1 a).mp z)
          · exact .inr z, s.dom⟩
        have nDr : ∀ j, D ∉ restF own F1 F2 j := fun j hj => by
          unfold restF at hj
          split at hj
          · exact k1.nf hD1 j hj
          · exact nDF j hj
        have frr : kde.own = true → ∀ a ∈ facc, ∀ j, a ∉ restF own F1 F2 j := fun z a ha j hj => by
          unfold restF at hj
          split at hj
          · rename_i c
            rcases acc.nw z a ha with w | w
            · exact k1.free (hms j c) a hj ((ow1 a).mp w)
            · exact k1.nf w j hj
          · exact acc.fr z a ha j hj
        have cons : ∀ {P : Addr → Prop}, P D → (∀ a ∈ facc, P a) → ∀ a ∈ D :: facc, P a := fun p q a ha => by
          rcases List.mem_cons.mp ha with rfl | ha
          · exact p
          · exact q a ha
        refine h (.ref D) H2 _ (D :: facc) ksh (s1.trans s12) ⟨RepF.new hD acc.rep, cons (k1.dom D hD1).2 acc.old, fun z => cons (fun ⟨j, _, hj⟩ => nDr j hj) fun a ha w => acc.st z a ha ((OW_restF hms).mp w),
          fun z => List.nodup_cons.mpr ⟨acc.nD, acc.nd z⟩, fun z => cons ⟨_, hD⟩ (acc.mu z), fun z => cons nDr (frr z), fun z => cons (.inr (s1.dom D hD1)) fun a ha => ?_, fun z => cons (k1.dom D hD1).1 (acc.h0 z), fun _ l e => ?_⟩ fun z => ?_
        · rcases acc.nw z a ha with w | w
          · exact s1.ow a ((ow1 a).mp w)
          · exact .inr (s1.dom a w)
        · cases e
          exact ⟨D, accV, facc, rfl, hD, acc.rep, s1.dom D hD1, nDr, (k1.dom D hD1).1⟩
        · obtain ⟨z1, z2⟩ := Bool.and_eq_true_iff.mp z
          obtain ⟨a1, a2, a3⟩ := n1 z1
          obtain ⟨b1, b2, b3⟩ := nb z2
          refine ⟨?_, ?_, fun a o e => b3 a o (a3 a o e)⟩
          · rw [← a1]
            funext j
            unfold restF
            split
            · rfl
            · rename_i c
              rw [b1]; exact wipeF_ne c
          · rw [b2, restore_wipe, a2]
def notSet : Expr → Bool
  | .Set _ _ _ => false
  | _ => true
theorem fold_pure {iter : Expr} {env : PySem.Env} (h : notSet iter = true) : ∀ x, foldedSetIterable iter env x = pure x := by
  intro x
  unfold foldedSetIterable
  split
  · simp [notSet] at h
  · rfl
/-- [elt for tg in iter if ..] -/
theorem ev_comp {elt tgE iter : Expr} {ifs : List Expr} {scope : Scope} {ownP : List (Str × Nat)} {pos : Pos} {tg : T} {evI : Env → Res (List PV × Env)} {evC : Env → Res (Bool × Env)} {evE : Env → Res (PV × Env)}
    (hc : X.calm = true) (hN : X.N.Nodup) (hi : PI X tgE iter (rdI R W stb nI evI)) (ok : BlkOk X.N X.env.scope scope ownP) (hms : ∀ i ∈ ownP.map (·.2), i ∉ R.ms) (hsl : ∀ i ∈ tg.sl, i ∈ ownP.map (·.2))
    (cE : (kde.stb || (nc && kde.nor)) = true) (cI : (stb || (nc && kde.nor)) = true)
    (hg : ∀ D (s : Shared) (H : Hp) (C : Addr) (cl : List (Str × Addr)) (fp : List Addr), PG (X.blk s H scope (compEnvC scope cl C X.env) fp) tgE (rdG (R.hide D) tg))
    (ht : ∀ D (s : Shared) (H : Hp) (C : Addr) (cl : List (Str × Addr)) (fp : List Addr), PTs (X.blk s H scope (compEnvC scope cl C X.env) fp) ifs (rdC (R.hide D) nc evC))
    (he : ∀ D (s : Shared) (H : Hp) (C : Addr) (cl : List (Str × Addr)) (fp : List Addr), PE (X.blk s H scope (compEnvC scope cl C X.env) fp) elt (rdE (R.hide D) WF kde evE))
    (hf : notSet iter = true) :
    PE X (.ListComp elt [⟨tgE, iter, ifs, 0⟩] scope pos) (rdE R W ⟨kde.own, kde.stb, true, nI && (nc && kde.nor)⟩ (evComp (ownP.map (·.2)) tg evI evC evE)) :=
  PE.by (pe_lc hc hN hi ok (fun s H C cl fp => PG.any fun D => hg D s H C cl fp) (fun s H C cl fp => PTs.any fun D => ht D s H C cl fp) (fun s H C cl fp => PE.any fun D => he D s H C cl fp) (fold_pure hf)) fun σ H Q F env k h => comp_law hms hsl cE cI k h
end
end Ev

/-! EvE15: what a def promises; calls. -/
namespace Ev
open PySem PySem.Spec PyProof.Rows L2
/-- a def's promise, where no guard stands -/
structure FnG (P : Program) (w : World) (K : PySem.W.Frag) (mg : Str → Option Value) (base : Heap) (k : Nat) (f : Addr) (fd : FuncData) (ps : List Str) (sp : Sp) : Prop where
  len : ∀ vs H Q E, sp vs H Q E → vs.length = ps.length
  run : ∀ (A : Around) (outer : List PySem.Env) (s : Shared) (H : Hp) (args : Args) (us : List Value) (vs : List V) (Q : VK) (E : XK), Room k A → A.guards = some [] → Env0 P w K mg base A outer s H → BindsTo s fd args (ps.zip us) → Vals vs us → sp vs H Q E →
    codeAny (model P w) A (.call (.ref f) args) (L2.CR (L2.CX P w) outer P w H s Q E) s
theorem fn_ofG {P : Program} {w : World} {K : PySem.W.Frag} {mg : Str → Option Value} {base : Heap} {k : Nat} {f : Addr} {name qual : Str} {params : Arguments} {body : List Stmt} {scope : Scope} {dV kV doc pm cdv ct oc : Value} {an od : Option Addr}
    {osl : Array (Option Value)} {N ps : List Str} {sp : Sp} (lk : K.lookup f = some ⟨oc, od, .func (PySem.W.fnOf name qual params body scope dV kV doc pm an cdv ct), osl⟩) (hcd : PySem.W.codeIn K cdv qual = true) (S : FnScope N ps scope)
    (len : ∀ vs H Q E, sp vs H Q E → vs.length = ps.length)
    (hbody : ∀ (A : Around) (outer : List PySem.Env) (s : Shared) (H : Hp) (vs : List V) (Q : VK) (E : XK), Room k (A.deeper (envOfC qual scope s.heap.objs.size f cdv)) → A.guards = some [] → sp vs H Q E →
      ∃ t, PSs (cxOf (L2.CX P w) P w K mg base N qual scope f cdv A outer s H E) body t ∧ t { nx := fun _ H' => Q .non H', rt := Q } (L2.start N vs) H) :
    FnG P w K mg base (k + 1) f (PySem.W.fnOf name qual params body scope dV kV doc pm an cdv ct) ps sp := by
  refine ⟨len, fun A outer s H args us vs Q E hr hgu e0 hb r hsp => ?_⟩
  have hl := len _ _ _ _ hsp
  have KX : K.In s.heap := e0.mod.kin.keeps fun b o e => (e0.bs b o e).1
  have lim : s.heap.NoLimit := e0.mod.nolimit.keeps fun b o e => (e0.bs b o e).1
  have hkind : ∀ y ∈ ps.zip us, scope.names.lookup y.1 = some .local ∨ (scope.names.lookup y.1 = some .cell ∧ ((cellsFrom (s.heap.objs.size + 1) scope.names []).lookup y.1).isSome = true) := fun ⟨n, v⟩ hy => by
    rcases S.par n (List.of_mem_zip hy).1 with q | q
    · exact .inl q
    · exact .inr ⟨q, PySem.W.cellsFrom_some _ _ _ (.inl q)⟩
  refine codeAny_call_function hr.depth (KX _ _ lk) rfl S.co S.gen rfl (PySem.W.codeRec_of KX hcd) (hb _ _ _ _ ?_)
  refine wpAny_newFunctionEnv_cells S.kind hkind fun env he s1 x => ?_
  subst he
  refine ⟨lim.keeps x.toInCall.keep, codeAny_func ?_⟩
  obtain ⟨t, ht, hq⟩ := hbody A outer s H vs Q E (hr.deeper _) hgu hsp
  have I : Inv (cxOf (L2.CX P w) P w K mg base N qual scope f cdv A outer s H E) [] (L2.start N vs) H s1 := inv_start S hr.hd e0 hl r x
  refine wpAny_mono (ht.run [] s1 (L2.start N vs) H _ I hq) (fun fl s' hs => ?_) fun e s' hs => hs
  have fin : ∀ {σ' : St} {H' : Hp} {v : V} {u : Value}, Inv (cxOf (L2.CX P w) P w K mg base N qual scope f cdv A outer s H E) [] σ' H' s' → RelV v u → Q v H' → CE outer P w H s Q u s' :=
    fun {σ' H' v u} J rv q => ⟨v, H', J.os, J.bare, J.base, J.hok, rv, q⟩
  cases fl with
  | ret u =>
    obtain ⟨v, σ', H', J, rv, q⟩ := hs
    exact fin J rv q
  | next =>
    obtain ⟨σ', H', J, q⟩ := hs
    exact fin (v := V.non) (u := Value.none) J rfl q
  | brk =>
    obtain ⟨_, _, _, q⟩ := hs
    exact False.elim q
  | cont =>
    obtain ⟨_, _, _, q⟩ := hs
    exact False.elim q
section
variable {X : Cx} {W : WX} {k : Nat} {f : Addr} {fd : FuncData} {ps : List Str} {sp : Sp} {x : Str} {p pos : Pos} {e : Expr} {es : List Expr} {t : TA}
theorem run_fnG {pins : List (Addr × Obj)} {σ : St} {H : Hp} {s : Shared} {Q : VK} {us : List Value} {vs : List V} (F : FnG X.prog X.w X.K X.mg X.base k f fd ps sp) (hr : Room k X.A) (hgu : X.A.guards = some []) (hb : Binds X.K fd ps []) (tk : Takes X W)
    (I : Inv X pins σ H s) (r : Vals vs us) (h : sp vs H Q (WE W σ)) : wpAny (model X.prog X.w) X.A (call (.ref f) us) (EP X pins σ Q) X.xe s := by
  have hl : us.length = ps.length := by rw [← r.length]; exact F.len _ _ _ _ h
  have b := hb s us I.kIn (by rw [List.append_nil]; exact hl)
  rw [List.append_nil] at b
  refine wpAny_call (codeAny_mono (F.run X.A X.stack s H ⟨us, []⟩ us vs Q (WE W σ) hr hgu I.env0 b r h) fun r s' hq => ?_)
  cases r with
  | error e => exact passAt tk σ pins H s e s' I hq
  | ok fl =>
    cases fl with
    | ret u => exact I.after hq
    | next => exact False.elim hq
    | brk => exact False.elim hq
    | cont => exact False.elim hq
theorem pe_callG (F : FnG X.prog X.w X.K X.mg X.base k f fd ps sp) (hr : Room k X.A) (hgu : X.A.guards = some []) (hg : Gl X x) (hm : X.mg x = some (.ref f)) (hk : PySem.W.keepIn X.K (.ref f) = true) (hb : Binds X.K fd ps []) (tk : Takes X W)
    (ha : PA X (e :: es) t) (hn : noStar e = true) (hn' : es.all noStar = true) (hdb : (x == ("__debug__" : Str)) = false) :
    PE X (.Call (.Name x p) (e :: es) [] pos) (fun σ H Q => t σ H fun vs H1 => sp vs H1 Q (WE W σ)) := by
  refine ⟨fun pins s σ H Q I h => ?_⟩
  refine wpAny_Call_Name_kw (ld_glob I hg hm ?_ hdb)
  refine PySem.W.callWith_K (h₀ := X.base) I.ok.mod.kin hk (thn (ha.run pos pins s σ H _ I h) fun us s1 ⟨vs, H1, I1, r, q⟩ => ⟨I1.kIn, ?_⟩) (star_cons hn _) (star_none hn' _ _)
  exact run_fnG F hr hgu hb tk I1 r q
theorem pe_callG0 (F : FnG X.prog X.w X.K X.mg X.base k f fd ps sp) (hr : Room k X.A) (hgu : X.A.guards = some []) (hg : Gl X x) (hm : X.mg x = some (.ref f)) (hk : PySem.W.keepIn X.K (.ref f) = true) (hb : Binds X.K fd ps []) (tk : Takes X W) (hdb : (x == ("__debug__" : Str)) = false) :
    PE X (.Call (.Name x p) [] [] pos) (fun σ H Q => sp [] H Q (WE W σ)) := by
  refine ⟨fun pins s σ H Q I h => ?_⟩
  refine wpAny_Call_Name_kw (ld_glob I hg hm ?_ hdb)
  exact PySem.W.callWith_K0 I.kIn hk (run_fnG (us := []) F hr hgu hb tk I .nil h)
end

/-! ### the promise by the evaluator -/
/-- a row of values, each with its lists -/
inductive RepN (G : Gl0) (H : Hp) : List PV → List V → List (List Addr) → Prop
  | nil : RepN G H [] [] []
  | cons {p : PV} {l : List PV} {v : V} {vs : List V} {f : List Addr} {fs : List (List Addr)} (h : RepF G H p v f) (t : RepN G H l vs fs) : RepN G H (p :: l) (v :: vs) (f :: fs)
theorem RepL.n {G : Gl0} {H : Hp} : ∀ {l : List PV} {vs : List V} {fp : List Addr}, RepL G H l vs fp → ∃ fs, RepN G H l vs fs ∧ fs.flatten = fp
  | [], _, _, h => by
    obtain ⟨rfl, rfl⟩ := h
    exact ⟨[], .nil, rfl⟩
  | x :: l, _, _, h => by
    obtain ⟨v, vs, f, f', rfl, rfl, h1, h2⟩ := h
    obtain ⟨fs, h3, rfl⟩ := RepL.n h2
    exact ⟨f :: fs, .cons h1 h3, rfl⟩
theorem RepN.l {G : Gl0} {H : Hp} {l : List PV} {vs : List V} {fs : List (List Addr)} (h : RepN G H l vs fs) : RepL G H l vs fs.flatten := by
  induction h with
  | nil => exact RepL.nil
  | cons h _ ih => exact RepL.cons h ih
/-- the first argument's lists, where it comes by reference -/
def refd (br : Bool) : List (List Addr) → List Addr
  | f :: _ => if br = true then f else []
  | [] => []
/-- behind the callee -/
structure After (G : Gl0) (br : Bool) (H : Hp) (fs : List (List Addr)) (v0 : Option V) (b : PV) (H' : Hp) (f0 : List Addr) : Prop where
  st : Stay (fun a => a ∈ refd br fs) H H'
  dom : ∀ a, H' a = none → H a = none
  lok : LenOk G.K H'
  rep : br = true → ∃ v, v0 = some v ∧ RepF G H' b v f0
  nd : br = true → f0.Nodup
  mu : br = true → ∀ a ∈ f0, ∃ vs, H' a = some (.lst vs)
  nw : br = true → ∀ a ∈ f0, a ∈ refd br fs ∨ H a = none
structure Back (G : Gl0) (br fresh : Bool) (H : Hp) (fs : List (List Addr)) (H' : Hp) (f0 : List Addr) (p : PV) (z : V) (fz : List Addr) : Prop where
  rep : RepF G H' p z fz
  sub : ∀ a ∈ fz, a ∈ fs.flatten ∨ H a = none
  st : br = true → ∀ a ∈ fz, a ∉ f0
  nw : fresh = true → ∀ a ∈ fz, H a = none
  nd : fresh = true → fz.Nodup
  mu : fresh = true → ∀ a ∈ fz, ∃ vs, H' a = some (.lst vs)
/-- what the arguments must be -/
structure ArgsOk (G : Gl0) (br : Bool) (np : Nat) (H : Hp) (args : List PV) (vs : List V) (fs : List (List Addr)) : Prop where
  rep : RepN G H args vs fs
  len : args.length = np
  lok : LenOk G.K H
  nd : (refd br fs).Nodup
  mu : ∀ a ∈ refd br fs, ∃ xs, H a = some (.lst xs)
  dj : br = true → ∀ i f, 0 < i → fs[i]? = some f → ∀ a ∈ f, a ∉ refd br fs
def spE (G : Gl0) (cls : Nat → Addr) (C : List PV → CR) (br fresh : Bool) (np : Nat) : Sp := fun vs H Q E => ∃ args fs, ArgsOk G br np H args vs fs ∧ match C args with
  | .ok p b => ∀ z H' fz f0, After G br H fs vs[0]? b H' f0 → Back G br fresh H fs H' f0 p z fz → Q z H'
  | .raise c x b => ∀ d y H' f0, After G br H fs vs[0]? b H' f0 → H' d = some (.xd [(G.fld c, y)]) → RepF G H' x y [] → E (.ref (cls c)) (some d) H'
  | .fail => False
theorem RepN.length {G : Gl0} {H : Hp} {l : List PV} {vs : List V} {fs : List (List Addr)} (h : RepN G H l vs fs) : vs.length = l.length ∧ fs.length = l.length := by
  induction h with
  | nil => exact ⟨rfl, rfl⟩
  | cons _ _ ih => simp [ih.1, ih.2]
theorem spE_len {G : Gl0} {cls : Nat → Addr} {C : List PV → CR} {br fresh : Bool} {np : Nat} {vs : List V} {H : Hp} {Q : VK} {E : XK} (h : spE G cls C br fresh np vs H Q E) : vs.length = np := by
  obtain ⟨args, fs, a, _⟩ := h
  rw [a.rep.length.1]; exact a.len
/-- nothing is promised: nothing is asked -/
theorem refd_false {fs : List (List Addr)} : refd false fs = [] := by
  cases fs <;> rfl
end Ev

/-! EvE16: calls of defs as expressions. -/
namespace Ev
open PySem PySem.Spec PyProof.Rows L2
variable {R : Fr0} {W : WXX} {σ : St} {H H1 H2 H' : Hp} {F F1 F2 F' : Nat → List Addr} {env env1 env2 env' : Env} {o1 s1 n1 fresh : Bool} {np : Nat} {C : List PV → CR}
theorem same_of_stay {br : Bool} {fs : List (List Addr)} (h : Stay (fun a => a ∈ refd false fs) H H') : ∀ a o, H a = some o → H' a = some o := fun a o e => h a o e (by rw [refd_false]; simp)
section
variable {X : Cx}
/-- a call by value: what the promise asks, from the evaluator -/
theorem call_law {Q : VK} {vs : List V} {fp : List Addr} {q : List PV × Env} (hlen : ∀ args, C args ≠ .fail → args.length = np)
    (k2 : EnvOk R σ H2 F2 q.2) (s2 : Step R.ms H F H2 F2) (v2 : RowOk R o1 s1 H F H2 F2 q.1 vs fp) (nr : Nor n1 H F env H2 F2 q.2) (h2 : okR R W ⟨fresh, fresh || s1, fresh, n1⟩ σ H F env Q (runCall (C q.1) q.2)) :
    spE R.G R.cls C false fresh np vs H2 Q (WE W σ) := by
  obtain ⟨fs, rn, ef⟩ := v2.rep.n
  have hc : C q.1 ≠ .fail := fun e => by rw [e] at h2; exact h2
  refine ⟨q.1, fs, ⟨rn, hlen _ hc, k2.lok, by rw [refd_false]; exact List.nodup_nil, fun a z => (by rw [refd_false] at z; simp at z), nofun⟩, ?_⟩
  cases e : C q.1 with
  | fail => exact hc e
  | ok p b =>
    rw [e] at h2
    intro z H' fz f0 af bk
    have same := same_of_stay (br := false) af.st
    refine h2 z H' F2 fz (k2.same same af.lok) (s2.trans (Step.same same)) ⟨bk.rep, fun a ha => ?_, fun c a ha => ?_, bk.nd, bk.mu, fun c a ha => k2.nf (bk.nw c a ha), fun c a ha => .inr (s2.dom a (bk.nw c a ha)), fun c a ha => (k2.dom a (bk.nw c a ha)).1, fun c l el => ?_⟩ fun c => ?_
    · rcases bk.sub a ha with w | w
      · exact v2.old a (ef ▸ w)
      · exact (k2.dom a w).2
    · rcases Bool.or_eq_true_iff.mp c with w | w
      · exact fun ⟨j, _, hj⟩ => k2.nf (bk.nw w a ha) j hj
      · rcases bk.sub a ha with y | y
        · exact v2.st w a (ef ▸ y)
        · exact fun ⟨j, _, hj⟩ => k2.nf y j hj
    · subst el
      obtain ⟨a, xs, f, rfl, ha, hl, rfl⟩ := bk.rep
      have hn := bk.nw c a (by simp)
      exact ⟨a, xs, f, rfl, ha, hl, s2.dom a hn, k2.nf hn, (k2.dom a hn).1⟩
    · obtain ⟨e1, e2, e3⟩ := nr c
      exact ⟨e1, e2, fun a o e => same a o (e3 a o e)⟩
  | raise c x b =>
    rw [e] at h2
    intro d y H' f0 af hd ry
    have same := same_of_stay (br := false) af.st
    exact h2 d H' F2 (k2.same same af.lok) (s2.trans (Step.same same)) ⟨y, [], hd, ry, fun a z => by simp at z, rfl⟩
theorem ev_call {k : Nat} {f : Addr} {fd : FuncData} {ps : List Str} {x : Str} {p pos : Pos} {e : Expr} {es : List Expr} {evs : Env → Res (List PV × Env)} (hlen : ∀ args, C args ≠ .fail → args.length = np)
    (F : FnG X.prog X.w X.K X.mg X.base k f fd ps (spE R.G R.cls C false fresh np)) (hr : Room k X.A) (hgu : X.A.guards = some []) (hg : Gl X x) (hm : X.mg x = some (.ref f)) (hk : PySem.W.keepIn X.K (.ref f) = true) (hb : Binds X.K fd ps []) (tk : Takes X W)
    (ha : PA X (e :: es) (rdA R W o1 s1 n1 evs)) (hn : noStar e = true) (hn' : es.all noStar = true) (hdb : (x == ("__debug__" : Str)) = false) :
    PE X (.Call (.Name x p) (e :: es) [] pos) (rdE R W ⟨fresh, fresh || s1, fresh, n1⟩ fun env => (evs env).bind fun r => runCall (C r.1) r.2) :=
  PE.by (pe_callG F hr hgu hg hm hk hb tk ha hn hn' hdb) fun σ H Q F env k h => ⟨F, env, k, okR.bindA Step.refl h fun q vs H2 F2 fp _ k2 s2 v2 nr h2 => call_law hlen k2 s2 v2 nr h2⟩
theorem ev_call0 {k : Nat} {f : Addr} {fd : FuncData} {ps : List Str} {x : Str} {p pos : Pos} (hlen : ∀ args, C args ≠ .fail → args.length = np)
    (F : FnG X.prog X.w X.K X.mg X.base k f fd ps (spE R.G R.cls C false fresh np)) (hr : Room k X.A) (hgu : X.A.guards = some []) (hg : Gl X x) (hm : X.mg x = some (.ref f)) (hk : PySem.W.keepIn X.K (.ref f) = true) (hb : Binds X.K fd ps []) (tk : Takes X W) (hdb : (x == ("__debug__" : Str)) = false) :
    PE X (.Call (.Name x p) [] [] pos) (rdE R W ⟨fresh, true, fresh, true⟩ fun env => (Res.ok (([] : List PV), env)).bind fun r => runCall (C r.1) r.2) :=
  PE.by (pe_callG0 F hr hgu hg hm hk hb tk hdb) fun σ H Q F env k h => call_law (o1 := true) (s1 := true) (n1 := true) (q := ([], env)) hlen k Step.refl RowOk.nil Nor.refl (by rw [Bool.or_true]; exact h)
/-- the heap changes outside what the slots hold -/
theorem EnvOk.heap {O : Addr → Prop} (k : EnvOk R σ H F env) (st : Stay O H H') (ls : Lsts O H) (n : ∀ j, ∀ a ∈ F j, ¬ O a) (ho : ∀ a, O a → R.H0 a = none ∨ R.B a) (dom : ∀ a, H' a = none → H a = none) (lok : LenOk R.G.K H') : EnvOk R σ H' F env :=
  ⟨k.len, fun i p e c => let ⟨v, h1, h2⟩ := k.slot i p e c; ⟨v, h1, RepF.stay st ls _ _ _ h2 (n i)⟩, k.non, k.nd, fun i hi a ha => let ⟨vs, e⟩ := k.mu i hi a ha; ⟨vs, st a _ e (n i a ha)⟩, k.ow, k.dj, k.old,
    fun a o e c => st a o (k.keep a o e c) fun z => (ho a z).elim (fun w => by rw [w] at e; cases e) c, fun a e => k.dom a (dom a e), lok, k.rf⟩
/-- the state's name and the further arguments -/
theorem ev_acallr {i : Nat} {x : Str} {px : Pos} {es : List Expr} {evs : Env → Res (List PV × Env)} (hN : X.N[i]? = some x) (hv : Vis X.env.scope x) (hd : (x == ("__debug__" : Str)) = false) (hcd : (x == ("__classdict__" : Str)) = false) (hs : PA X es (rdA R W o1 s1 n1 evs)) :
    PA X (.Name x px :: es) (fun σ H Q => ∃ v, σ[i]? = some (some v) ∧ rdA R W o1 s1 n1 evs σ H fun vs H1 => Q (v :: vs) H1) :=
  PA.imp (pa_cons (pe_var hN hv hd hcd) hs (star_cons rfl _)) fun σ H Q h => h
theorem setset {σ : St} {i : Nat} {v : V} (h : σ[i]? = some (some v)) : σ.set i (some v) = σ := by
  apply List.ext_getElem?
  intro j
  rw [List.getElem?_set]
  split
  · rename_i e
    subst e
    split
    · exact h.symm
    · rename_i c
      rw [List.getElem?_eq_none (by omega)] at h
      cases h
  · rfl
theorem callr_law {Q : VK} {vs : List V} {fp : List Addr} {q : List PV × Env} {i : Nat} {v0 : V} (hlen : ∀ args, C args ≠ .fail → args.length = np) (hi : i ∈ R.ms) (hv0 : σ[i]? = some (some v0))
    (k2 : EnvOk R σ H2 F2 q.2) (s2 : Step R.ms H F H2 F2) (v2 : RowOk R o1 true H F H2 F2 q.1 vs fp) (h2 : okR R W ⟨fresh, true, fresh, false⟩ σ H F env Q ((get q.2 i).bind fun s => runCallR (C (s.1 :: q.1)) i q.2)) :
    spE R.G R.cls C true fresh np (v0 :: vs) H2 Q (WE W σ) := by
  obtain ⟨fs, rn, ef⟩ := v2.rep.n
  rcases get_ok (env := q.2) (i := i) with ⟨p0, hu, hs, g⟩ | g
  case inr => rw [g] at h2; exact h2.elim
  rw [g] at h2
  have h2 : okR R W ⟨fresh, true, fresh, false⟩ σ H F env Q (runCallR (C (p0 :: q.1)) i q.2) := h2
  have hc : C (p0 :: q.1) ≠ .fail := fun e => by rw [e] at h2; exact h2
  obtain ⟨v, hv, r0⟩ := k2.slot i _ hs hu
  rw [hv0] at hv
  cases hv
  have hst : ∀ a ∈ fp, a ∉ F2 i := fun a ha hb => v2.st rfl a ha ⟨i, hi, hb⟩
  have il : i < q.2.length := by
    rcases Nat.lt_or_ge i q.2.length with h | h
    · exact h
    · rw [List.getElem?_eq_none h] at hs; cases hs
  -- behind the callee
  have fin : ∀ {H' : Hp} {f0 : List Addr} {b : PV}, After R.G true H2 (F2 i :: fs) (some v0) b H' f0 → EnvOk R σ H' (setF (drop1 F2 i) (q.2.set i .undef).length i f0) ((q.2.set i .undef).set i b) ∧ Step R.ms H2 F2 H' (setF (drop1 F2 i) (q.2.set i .undef).length i f0) := fun {H' f0 b} af => by
    have O : ∀ a, a ∈ refd true (F2 i :: fs) ↔ a ∈ F2 i := fun a => .rfl
    have kd := (k2.drop i).heap (O := fun a => a ∈ refd true (F2 i :: fs)) af.st (fun a ha => k2.mu i hi a ha) (fun j a ha hb => ?_) (fun a ha => ?_) af.dom af.lok
    · obtain ⟨v, ev, rb⟩ := af.rep rfl
      cases ev
      have nw : ∀ a ∈ f0, a ∈ F2 i ∨ H2 a = none := af.nw rfl
      have dis : ∀ a ∈ f0, ∀ j, j ≠ i → a ∉ drop1 F2 i j := fun a ha j hj hb => by
        rw [drop1_ne hj] at hb
        rcases nw a ha with w | w
        · exact k2.dj i hi j hj a w hb
        · exact k2.nf w j hb
      have ks := kd.set rb (fun a ha => ?_) (fun j hj n a ha => dis a ha j n) (fun _ => ⟨af.nd rfl, af.mu rfl, fun a ha => ?_, fun a ha j n => dis a ha j n⟩) (fun w hw => by have := (k2.rf i w hw).2; rw [hv0] at this; cases this; rfl)
      · rw [setset hv0] at ks
        refine ⟨ks, fun a o e n => af.st a o e fun z => n ⟨i, hi, z⟩, fun j a ha => ?_, fun a ⟨j, hj, ha⟩ => ?_, af.dom⟩
        · by_cases c : j = i
          · subst c
            rw [setF_same (by rw [List.length_set]; exact il)] at ha
            rcases nw a ha with w | w
            · exact .inl w
            · exact .inr (.inr w)
          · rw [setF_ne c, drop1_ne c] at ha
            exact .inl ha
        · by_cases c : j = i
          · subst c
            rw [setF_same (by rw [List.length_set]; exact il)] at ha
            rcases nw a ha with w | w
            · exact .inl ⟨j, hj, w⟩
            · exact .inr w
          · rw [setF_ne c, drop1_ne c] at ha
            exact .inl ⟨j, hj, ha⟩
      · rcases nw a ha with w | w
        · exact k2.old i a w
        · exact (k2.dom a w).2
      · rcases nw a ha with w | w
        · exact k2.ow i hi a w
        · exact .inl (k2.dom a w).1
    · by_cases c : j = i
      · subst c; rw [drop1_same] at ha; simp at ha
      · rw [drop1_ne c] at ha
        exact k2.dj i hi j c a hb ha
    · rcases k2.ow i hi a ha with w | ⟨_, _, w⟩
      · exact .inl w
      · exact .inr w
  have ee : ∀ b, (q.2.set i .undef).set i b = q.2.set i b := fun b => by rw [List.set_set]
  refine ⟨p0 :: q.1, F2 i :: fs, ⟨.cons r0 rn, hlen _ hc, k2.lok, k2.nd i hi, k2.mu i hi, fun _ j f hj ej a ha hb => ?_⟩, ?_⟩
  · obtain ⟨j', rfl⟩ : ∃ j', j = j' + 1 := ⟨j - 1, by omega⟩
    rw [List.getElem?_cons_succ] at ej
    exact hst a (ef ▸ List.mem_flatten.mpr ⟨f, List.mem_of_getElem? ej, ha⟩) hb
  cases e : C (p0 :: q.1) with
  | fail => exact hc e
  | ok p b =>
    rw [e] at h2
    intro z H' fz f0 af bk
    obtain ⟨k3, s3⟩ := fin af
    rw [ee b] at k3
    have sub : ∀ a ∈ fz, (a ∈ F2 i ∨ a ∈ fp) ∨ H2 a = none := fun a ha => by
      rcases bk.sub a ha with w | w
      · rw [List.flatten_cons] at w
        rcases List.mem_append.mp w with w | w
        · exact .inl (.inl w)
        · exact .inl (.inr (ef ▸ w))
      · exact .inr w
    have notin : ∀ a ∈ fz, ∀ j, (j ∈ R.ms) → a ∉ setF (drop1 F2 i) (q.2.set i .undef).length i f0 j := fun a ha j hj hb => by
      by_cases c : j = i
      · subst c
        rw [setF_same (by rw [List.length_set]; exact il)] at hb
        exact bk.st rfl a ha hb
      · rw [setF_ne c, drop1_ne c] at hb
        rcases sub a ha with (w | w) | w
        · exact k2.dj j hj i (Ne.symm c) a hb w
        · exact v2.st rfl a w ⟨j, hj, hb⟩
        · exact k2.nf w j hb
    have nfr : ∀ a, H2 a = none → a ∈ fz → ∀ j, a ∉ setF (drop1 F2 i) (q.2.set i .undef).length i f0 j := fun a hn ha j hb => by
      by_cases c : j = i
      · subst c
        rw [setF_same (by rw [List.length_set]; exact il)] at hb
        exact bk.st rfl a ha hb
      · rw [setF_ne c, drop1_ne c] at hb
        exact k2.nf hn j hb
    refine h2 z H' _ fz k3 (s2.trans s3) ⟨bk.rep, fun a ha => ?_, fun _ a ha ⟨j, hj, hb⟩ => notin a ha j hj hb, bk.nd, bk.mu, fun c a ha => nfr a (bk.nw c a ha) ha, fun c a ha => .inr (s2.dom a (bk.nw c a ha)), fun c a ha => (k2.dom a (bk.nw c a ha)).1, fun c l el => ?_⟩ nofun
    · rcases sub a ha with (w | w) | w
      · exact k2.old i a w
      · exact v2.old a w
      · exact (k2.dom a w).2
    · subst el
      obtain ⟨a, xs, f, rfl, ha, hl, rfl⟩ := bk.rep
      have hn := bk.nw c a (by simp)
      exact ⟨a, xs, f, rfl, ha, hl, s2.dom a hn, nfr a hn (by simp), (k2.dom a hn).1⟩
  | raise c x b =>
    rw [e] at h2
    intro d y H' f0 af hd ry
    obtain ⟨k3, s3⟩ := fin af
    rw [ee b] at k3
    exact h2 d H' _ k3 (s2.trans s3) ⟨y, [], hd, ry, fun a z => by simp at z, rfl⟩
theorem ev_callr {i k : Nat} {f : Addr} {fd : FuncData} {ps : List Str} {x y : Str} {p p2 pos : Pos} {es : List Expr} {evs : Env → Res (List PV × Env)} (hlen : ∀ args, C args ≠ .fail → args.length = np) (hi : i ∈ R.ms)
    (F : FnG X.prog X.w X.K X.mg X.base k f fd ps (spE R.G R.cls C true fresh np)) (hr : Room k X.A) (hgu : X.A.guards = some []) (hg : Gl X x) (hm : X.mg x = some (.ref f)) (hk : PySem.W.keepIn X.K (.ref f) = true) (hb : Binds X.K fd ps []) (tk : Takes X W)
    (hN : X.N[i]? = some y) (hv : Vis X.env.scope y) (hd : (y == ("__debug__" : Str)) = false) (hcd : (y == ("__classdict__" : Str)) = false)
    (ha : PA X es (rdA R W o1 true n1 evs)) (hn' : es.all noStar = true) (hdb : (x == ("__debug__" : Str)) = false) :
    PE X (.Call (.Name x p) (.Name y p2 :: es) [] pos) (rdE R W ⟨fresh, true, fresh, false⟩ fun env => (get env i).bind fun _ => (evs env).bind fun r => (get r.2 i).bind fun s => runCallR (C (s.1 :: r.1)) i r.2) :=
  PE.by (pe_callG F hr hgu hg hm hk hb tk (ev_acallr hN hv hd hcd ha) rfl hn' hdb) fun σ H Q F env k h => by
    rcases get_ok (env := env) (i := i) with ⟨p0, hu, hs, g⟩ | g
    case inr => rw [g] at h; exact h.elim
    rw [g] at h
    obtain ⟨v0, hv0, _⟩ := k.slot i _ hs hu
    exact ⟨v0, hv0, F, env, k, okR.bindA Step.refl h fun q vs H2 F2 fp _ k2 s2 v2 nr h2 => callr_law hlen hi hv0 k2 s2 v2 h2⟩
end
end Ev

/-! EvE17: statements. -/
namespace Ev
open PySem PySem.Spec PyProof.Rows L2
/-- what is handed back -/
structure RetOk (R : Fr0) (fresh : Bool) (H' : Hp) (F' : Nat → List Addr) (p : PV) (z : V) (fz : List Addr) : Prop where
  rep : RepF R.G H' p z fz
  old : ∀ a ∈ fz, R.A a
  st : ∀ a ∈ fz, ¬ OW R.ms F' a
  nd : fresh = true → fz.Nodup
  mu : fresh = true → ∀ a ∈ fz, ∃ vs, H' a = some (.lst vs)
  h0 : fresh = true → ∀ a ∈ fz, R.H0 a = none
def okS (R : Fr0) (W : WXX) (fresh : Bool) (D : Ends) (H : Hp) (F : Nat → List Addr) : Out → Prop
  | .nx e => ∀ σ' H' F', EnvOk R σ' H' F' e → StepS R.ms H F H' F' → D.nx σ' H'
  | .bk e => ∀ σ' H' F', EnvOk R σ' H' F' e → StepS R.ms H F H' F' → D.bk σ' H'
  | .ct e => ∀ σ' H' F', EnvOk R σ' H' F' e → StepS R.ms H F H' F' → D.ct σ' H'
  | .rt p e => ∀ σ' H' F' z fz, EnvOk R σ' H' F' e → StepS R.ms H F H' F' → RetOk R fresh H' F' p z fz → D.rt z H'
  | .raise c x e => ∀ σ' H' F' d, EnvOk R σ' H' F' e → StepS R.ms H F H' F' → ExcAt R H' c x d → W (.ref (R.cls c)) (some d) σ' H'
  | .fail => False
def rdS (R : Fr0) (W : WXX) (fresh : Bool) (ev : Env → Out) : TS := fun D σ H => ∃ F env, EnvOk R σ H F env ∧ okS R W fresh D H F (ev env)
variable {R : Fr0} {W : WXX} {σ : St} {H H1 H2 H' : Hp} {F F1 F2 F' : Nat → List Addr} {env env1 env2 env' : Env} {o1 s1 n1 fresh : Bool} {D : Ends} {kd : Kd}
theorem okS.step {o : Out} (s : StepS R.ms H F H1 F1) (h : okS R W fresh D H F o) : okS R W fresh D H1 F1 o := by
  cases o with
  | nx e => exact fun σ' H' F' k st => h σ' H' F' k (s.trans st)
  | bk e => exact fun σ' H' F' k st => h σ' H' F' k (s.trans st)
  | ct e => exact fun σ' H' F' k st => h σ' H' F' k (s.trans st)
  | rt p e => exact fun σ' H' F' z fz k st => h σ' H' F' z fz k (s.trans st)
  | raise c x e => exact fun σ' H' F' d k st => h σ' H' F' d k (s.trans st)
  | fail => exact h
/-- an expression first -/
theorem okS.bind {env1 : Env} {r : Res (PV × Env)} {k : PV × Env → Out} {Q1 : VK} (h : okS R W fresh D H F (r.out k))
    (step : ∀ q v H2 F2 fp, r = .ok q → EnvOk R σ H2 F2 q.2 → Step R.ms H F H2 F2 → ValOk R kd H F H2 F2 q.1 v fp → Nor kd.nor H F env1 H2 F2 q.2 → okS R W fresh D H F (k q) → Q1 v H2) :
    okR R W kd σ H F env1 Q1 r := by
  cases r with
  | ok q => exact fun v H2 F2 fp k1 k2 k3 k4 => step q v H2 F2 fp rfl k1 k2 k3 k4 h
  | raise c x e => exact fun d H2 F2 k1 k2 k3 => h σ H2 F2 d k1 k2.s k3
  | fail => exact h
theorem okS.bindA {env1 : Env} {r : Res (List PV × Env)} {k : List PV × Env → Out} {Q1 : List V → Hp → Prop} (h : okS R W fresh D H F (r.out k))
    (step : ∀ q v H2 F2 fp, r = .ok q → EnvOk R σ H2 F2 q.2 → Step R.ms H F H2 F2 → RowOk R o1 s1 H F H2 F2 q.1 v fp → Nor n1 H F env1 H2 F2 q.2 → okS R W fresh D H F (k q) → Q1 v H2) :
    okA R W o1 s1 n1 σ H F env1 Q1 r := by
  cases r with
  | ok q => exact fun v H2 F2 fp k1 k2 k3 k4 => step q v H2 F2 fp rfl k1 k2 k3 k4 h
  | raise c x e => exact fun d H2 F2 k1 k2 k3 => h σ H2 F2 d k1 k2.s k3
  | fail => exact h
theorem okS.bindI {env1 : Env} {stb nor : Bool} {r : Res (List PV × Env)} {k : List PV × Env → Out} {Q1 : L2.It → Hp → Prop} (h : okS R W fresh D H F (r.out k))
    (step : ∀ q J H' F' fs, r = .ok q → EnvOk R σ H' F' q.2 → Step R.ms H F H' F' → ItOk R (OO stb R.ms F') H' J q.1 fs → (∀ a ∈ fs, R.A a) → (∀ a ∈ fs, (∃ o, H' a = some o) ∧ ¬ OW R.ms F' a) → okS R W fresh D H F (k q) → Q1 J H') :
    okI R W stb nor σ H F env1 Q1 r := by
  cases r with
  | ok q => exact fun J H2 F2 fs k1 k2 k3 k4 k5 _ => step q J H2 F2 fs rfl k1 k2 k3 k4 k5 h
  | raise c x e => exact fun d H2 F2 k1 k2 k3 => h σ H2 F2 d k1 k2.s k3
  | fail => exact h
theorem okS.bindT {env1 : Env} {nor : Bool} {r : Res (PV × Env)} {k : Bool → PV × Env → Out} {QT : Bool → Hp → Prop} (h : okS R W fresh D H F (r.out fun q => (ofO (truth q.1)).out fun b => k b q))
    (step : ∀ b q H2 F2, r = .ok q → EnvOk R σ H2 F2 q.2 → Step R.ms H F H2 F2 → okS R W fresh D H F (k b q) → QT b H2) :
    okT R W nor σ H F env1 QT r := by
  cases r with
  | ok q =>
    have h' : okS R W fresh D H F ((ofO (truth q.1)).out fun b => k b q) := h
    cases e : truth q.1 with
    | none => rw [e] at h'; exact h'.elim
    | some b =>
      rw [e] at h'
      exact ⟨b, e, fun H2 F2 k1 k2 _ => step b q H2 F2 rfl k1 k2 h'⟩
  | raise c x e => exact fun d H2 F2 k1 k2 k3 => h σ H2 F2 d k1 k2.s k3
  | fail => exact h
theorem okS.ofO {α : Type} {o : Option α} {k : α → Out} (h : okS R W fresh D H F ((Ev.ofO o).out k)) : ∃ x, o = some x ∧ okS R W fresh D H F (k x) := by
  cases o with
  | none => exact h.elim
  | some x => exact ⟨x, rfl, h⟩
section
variable {X : Cx}
theorem PS.imp {s : Stmt} {t t' : TS} (h : PS X s t) (k : ∀ D σ H, t' D σ H → t D σ H) : PS X s t' := ⟨fun pins s σ H D I q => h.run pins s σ H D I (k D σ H q)⟩
theorem PSs.imp {s : List Stmt} {t t' : TS} (h : PSs X s t) (k : ∀ D σ H, t' D σ H → t D σ H) : PSs X s t' := ⟨fun pins s σ H D I q => h.run pins s σ H D I (k D σ H q)⟩
/-! ### blocks -/
theorem es_nil : PSs X [] (rdS R W fresh .nx) := PSs.imp pss_nil fun D σ H ⟨F, env, k, h⟩ => h σ H F k StepS.refl
theorem es_cons {s : Stmt} {ss : List Stmt} {e1 e2 : Env → Out} (h1 : PS X s (rdS R W fresh e1)) (h2 : PSs X ss (rdS R W fresh e2)) : PSs X (s :: ss) (rdS R W fresh fun env => (e1 env).seq e2) :=
  PSs.imp (pss_cons h1 h2) fun D σ H ⟨F, env, k, h⟩ => by
    refine ⟨F, env, k, ?_⟩
    cases e : e1 env with
    | nx en =>
      have h : okS R W fresh D H F ((e1 env).seq e2) := h
      rw [e] at h
      exact fun σ' H' F' k' st => ⟨F', en, k', okS.step st h⟩
    | bk en =>
      have h : okS R W fresh D H F ((e1 env).seq e2) := h
      rw [e] at h
      exact h
    | ct en =>
      have h : okS R W fresh D H F ((e1 env).seq e2) := h
      rw [e] at h
      exact h
    | rt p en =>
      have h : okS R W fresh D H F ((e1 env).seq e2) := h
      rw [e] at h
      exact h
    | raise c x en =>
      have h : okS R W fresh D H F ((e1 env).seq e2) := h
      rw [e] at h
      exact h
    | fail =>
      have h : okS R W fresh D H F ((e1 env).seq e2) := h
      rw [e] at h
      exact h
theorem es_never {s : Stmt} : PS X s (rdS R W fresh fun _ => .fail) := PS.imp ps_never fun D σ H ⟨F, env, k, h⟩ => h
theorem es_pass {pos : Pos} : PS X (.Pass pos) (rdS R W fresh .nx) := PS.imp ps_pass fun D σ H ⟨F, env, k, h⟩ => h σ H F k StepS.refl
theorem es_brk {pos : Pos} : PS X (.Break pos) (rdS R W fresh .bk) := PS.imp ps_break fun D σ H ⟨F, env, k, h⟩ => h σ H F k StepS.refl
theorem es_cont {pos : Pos} : PS X (.Continue pos) (rdS R W fresh .ct) := PS.imp ps_continue fun D σ H ⟨F, env, k, h⟩ => h σ H F k StepS.refl
def isComp : Expr → Bool
  | .ListComp _ _ _ _ => true
  | .SetComp _ _ _ _ => true
  | .DictComp _ _ _ _ _ => true
  | _ => false
theorem sw_false {e : Expr} {t : Option Expr} {l : Nat} {env : PySem.Env} (h : isComp e = false) : swapsWith e t l env = pure false := by
  cases e <;> first | rfl | cases h
theorem es_ex {e : Expr} {pos : Pos} {ev : Env → Res (PV × Env)} (he : PE X e (rdE R W kd ev)) (hc : isComp e = false) : PS X (.Expr e pos) (rdS R W fresh fun env => (ev env).out fun r => .nx r.2) :=
  PS.imp (ps_expr he (sw_false hc)) fun D σ H ⟨F, env, k, h⟩ => ⟨F, env, k, okS.bind h fun q v H2 F2 fp _ k2 s2 v2 nr h2 => h2 σ H2 F2 k2 s2.s⟩
theorem es_ret {e : Expr} {pos : Pos} {ev : Env → Res (PV × Env)} (he : PE X e (rdE R W kd ev)) (hs : kd.stb = true) (hf : fresh = true → kd.own = true) : PS X (.Return (some e) pos) (rdS R W fresh fun env => (ev env).out fun r => .rt r.1 r.2) :=
  PS.imp (ps_ret he) fun D σ H ⟨F, env, k, h⟩ => ⟨F, env, k, okS.bind h fun q v H2 F2 fp _ k2 s2 v2 nr h2 =>
    h2 σ H2 F2 v fp k2 s2.s ⟨v2.rep, v2.old, v2.st hs, fun c => v2.nd (hf c), fun c => v2.mu (hf c), fun c => v2.h0 (hf c)⟩⟩
theorem es_retN {pos : Pos} : PS X (.Return none pos) (rdS R W fresh fun env => .rt .non env) :=
  PS.imp ps_retN fun D σ H ⟨F, env, k, h⟩ => h σ H F .non [] k StepS.refl ⟨⟨rfl, rfl⟩, fun _ z => by simp at z, fun _ z => by simp at z, fun _ => List.nodup_nil, fun _ _ z => by simp at z, fun _ _ z => by simp at z⟩
theorem es_ite {c : Expr} {a b : List Stmt} {pos : Pos} {nor : Bool} {evc : Env → Res (PV × Env)} {eva evb : Env → Out} (hc : PT X c (rdT R W nor evc)) (ha : PSs X a (rdS R W fresh eva)) (hb : PSs X b (rdS R W fresh evb)) :
    PS X (.If c a b pos) (rdS R W fresh fun env => (evc env).out fun r => (ofO (truth r.1)).out fun t => if t = true then eva r.2 else evb r.2) :=
  PS.imp (ps_if hc ha hb) fun D σ H ⟨F, env, k, h⟩ => ⟨F, env, k, okS.bindT h fun b q H2 F2 _ k2 s2 h2 => by
    cases b with
    | true => exact ⟨F2, q.2, k2, okS.step s2.s h2⟩
    | false => exact ⟨F2, q.2, k2, okS.step s2.s h2⟩⟩
/-! ### assignments -/
theorem SetS.stp {sl : List Nat} {σ' : St} (h : SetS R sl σ F env σ' F' env') : StepS R.ms H F H F' := ⟨fun a o e _ => e, fun a z => .inl ((h.ow a).mp z), fun _ e => e⟩
theorem asg_law {t : T} {g : PV × Env} {ev : Env → Res (PV × Env)} (hs : kd.stb = true) (k : EnvOk R σ H F env) (h : okS R W fresh D H F ((ev env).out fun r => (ofO (Ev.assign t r.1 r.2)).out fun en => .nx en)) :
    rdE R W kd ev σ H fun x H1 => rdG R t x σ H1 D.nx := ⟨F, env, k, okS.bind h fun q v H2 F2 fp _ k2 s2 v2 nr h2 => by
  obtain ⟨en, e, h3⟩ := okS.ofO h2
  exact ⟨F2, q.2, q.1, fp, en, k2, v2.rep, v2.old, v2.st hs, e, fun σ' F' k' ss => h3 σ' H2 F' k' (s2.s.trans ss.stp)⟩⟩
theorem es_asg {tg e : Expr} {pos : Pos} {t : T} {ev : Env → Res (PV × Env)} (he : PE X e (rdE R W kd ev)) (hs : kd.stb = true) (hg : PG X tg (rdG R t)) (hc : isComp e = false) (hw : swappedStores [tg] e X.env = pure none) (hn : noStar tg = true) :
    PS X (.Assign [tg] e pos) (rdS R W fresh fun env => (ev env).out fun r => (ofO (Ev.assign t r.1 r.2)).out fun en => .nx en) :=
  PS.imp (ps_asg he hg (sw_false hc) hw (by rw [assignEach_cons hn]; rfl)) fun D σ H ⟨F, env, k, h⟩ => asg_law (g := (.non, env)) hs k h
theorem es_asgN {i : Nat} {x : Str} {e : Expr} {pos pos' : Pos} {ev : Env → Res (PV × Env)} (hN : X.N.Nodup) (hi : X.N[i]? = some x) (hx : Loc X.env.scope x) (hf : X.fn x = true ∨ X.env.scope.names.lookup x = some .local) (hm : i ∉ R.ms)
    (he : PE X e (rdE R W kd ev)) (hs : kd.stb = true) (hc : swapsWith e (some (.Name x pos')) pos.line X.env = pure false) :
    PS X (.Assign [.Name x pos'] e pos) (rdS R W fresh fun env => (ev env).out fun r => (ofO (Ev.assign (.n i) r.1 r.2)).out fun en => .nx en) :=
  PS.imp (ps_set hN hi hx he hc hf) fun D σ H ⟨F, env, k, h⟩ => ⟨F, env, k, okS.bind h fun q v H2 F2 fp _ k2 s2 v2 nr h2 =>
    h2 _ H2 _ (k2.put hm v2.rep v2.old (v2.st hs)) (s2.s.trans ⟨fun a o e _ => e, fun a z => .inl ((OW_setF hm).mp z), fun _ e => e⟩)⟩
/-- a value of one's own into a slot that owns -/
theorem putM {i : Nat} {p : PV} {v : V} {fp : List Addr} (hp : R.pin i = none) (k2 : EnvOk R σ H2 F2 env) (s2 : Step R.ms H F H2 F2) (v2 : ValOk R kd H F H2 F2 p v fp) (ho : kd.own = true) :
    EnvOk R (σ.set i (some v)) H2 (setF F2 env.length i fp) (env.set i p) ∧ StepS R.ms H F H2 (setF F2 env.length i fp) := by
  refine ⟨k2.set v2.rep v2.old (fun j hj n a ha => v2.fr ho a ha j) (fun _ => ⟨v2.nd ho, v2.mu ho, fun a ha => .inl (v2.h0 ho a ha), fun a ha j _ => v2.fr ho a ha j⟩) (fun w hw => by rw [hp] at hw; cases hw), s2.st, fun a ⟨j, hj, ha⟩ => ?_, s2.dom⟩
  by_cases c : j = i
  · subst c
    by_cases d : j < env.length
    · rw [setF_same d] at ha
      exact v2.nw ho a ha
    · rw [setF_out d] at ha
      exact s2.ow a ⟨j, hj, ha⟩
  · rw [setF_ne c] at ha
    exact s2.ow a ⟨j, hj, ha⟩
theorem es_masg {i : Nat} {x : Str} {e : Expr} {pos pos' : Pos} {ev : Env → Res (PV × Env)} (hN : X.N.Nodup) (hi : X.N[i]? = some x) (hx : Loc X.env.scope x) (hf : X.fn x = true ∨ X.env.scope.names.lookup x = some .local) (hp : R.pin i = none)
    (he : PE X e (rdE R W kd ev)) (ho : kd.own = true) (hc : swapsWith e (some (.Name x pos')) pos.line X.env = pure false) :
    PS X (.Assign [.Name x pos'] e pos) (rdS R W fresh fun env => (ev env).out fun r => .nx (r.2.set i r.1)) :=
  PS.imp (ps_set hN hi hx he hc hf) fun D σ H ⟨F, env, k, h⟩ => ⟨F, env, k, okS.bind h fun q v H2 F2 fp _ k2 s2 v2 nr h2 => by
    obtain ⟨k3, s3⟩ := putM hp k2 s2 v2 ho
    exact h2 _ H2 _ k3 s3⟩
end
end Ev

/-! EvE18: statements that write lists; augmented ones; a, b = x, y. -/
namespace Ev
open PySem PySem.Spec PyProof.Rows L2
variable {R : Fr0} {W : WXX} {σ : St} {H H1 H2 H' : Hp} {F F1 F2 F' : Nat → List Addr} {env env1 env2 env' : Env} {o1 s1 n1 fresh : Bool} {D : Ends} {kd kd1 kd2 : Kd}
theorem getL_ok {env : Env} {i : Nat} : (∃ l, env[i]? = some (.lst l) ∧ getL env i = .ok (l, env)) ∨ getL env i = .fail := by
  unfold getL
  cases e : env.getD i .undef with
  | lst l => exact .inl ⟨l, getD_of e nofun, rfl⟩
  | _ => exact .inr rfl
/-- the list of a slot is written -/
theorem EnvOk.write (k : EnvOk R σ H F env) {i : Nat} {a : Addr} {l' : List PV} {xs xs' : List V} {f f' : List Addr} (hi : i ∈ R.ms) (hv : σ[i]? = some (some (.ref a))) (hl : i < env.length) (ha : H a = some (.lst xs)) (hF : F i = a :: f)
    (r : RepL R.G H l' xs' f') (na : a ∉ f') (nd : f'.Nodup) (mu : ∀ b ∈ f', ∃ vs, H b = some (.lst vs)) (old : ∀ b ∈ f', R.A b) (ow : ∀ b ∈ f', R.H0 b = none ∨ (i = 0 ∧ R.br = true ∧ R.B b)) (dj : ∀ b ∈ f', ∀ j, j ≠ i → b ∉ F j) (hz : xs'.length ≤ sizeLine) :
    EnvOk R σ (upd H a (.lst xs')) (setF F env.length i (a :: f')) (env.set i (.lst l')) := by
  have st : Stay (fun b => b = a) H (upd H a (.lst xs')) := fun b o e n => by rw [upd_ne n]; exact e
  have ls : Lsts (fun b => b = a) H := fun b e => ⟨xs, e ▸ ha⟩
  have aF : a ∈ F i := by rw [hF]; simp
  have kd := (k.drop i).heap st ls (fun j b hb e => by
    subst e
    by_cases c : j = i
    · subst c; rw [drop1_same] at hb; simp at hb
    · rw [drop1_ne c] at hb; exact k.dj i hi j c b aF hb) (fun b e => by
      subst e
      rcases k.ow i hi b aF with w | ⟨_, _, w⟩
      · exact .inl w
      · exact .inr w) (fun b e => by
      by_cases c : b = a
      · subst c; rw [upd_same] at e; cases e
      · rw [upd_ne c] at e; exact e) (lok_lst k.lok hz)
  have dn : ∀ {b j}, j ≠ i → b ∈ a :: f' → b ∉ drop1 F i j := fun {b j} c hb z => by
    rw [drop1_ne c] at z
    rcases List.mem_cons.mp hb with rfl | hb
    · exact k.dj i hi j c b aF z
    · exact dj b hb j c z
  have ks := kd.set (i := i) (p := .lst l') (v := .ref a) (fp := a :: f') (RepF.new upd_same (RepL.stay st ls _ _ _ r fun b hb e => na (e ▸ hb))) (fun b hb => by
      rcases List.mem_cons.mp hb with rfl | hb
      · exact k.old i b aF
      · exact old b hb) (fun j hj c b hb => dn c hb) (fun _ => ⟨List.nodup_cons.mpr ⟨na, nd⟩, fun b hb => by
        rcases List.mem_cons.mp hb with rfl | hb
        · exact ⟨_, upd_same⟩
        · obtain ⟨vs, e⟩ := mu b hb
          exact ⟨vs, st b _ e fun z => na (z ▸ hb)⟩, fun b hb => by
        rcases List.mem_cons.mp hb with rfl | hb
        · exact k.ow i hi b aF
        · exact ow b hb, fun b hb j c => dn c hb⟩) (fun w hw => by have := (k.rf i w hw).2; rw [hv] at this; cases this; rfl)
  rw [setset hv, List.set_set, List.length_set] at ks
  have e : setF (drop1 F i) env.length i (a :: f') = setF F env.length i (a :: f') := by
    funext j
    by_cases c : j = i
    · subst c; rw [setF_same hl, setF_same hl]
    · rw [setF_ne c, setF_ne c, drop1_ne c]
  rw [e] at ks
  exact ks
theorem StepS.write {i : Nat} {a : Addr} {xs' : List V} {f f' : List Addr} {n : Nat} (hi : i ∈ R.ms) (hl : i < n) (hF : F2 i = a :: f) (s : StepS R.ms H F H2 F2) (nw : ∀ b ∈ f', OW R.ms F2 b ∨ OW R.ms F b ∨ H b = none) : StepS R.ms H F (upd H2 a (.lst xs')) (setF F2 n i (a :: f')) := by
  have aO : OW R.ms F2 a := ⟨i, hi, by rw [hF]; simp⟩
  refine ⟨fun b o e c => ?_, fun b ⟨j, hj, hb⟩ => ?_, fun b e => ?_⟩
  · by_cases h : b = a
    · subst h
      rcases s.ow b aO with w | w
      · exact absurd w c
      · rw [e] at w; cases w
    · rw [upd_ne h]; exact s.st b o e c
  · by_cases c : j = i
    · subst c
      rw [setF_same hl] at hb
      rcases List.mem_cons.mp hb with rfl | hb
      · exact s.ow _ aO
      · rcases nw b hb with w | w
        · exact s.ow b w
        · exact w
    · rw [setF_ne c] at hb
      exact s.ow b ⟨j, hj, hb⟩
  · by_cases h : b = a
    · subst h; rw [upd_same] at e; cases e
    · rw [upd_ne h] at e; exact s.dom b e
theorem RepL.setAt {G : Gl0} : ∀ {l : List PV} {xs : List V} {f g : List Addr} {j : Nat} {p : PV} {v : V}, RepL G H l xs f → RepF G H p v g → j < l.length → ∃ f', RepL G H (l.set j p) (xs.set j v) f' ∧ (∀ b ∈ f', b ∈ f ∨ b ∈ g) ∧ (f.Nodup → g.Nodup → (∀ b ∈ g, b ∉ f) → f'.Nodup)
  | [], _, _, _, _, _, _, _, _, h => by simp at h
  | x :: l, xs, f, g, 0, p, v, h, k, _ => by
    obtain ⟨y, ys, f1, f2, rfl, rfl, h1, h2⟩ := h
    refine ⟨g ++ f2, RepL.cons k h2, fun b hb => ?_, fun n1 n2 n3 => ?_⟩
    · rcases List.mem_append.mp hb with z | z
      · exact .inr z
      · exact .inl (by simp [z])
    · obtain ⟨_, m2, _⟩ := List.nodup_append.mp n1
      exact List.nodup_append.mpr ⟨n2, m2, fun a ha b hb e => n3 a ha (by simp [e, hb])⟩
  | x :: l, xs, f, g, j + 1, p, v, h, k, hj => by
    obtain ⟨y, ys, f1, f2, rfl, rfl, h1, h2⟩ := h
    obtain ⟨f', r, sub, nd⟩ := RepL.setAt (j := j) h2 k (by simpa using hj)
    refine ⟨f1 ++ f', RepL.cons h1 r, fun b hb => ?_, fun n1 n2 n3 => ?_⟩
    · rcases List.mem_append.mp hb with z | z
      · exact .inl (by simp [z])
      · rcases sub b z with w | w
        · exact .inl (by simp [w])
        · exact .inr w
    · obtain ⟨m1, m2, m3⟩ := List.nodup_append.mp n1
      refine List.nodup_append.mpr ⟨m1, nd m2 n2 fun b hb z => n3 b hb (by simp [z]), fun a ha b hb e => ?_⟩
      rcases sub b hb with w | w
      · exact m3 a ha b w e
      · exact n3 b w (by simp [← e, ha])
theorem ixN_lt {n j : Nat} {i : Int} (h : Ev.ixN n i = some j) : j < n := by
  unfold Ev.ixN at h
  split at h
  · split at h
    · cases h; omega
    · cases h
  · split at h
    · cases h; omega
    · cases h
section
variable {X : Cx}
theorem okS.bindL {o : Nat} {k : List PV × Env → Out} (h : okS R W fresh D H F ((getL env o).out k)) : ∃ l, env[o]? = some (.lst l) ∧ getL env o = .ok (l, env) ∧ okS R W fresh D H F (k (l, env)) := by
  rcases getL_ok (env := env) (i := o) with ⟨l, e, g⟩ | g
  · rw [g] at h; exact ⟨l, e, g, h⟩
  · rw [g] at h; exact h.elim
theorem list_at (k : EnvOk R σ H F env) {i : Nat} {l : List PV} (e : env[i]? = some (.lst l)) : ∃ a xs f, σ[i]? = some (some (.ref a)) ∧ H a = some (.lst xs) ∧ RepL R.G H l xs f ∧ F i = a :: f := by
  obtain ⟨v, hv, r⟩ := k.slot i _ e nofun
  obtain ⟨a, xs, f, rfl, ha, hl, hf⟩ := r
  exact ⟨a, xs, f, hv, ha, hl, hf⟩
theorem lt_of_get {env : Env} {i : Nat} {p : PV} (e : env[i]? = some p) : i < env.length := by
  rcases Nat.lt_or_ge i env.length with h | h
  · exact h
  · rw [List.getElem?_eq_none h] at e; cases e
/-- x.append(e) -/
theorem es_app {i : Nat} {x : Str} {e : Expr} {px apos cpos pos : Pos} {ev : Env → Res (PV × Env)} (hm : i ∈ R.ms) (hN : X.N[i]? = some x) (hv : Vis X.env.scope x) (hd : (x == ("__debug__" : Str)) = false) (hcd : (x == ("__classdict__" : Str)) = false)
    (he : PE X e (rdE R W kd ev)) (ho : kd.own = true) (hn : noStar e = true) (hline : (apos.endLine == cpos.line) = true) :
    PS X (.Expr (.Call (.Attribute (.Name x px) "append" apos) [e] [] cpos) pos) (rdS R W fresh fun env => (getL env i).out fun _ => (ev env).out fun r => (getL r.2 i).out fun l => (ofO (pushP r.1 l.1)).out fun z => .nx (r.2.set i z)) :=
  PS.imp (ps_expr (pe_bm PySem.F.plainAttrs_list PySem.F.slot_list_append PySem.F.type_list_append mt_append (pe_var hN hv hd hcd) (pa_cons he pa_nil (star_cons hn _)) (attr_base rfl) (by rw [star_cons hn]; rfl) hline (star_cons hn _) rfl) (sw_false rfl))
    fun D σ H ⟨F, env, k, h⟩ => by
      obtain ⟨l0, e0, _, h⟩ := okS.bindL h
      obtain ⟨a, xs0, f0, hv0, ha0, _, _⟩ := list_at k e0
      refine ⟨.ref a, hv0, .inl ⟨rfl, xs0, .of ha0⟩, F, env, k, okS.bind h fun q v H2 F2 fp _ k2 s2 v2 nr h2 => ?_⟩
      obtain ⟨l, e1, _, h3⟩ := okS.bindL h2
      obtain ⟨z, ez, h4⟩ := okS.ofO h3
      obtain ⟨a', xs, f, hv1, ha, hl, hF⟩ := list_at k2 e1
      rw [hv0] at hv1
      cases hv1
      unfold pushP at ez
      split at ez
      case isFalse => cases ez
      rename_i hz
      cases ez
      have hzx : xs.length < sizeLine := by rw [hl.length]; exact hz
      refine ⟨a, xs, v, rfl, rfl, ha, hzx, ?_⟩
      have ndF := k2.nd i hm
      rw [hF] at ndF
      obtain ⟨na, nf⟩ := List.nodup_cons.mp ndF
      have inF : ∀ b ∈ f, b ∈ F2 i := fun b hb => by rw [hF]; simp [hb]
      have both : ∀ {P : Addr → Prop}, (∀ b ∈ f, P b) → (∀ b ∈ fp, P b) → ∀ b ∈ f ++ fp, P b := fun p q b hb => (List.mem_append.mp hb).elim (p b) (q b)
      refine h4 σ _ _ (k2.write hm hv0 (lt_of_get e1) ha hF (hl.append (RepL.one v2.rep)) (fun z => (List.mem_append.mp z).elim na fun w => v2.fr ho a w i (by rw [hF]; simp)) (List.nodup_append.mpr ⟨nf, v2.nd ho, fun b hb c hc e => v2.fr ho c hc i (inF c (e ▸ hb))⟩)
        (both (fun b hb => k2.mu i hm b (inF b hb)) (v2.mu ho)) (both (fun b hb => k2.old i b (inF b hb)) v2.old) (both (fun b hb => k2.ow i hm b (inF b hb)) fun b hb => .inl (v2.h0 ho b hb)) (both (fun b hb j c => k2.dj i hm j c b (inF b hb)) fun b hb j _ => v2.fr ho b hb j)
        (by rw [List.length_append]; exact hzx)) (StepS.write hm (lt_of_get e1) hF s2.s (both (fun b hb => .inl ⟨i, hm, inF b hb⟩) fun b hb => .inr (v2.nw ho b hb)))
/-- x[p] = e -/
def plainIx : Expr → Bool
  | .Slice _ _ _ _ => false
  | _ => true
theorem assign_sub {o i : Expr} {pos : Pos} {env : PySem.Env} (h : plainIx i = true) (v : Value) : PySem.assign (.Subscript o i pos) env v = (do
      let ov ← holding [v] (eval o env)
      let iv ← holding [v, ov] (eval i env)
      standAt pos
      holding [v, ov, iv] (setItem ov iv v)
      release [v, ov, iv] []) := by
  cases i <;> first | rfl | cases h
theorem sw_sole {t e : Expr} {l : Nat} {env : PySem.Env} (h : isComp e = false) : swapsWithSole [t] e l env = pure false := sw_false h
theorem es_set {i : Nat} {x : Str} {e p : Expr} {px spos pos : Pos} {ev evp : Env → Res (PV × Env)} (hm : i ∈ R.ms) (hN : X.N[i]? = some x) (hv : Vis X.env.scope x) (hd : (x == ("__debug__" : Str)) = false) (hcd : (x == ("__classdict__" : Str)) = false)
    (he : PE X e (rdE R W kd1 ev)) (ho : kd1.own = true) (hp : PE X p (rdE R W kd2 evp)) (hnor : kd2.nor = true) (hpl : plainIx p = true) (hc : isComp e = false) (hw : swappedStores [.Subscript (.Name x px) p spos] e X.env = pure none) :
    PS X (.Assign [.Subscript (.Name x px) p spos] e pos) (rdS R W fresh fun env => (ev env).out fun r => (getL r.2 i).out fun _ => (evp r.2).out fun q => (getL q.2 i).out fun l => (ofO (setP r.1 q.1 l.1)).out fun z => .nx (q.2.set i z)) :=
  PS.imp (ps_asg he (pg_sub (pe_var hN hv hd hcd) hp set_list (assign_sub hpl)) (sw_sole hc) hw rfl) fun D σ H ⟨F, env, k, h⟩ => by
    refine ⟨F, env, k, okS.bind h fun r v H2 F2 fp _ k2 s2 v2 nr h2 => ?_⟩
    obtain ⟨l0, e0, _, h3⟩ := okS.bindL h2
    obtain ⟨a, xs, f, hv0, ha, hl, hF⟩ := list_at k2 e0
    refine ⟨.ref a, hv0, F2, r.2, k2, ?_⟩
    cases eq : evp r.2 with
    | fail => rw [eq] at h3; exact h3.elim
    | raise c x e =>
      rw [eq] at h3
      exact fun d H3 F3 k3 s3 x3 => h3 σ H3 F3 d k3 (s2.s.trans s3.s) x3
    | ok q =>
      rw [eq] at h3
      intro pv H3 F3 fq k3 s3 v3 n3
      obtain ⟨eF, eE, same⟩ := n3 hnor
      obtain ⟨q1, q2⟩ := q
      subst eF
      have eE : q2 = r.2 := eE
      subst eE
      have h3 : okS R W fresh D H F ((getL r.2 i).out fun l => (ofO (setP r.1 q1 l.1)).out fun z => .nx (r.2.set i z)) := h3
      obtain ⟨l, e1, _, h4⟩ := okS.bindL h3
      rw [e0] at e1
      cases e1
      obtain ⟨z, ez, h5⟩ := okS.ofO h4
      cases q1 with
      | int n =>
        simp only [setP, Option.map_eq_some_iff] at ez
        obtain ⟨j, ej, rfl⟩ := ez
        obtain ⟨rfl, rfl⟩ := v3.rep
        have hjl := ixN_lt ej
        have hl3 := hl.same same
        have rv := v2.rep.same same
        obtain ⟨f', rf', sub, nd'⟩ := hl3.setAt rv hjl
        refine ⟨a, xs, n, j, rfl, rfl, same a _ ha, by rw [hl.length]; exact ej, ?_⟩
        have ndF := k3.nd i hm
        rw [hF] at ndF
        obtain ⟨na, nf⟩ := List.nodup_cons.mp ndF
        have inF : ∀ b ∈ f, b ∈ F3 i := fun b hb => by rw [hF]; simp [hb]
        have both : ∀ {P : Addr → Prop}, (∀ b ∈ f, P b) → (∀ b ∈ fp, P b) → ∀ b ∈ f', P b := fun p q b hb => (sub b hb).elim (p b) (q b)
        refine h5 σ _ _ (k3.write hm hv0 (lt_of_get e0) (same a _ ha) hF rf' (fun z => (sub a z).elim na fun w => v2.fr ho a w i (by rw [hF]; simp)) (nd' nf (v2.nd ho) fun b hb z => v2.fr ho b hb i (inF b z))
          (both (fun b hb => k3.mu i hm b (inF b hb)) fun b hb => let ⟨vs, e⟩ := v2.mu ho b hb; ⟨vs, same b _ e⟩) (both (fun b hb => k3.old i b (inF b hb)) v2.old) (both (fun b hb => k3.ow i hm b (inF b hb)) fun b hb => .inl (v2.h0 ho b hb)) (both (fun b hb j c => k3.dj i hm j c b (inF b hb)) fun b hb j _ => v2.fr ho b hb j)
          (by rw [List.length_set, hl.length, ← hl.length]; exact k3.lok.1 a xs (.of (same a _ ha)))) (StepS.write hm (lt_of_get e0) hF (s2.s.trans s3.s) (both (fun b hb => .inl ⟨i, hm, inF b hb⟩) fun b hb => .inr (v2.nw ho b hb)))
      | _ => simp [setP] at ez
end
end Ev

/-! EvE19: augmented assignments, pairs, comprehensions stored at once, loops. -/
namespace Ev
open PySem PySem.Spec PyProof.Rows L2
variable {R : Fr0} {W : WXX} {σ : St} {H H1 H2 H' : Hp} {F F1 F2 F' : Nat → List Addr} {env env1 env2 env' : Env} {o1 s1 n1 fresh : Bool} {D : Ends} {kd kd1 kd2 : Kd}
section
variable {X : Cx}
/-! ### name op= e -/
def rAug (op : Operator) : TIp := fun x y H Q => ∃ i j n, x = .int i ∧ y = .int j ∧ augop op (.int i) (.int j) = some (.int n) ∧ Q (.int n) H
theorem augP (op : Operator) : PIp X op (rAug op) := by
  rintro pins s σ H x y v u Q I rx ry ⟨i, j, n, rfl, rfl, e, q⟩
  cases op with
  | Add => cases e; exact iop_add pins s σ H (.int i) (.int j) v u Q I rx ry ⟨i, j, rfl, rfl, q⟩
  | Sub => cases e; exact iop_sub pins s σ H (.int i) (.int j) v u Q I rx ry ⟨i, j, rfl, rfl, q⟩
  | Mult =>
    simp only [augop] at e
    split at e
    · rename_i c
      cases e
      exact iop_mul pins s σ H (.int i) (.int j) v u Q I rx ry ⟨i, j, rfl, rfl, c, q⟩
    · cases e
  | FloorDiv =>
    simp only [augop] at e
    split at e
    · rename_i c
      cases e
      exact iop_fdiv pins s σ H (.int i) (.int j) v u Q I rx ry ⟨i, j, rfl, rfl, c, q⟩
    · cases e
  | _ => cases e
theorem aug_shape {op : Operator} {p q z : PV} (e : augop op p q = some z) : ∃ i j n, p = .int i ∧ q = .int j ∧ z = .int n := by
  cases op <;> cases p <;> cases q <;> simp only [augop, reduceCtorEq] at e <;> first | (cases e; exact ⟨_, _, _, rfl, rfl, rfl⟩) | (split at e <;> first | (cases e; exact ⟨_, _, _, rfl, rfl, rfl⟩) | cases e)
theorem okS.bindG {o : Nat} {k : PV × Env → Out} (h : okS R W fresh D H F ((get env o).out k)) : ∃ p, p ≠ .undef ∧ env[o]? = some p ∧ okS R W fresh D H F (k (p, env)) := by
  rcases get_ok (env := env) (i := o) with ⟨l, n, e, g⟩ | g
  · rw [g] at h; exact ⟨l, n, e, h⟩
  · rw [g] at h; exact h.elim
theorem es_aug {i : Nat} {x : Str} {e : Expr} {op : Operator} {pos pos' : Pos} {ev : Env → Res (PV × Env)} (hm : i ∉ R.ms) (hN : X.N.Nodup) (hi : X.N[i]? = some x) (hx : Loc X.env.scope x) (hf : X.fn x = true ∨ X.env.scope.names.lookup x = some .local) (he : PE X e (rdE R W kd ev)) :
    PS X (.AugAssign (.Name x pos') op e pos) (rdS R W fresh fun env => (get env i).out fun x => (ev env).out fun r => (ofO (augop op x.1 r.1)).out fun z => .nx (r.2.set i z)) :=
  PS.imp (ps_aug hN hi hx he (augP op) hf) fun D σ H ⟨F, env, k, h⟩ => by
    obtain ⟨p, n, e0, h⟩ := okS.bindG h
    obtain ⟨v0, hv0, r0⟩ := k.slot i p e0 n
    refine ⟨v0, hv0, F, env, k, okS.bind (kd := kd) h fun q v H2 F2 fp _ k2 s2 v2 nr h2 => ?_⟩
    obtain ⟨z, e1, h3⟩ := okS.ofO h2
    obtain ⟨a, b, c, ep, eq, rfl⟩ := aug_shape e1
    have ep : p = .int a := ep
    subst ep
    obtain ⟨q1, q2⟩ := q
    have eq : q1 = .int b := eq
    subst eq
    obtain ⟨rfl, _⟩ := r0
    obtain ⟨rfl, _⟩ := v2.rep
    refine ⟨a, b, c, rfl, rfl, e1, h3 _ H2 _ (k2.put (fp := []) hm ⟨rfl, rfl⟩ (fun _ z => by simp at z) fun _ z => by simp at z) (s2.s.trans ⟨fun a o e _ => e, fun a z => .inl ((OW_setF hm).mp z), fun _ e => e⟩)⟩
/-! ### a comprehension stored at once -/
theorem asg_of {i : Nat} {st : Stmt} {te : TE} {ev : Env → Res (PV × Env)} (hps : PS X st (tAsg te (gName i))) (hte : ∀ σ H F env Q, EnvOk R σ H F env → okR R W kd σ H F env Q (ev env) → te σ H Q) (hm : i ∉ R.ms) (hs : kd.stb = true) :
    PS X st (rdS R W fresh fun env => (ev env).out fun r => (ofO (Ev.assign (.n i) r.1 r.2)).out fun en => .nx en) :=
  PS.imp hps fun D σ H ⟨F, env, k, h⟩ => hte σ H F env _ k (okS.bind h fun q v H2 F2 fp _ k2 s2 v2 nr h2 =>
    h2 _ H2 _ (k2.put hm v2.rep v2.old (v2.st hs)) (s2.s.trans ⟨fun a o e _ => e, fun a z => .inl ((OW_setF hm).mp z), fun _ e => e⟩))
theorem masg_of {i : Nat} {st : Stmt} {te : TE} {ev : Env → Res (PV × Env)} (hps : PS X st (tAsg te (gName i))) (hte : ∀ σ H F env Q, EnvOk R σ H F env → okR R W kd σ H F env Q (ev env) → te σ H Q) (hp : R.pin i = none) (ho : kd.own = true) :
    PS X st (rdS R W fresh fun env => (ev env).out fun r => .nx (r.2.set i r.1)) :=
  PS.imp hps fun D σ H ⟨F, env, k, h⟩ => hte σ H F env _ k (okS.bind h fun q v H2 F2 fp _ k2 s2 v2 nr h2 => by
    obtain ⟨k3, s3⟩ := putM hp k2 s2 v2 ho
    exact h2 _ H2 _ k3 s3)
/-! ### a, b = x, y -/
theorem out_bind {α β : Type} {r : Res α} {f : α → Res β} {g : β → Out} : (r.bind f).out g = r.out fun a => (f a).out g := by
  cases r <;> rfl
theorem put1 (k : EnvOk R σ H F env) {i : Nat} {p : PV} {v : V} {fp : List Addr} (hi : i ∉ R.ms) (r : RepF R.G H p v fp) (old : ∀ a ∈ fp, R.A a) (st : ∀ a ∈ fp, ¬ OW R.ms F a) :
    ∃ F', EnvOk R (σ.set i (some v)) H F' (env.set i p) ∧ ∀ a, OW R.ms F' a ↔ OW R.ms F a := ⟨_, k.put hi r old st, fun _ => OW_setF hi⟩
theorem es_par {i j : Nat} {x y : Str} {a b : Expr} {px py pt pos : Pos} {kt k2 pt2} {evs : Env → Res (List PV × Env)} (hc : X.calm = true) (hN : X.N.Nodup) (hi : X.N[i]? = some x) (hj : X.N[j]? = some y) (hij : i ≠ j) (hmi : i ∉ R.ms) (hmj : j ∉ R.ms)
    (hx : X.env.scope.names.lookup x = some .local) (hy : X.env.scope.names.lookup y = some .local) (ha : PA X [a, b] (rdA R W o1 true n1 evs))
    (hw : swappedStores [.Tuple [.Name x px, .Name y py] kt pt] (.Tuple [a, b] k2 pt2) X.env = pure (some [x, y])) :
    PS X (.Assign [.Tuple [.Name x px, .Name y py] kt pt] (.Tuple [a, b] k2 pt2) pos) (rdS R W fresh fun env => ((evs env).bind fun r => .ok (.tup r.1, r.2)).out fun r => (ofO (Ev.assign (.cons (.n i) (.cons (.n j) .nil)) r.1 r.2)).out fun en => .nx en) :=
  PS.imp (ps_par hc hN hi hj hij hx hy ha hw) fun D σ H ⟨F, env, k, h⟩ => by
    have h : okS R W fresh D H F (((evs env).bind fun r => .ok (PV.tup r.1, r.2)).out fun r => (Ev.ofO (Ev.assign (.cons (.n i) (.cons (.n j) .nil)) r.1 r.2)).out fun en => .nx en) := h
    rw [out_bind] at h
    refine ⟨F, env, k, okS.bindA h fun q vs H2 F2 fp _ k2 s2 v2 nr h2 => ?_⟩
    have h2 : okS R W fresh D H F ((Ev.ofO (Ev.assign (.cons (.n i) (.cons (.n j) .nil)) (.tup q.1) q.2)).out fun en => .nx en) := h2
    obtain ⟨en, e1, h3⟩ := okS.ofO h2
    obtain ⟨ps, q2⟩ := q
    match ps, e1 with
    | [p1, p2], e1 =>
      have e1 : some ((q2.set i p1).set j p2) = some en := e1
      cases e1
      obtain ⟨v, w, f1, f2, rfl, rfl, r1, r2⟩ := RepL.two_inv v2.rep
      obtain ⟨F3, k3, o3⟩ := put1 k2 hmi r1 (fun a ha => v2.old a (by simp [ha])) fun a ha => v2.st rfl a (by simp [ha])
      obtain ⟨F4, k4, o4⟩ := put1 k3 hmj r2 (fun a ha => v2.old a (by simp [ha])) fun a ha z => v2.st rfl a (by simp [ha]) ((o3 a).mp z)
      exact ⟨v, w, rfl, h3 _ H2 F4 k4 (s2.s.trans ⟨fun a o e _ => e, fun a z => .inl ((o3 a).mp ((o4 a).mp z)), fun _ e => e⟩)⟩
    | [], e1 => cases e1
    | [_], e1 => cases e1
    | _ :: _ :: _ :: _, e1 => cases e1
theorem RepL.three_inv {G : Gl0} {p q r : PV} {vs : List V} {fp : List Addr} (h : RepL G H [p, q, r] vs fp) : ∃ u v w f g k, vs = [u, v, w] ∧ fp = f ++ (g ++ k) ∧ RepF G H p u f ∧ RepF G H q v g ∧ RepF G H r w k := by
  obtain ⟨v, vs', f, f', rfl, rfl, h1, h2⟩ := h
  obtain ⟨w, z, g, k, rfl, rfl, h3, h4⟩ := RepL.two_inv h2
  exact ⟨v, w, z, f, g, k, rfl, rfl, h1, h3, h4⟩
theorem es_par3 {i j l : Nat} {x y z : Str} {a b c : Expr} {px py pz pt pos : Pos} {kt k2 pt2} {evs : Env → Res (List PV × Env)} (hc : X.calm = true) (hN : X.N.Nodup) (hi : X.N[i]? = some x) (hj : X.N[j]? = some y) (hl : X.N[l]? = some z) (hij : i ≠ j) (hil : i ≠ l) (hjl : j ≠ l) (hmi : i ∉ R.ms) (hmj : j ∉ R.ms) (hml : l ∉ R.ms)
    (hx : X.env.scope.names.lookup x = some .local) (hy : X.env.scope.names.lookup y = some .local) (hz : X.env.scope.names.lookup z = some .local) (ha : PA X [a, b, c] (rdA R W o1 true n1 evs))
    (hw : swappedStores [.Tuple [.Name x px, .Name y py, .Name z pz] kt pt] (.Tuple [a, b, c] k2 pt2) X.env = pure (some [x, y, z])) :
    PS X (.Assign [.Tuple [.Name x px, .Name y py, .Name z pz] kt pt] (.Tuple [a, b, c] k2 pt2) pos) (rdS R W fresh fun env => ((evs env).bind fun r => .ok (.tup r.1, r.2)).out fun r => (ofO (Ev.assign (.cons (.n i) (.cons (.n j) (.cons (.n l) .nil))) r.1 r.2)).out fun en => .nx en) :=
  PS.imp (ps_par3 hc hN hi hj hl hij hil hjl hx hy hz ha hw) fun D σ H ⟨F, env, k, h⟩ => by
    have h : okS R W fresh D H F (((evs env).bind fun r => .ok (PV.tup r.1, r.2)).out fun r => (Ev.ofO (Ev.assign (.cons (.n i) (.cons (.n j) (.cons (.n l) .nil))) r.1 r.2)).out fun en => .nx en) := h
    rw [out_bind] at h
    refine ⟨F, env, k, okS.bindA h fun q vs H2 F2 fp _ k2 s2 v2 nr h2 => ?_⟩
    have h2 : okS R W fresh D H F ((Ev.ofO (Ev.assign (.cons (.n i) (.cons (.n j) (.cons (.n l) .nil))) (.tup q.1) q.2)).out fun en => .nx en) := h2
    obtain ⟨en, e1, h3⟩ := okS.ofO h2
    obtain ⟨ps, q2⟩ := q
    match ps, e1 with
    | [p1, p2, p3], e1 =>
      have e1 : some (((q2.set i p1).set j p2).set l p3) = some en := e1
      cases e1
      obtain ⟨u, v, w, f1, f2, f3, rfl, rfl, r1, r2, r3⟩ := RepL.three_inv v2.rep
      obtain ⟨F3, k3, o3⟩ := put1 k2 hmi r1 (fun a ha => v2.old a (by simp [ha])) fun a ha => v2.st rfl a (by simp [ha])
      obtain ⟨F4, k4, o4⟩ := put1 k3 hmj r2 (fun a ha => v2.old a (by simp [ha])) fun a ha z => v2.st rfl a (by simp [ha]) ((o3 a).mp z)
      obtain ⟨F5, k5, o5⟩ := put1 k4 hml r3 (fun a ha => v2.old a (by simp [ha])) fun a ha z => v2.st rfl a (by simp [ha]) ((o3 a).mp ((o4 a).mp z))
      exact ⟨u, v, w, rfl, h3 _ H2 F5 k5 (s2.s.trans ⟨fun a o e _ => e, fun a z => .inl ((o3 a).mp ((o4 a).mp ((o5 a).mp z))), fun _ e => e⟩)⟩
    | [], e1 => cases e1
    | [_], e1 => cases e1
    | [_, _], e1 => cases e1
    | _ :: _ :: _ :: _ :: _, e1 => cases e1
/-! ### for, while -/
theorem es_for {tg iter : Expr} {body : List Stmt} {pos : Pos} {t : T} {nI : Bool} {evi : Env → Res (List PV × Env)} {evb : Env → Out} (hp : PassesOwn (model X.prog X.w) X.A X.env X.xe) (hc : X.calm = true) (hi : PI X tg iter (rdI R W true nI evi)) (hg : PG X tg (rdG R t)) (hb : PSs X body (rdS R W fresh evb))
    (hf : notSet iter = true) :
    PS X (.For tg iter body [] pos) (rdS R W fresh fun env => (evi env).out fun r => forGo (fun x en => (ofO (Ev.assign t x en)).out fun en1 => evb en1) r.1 r.2) :=
  PS.imp (ps_for hp hc hi hg hb (fold_pure hf)) fun D σ H ⟨F, env, k, h⟩ => by
    refine ⟨F, env, k, okS.bindI h fun q J H1 F1 fs _ k1 s1 io old hfs h1 => ?_⟩
    obtain ⟨Gp, Yp, wk, hG, hy⟩ := io
    rw [OO_true] at hG hy
    generalize hfe : (fun (x : PV) (en : Env) => (ofO (Ev.assign t x en)).out fun en1 => evb en1) = f at h1
    refine for_it wk (fun i σ' H' => ∃ F' en, EnvOk R σ' H' F' en ∧ StepS R.ms H1 F1 H' F' ∧ okS R W fresh D H' F' (forGo f (q.1.drop i) en)) ⟨F1, q.2, k1, StepS.refl, okS.step s1.s h1⟩ ?_ ?_ ?_
    · rintro i σ' H2 hi ⟨F2, en, k2, s2, h2⟩
      exact hG H2 s2.st
    · rintro i x σ' H2 H2' hi ⟨F2, en, k2, s2, h2⟩ y
      obtain ⟨pv, fz, eI, nv⟩ := hy i H2 x H2' hi s2.st k2.lok y
      have hdrop : q.1.drop i = pv :: q.1.drop (i + 1) := by
        rw [List.drop_eq_getElem_cons hi]
        rw [List.getElem?_eq_getElem hi] at eI
        cases eI; rfl
      rw [hdrop] at h2
      have k2' : EnvOk R σ' H2' F2 en := k2.same nv.same nv.lok
      have fzst : ∀ a ∈ fz, ¬ OW R.ms F2 a := fun a ha => by
        rcases nv.sub a ha with z | z
        · obtain ⟨⟨o, e⟩, n⟩ := hfs a z
          exact s2.dead n ⟨o, e⟩
        · exact fun ⟨j, _, hj⟩ => k2.nf z j hj
      have fzold : ∀ a ∈ fz, R.A a := fun a ha => by
        rcases nv.sub a ha with z | z
        · exact old a z
        · exact (k2.dom a z).2
      have s2' : StepS R.ms H2 F2 H2' F2 := (Step.same nv.same).s
      cases ea : Ev.assign t pv en with
      | none =>
        unfold forGo at h2
        rw [← hfe] at h2
        simp only [ea] at h2
        exact h2.elim
      | some en1 =>
        have ef : f pv en = evb en1 := by
          rw [← hfe]
          show (ofO (Ev.assign t pv en)).out _ = _
          rw [ea]; rfl
        unfold forGo at h2
        rw [ef] at h2
        refine ⟨F2, en, pv, fz, en1, k2', nv.rep, fzold, fzst, ea, fun σ3 F3 k3 a3 => ⟨F3, en1, k3, ?_⟩⟩
        have s3 : StepS R.ms H2 F2 H2' F3 := s2'.trans a3.stp
        cases eb : evb en1 with
        | nx e =>
          rw [eb] at h2
          exact fun σ4 H4 F4 k4 s4 => ⟨F4, e, k4, s2.trans (s3.trans s4), okS.step (s3.trans s4) h2⟩
        | ct e =>
          rw [eb] at h2
          exact fun σ4 H4 F4 k4 s4 => ⟨F4, e, k4, s2.trans (s3.trans s4), okS.step (s3.trans s4) h2⟩
        | bk e =>
          rw [eb] at h2
          exact fun σ4 H4 F4 k4 s4 => h2 σ4 H4 F4 k4 (s3.trans s4)
        | rt p e =>
          rw [eb] at h2
          exact fun σ4 H4 F4 z fz k4 s4 => h2 σ4 H4 F4 z fz k4 (s3.trans s4)
        | raise c x e =>
          rw [eb] at h2
          exact fun σ4 H4 F4 d k4 s4 => h2 σ4 H4 F4 d k4 (s3.trans s4)
        | fail =>
          rw [eb] at h2
          exact h2
    · rintro σ' H2 ⟨F2, en, k2, s2, h2⟩
      rw [List.drop_length] at h2
      exact h2 σ' H2 F2 k2 StepS.refl
theorem es_whl {c : Expr} {body : List Stmt} {pos : Pos} {n : Nat} {nor : Bool} {evc : Env → Res (PV × Env)} {evb : Env → Out} (hp : PassesOwn (model X.prog X.w) X.A X.env X.xe) (hc : PT X c (rdT R W nor evc)) (hb : PSs X body (rdS R W fresh evb)) :
    PS X (.While c body [] pos) (rdS R W fresh fun env => whileGo evc evb n env) :=
  PS.imp (ps_while hp hc hb) fun D σ H ⟨F, env, k, h⟩ => by
    refine ⟨fun m σ H => ∃ F en, EnvOk R σ H F en ∧ okS R W fresh D H F (whileGo evc evb m en), ⟨n, F, env, k, h⟩, ?_⟩
    rintro m σ1 H1 ⟨F1, en, k1, h1⟩
    cases m with
    | zero => exact h1.elim
    | succ m =>
      unfold whileGo at h1
      refine ⟨F1, en, k1, okS.bindT (k := fun t r => if t = true then match evb r.2 with
        | .nx e => whileGo evc evb m e
        | .ct e => whileGo evc evb m e
        | .bk e => .nx e
        | o => o else .nx r.2) h1 fun b q H2 F2 _ k2 s2 h2 => ?_⟩
      cases b with
      | false => exact h2 σ1 H2 F2 k2 s2.s
      | true =>
        show ∃ N, _
        refine ⟨fun σ' H' => ∃ F en, EnvOk R σ' H' F en ∧ okS R W fresh D H' F (whileGo evc evb m en), fun σ' H' z => ⟨m, Nat.lt_succ_self _, z⟩, F2, q.2, k2, ?_⟩
        have h2 := okS.step s2.s h2
        cases eb : evb q.2 with
        | nx e =>
          simp only [eb, if_true] at h2
          exact fun σ4 H4 F4 k4 s4 => ⟨F4, e, k4, okS.step s4 h2⟩
        | ct e =>
          simp only [eb, if_true] at h2
          exact fun σ4 H4 F4 k4 s4 => ⟨F4, e, k4, okS.step s4 h2⟩
        | bk e =>
          simp only [eb, if_true] at h2
          exact h2
        | rt p e =>
          simp only [eb, if_true] at h2
          exact h2
        | raise c x e =>
          simp only [eb, if_true] at h2
          exact h2
        | fail =>
          simp only [eb, if_true] at h2
          exact h2
end
end Ev

/-! EvE20: a def keeps its promise. -/
namespace Ev
open PySem PySem.Spec PyProof.Rows L2
variable {G : Gl0} {H H' : Hp}
theorem RepN.get : ∀ {l : List PV} {vs : List V} {fs : List (List Addr)} {i : Nat} {p : PV}, RepN G H l vs fs → l[i]? = some p → ∃ v f, vs[i]? = some v ∧ fs[i]? = some f ∧ RepF G H p v f
  | _, _, _, _, _, .nil, e => by simp at e
  | _, _, _, 0, _, .cons h t, e => by
    simp at e; subst e
    exact ⟨_, _, rfl, rfl, h⟩
  | _, _, _, i + 1, _, .cons h t, e => by
    obtain ⟨v, f, h1, h2, h3⟩ := RepN.get (i := i) t (by simpa using e)
    exact ⟨v, f, by simpa using h1, by simpa using h2, h3⟩
/-- the frame at a def's entry -/
def frOf (G : Gl0) (cls : Nat → Addr) (d : Def) (H : Hp) (vs : List V) (fs : List (List Addr)) : Fr0 where
  G := G
  ms := d.ms
  br := d.br
  H0 := H
  B := fun a => a ∈ refd d.br fs
  A := fun a => a ∈ fs.flatten ∨ H a = none
  cls := cls
  pin := fun i => if d.br = true ∧ i = 0 then vs[0]? else none
/-- a def's slots -/
def defOk (d : Def) : Bool := (d.ms.all fun i => decide (i < d.np → i = 0 ∧ d.br = true)) && (!d.br || (decide (0 ∈ d.ms) && decide (0 < d.np)))
theorem getD_nil {fs : List (List Addr)} {i : Nat} (h : fs.length ≤ i) : fs.getD i [] = [] := by
  rw [List.getD_eq_getElem?_getD, List.getElem?_eq_none h]; rfl
theorem refd_zero {fs : List (List Addr)} : fs.getD 0 [] = refd true fs := by
  cases fs <;> rfl
theorem env_start {cls : Nat → Addr} {d : Def} {args : List PV} {vs : List V} {fs : List (List Addr)} {N : List Str} (ok : defOk d = true) (hn : N.length = d.n) (hp : d.np ≤ d.n) (a : ArgsOk G d.br d.np H args vs fs) :
    EnvOk (frOf G cls d H vs fs) (L2.start N vs) H (fun i => fs.getD i []) (Ev.start d args) := by
  obtain ⟨ok1, ok2⟩ := Bool.and_eq_true_iff.mp ok
  have ok1 : ∀ i ∈ d.ms, i < d.np → i = 0 ∧ d.br = true := fun i hi => of_decide_eq_true (List.all_eq_true.mp ok1 i hi)
  have l1 := a.rep.length
  have hlen := a.len
  have lv : vs.length = d.np := by rw [l1.1, hlen]
  have lf : fs.length = d.np := by rw [l1.2, hlen]
  have mem : ∀ i b, b ∈ fs.getD i [] → b ∈ fs.flatten := fun i b hb => by
    rw [List.getD_eq_getElem?_getD] at hb
    cases e : fs[i]? with
    | none => rw [e] at hb; simp at hb
    | some f =>
      rw [e] at hb
      exact List.mem_flatten.mpr ⟨f, List.mem_of_getElem? e, hb⟩
  have own : ∀ i ∈ d.ms, ∀ b ∈ fs.getD i [], i = 0 ∧ d.br = true := fun i hi b hb => by
    rcases Nat.lt_or_ge i d.np with h | h
    · exact ok1 i hi h
    · rw [getD_nil (by omega)] at hb; simp at hb
  have gst : ∀ {i : Nat} {p : PV}, (Ev.start d args)[i]? = some p → p ≠ .undef → args[i]? = some p := fun {i p} e n => by
    unfold Ev.start at e
    rcases Nat.lt_or_ge i args.length with h | h
    · rw [List.getElem?_append_left h] at e; exact e
    · rw [List.getElem?_append_right h, List.getElem?_replicate] at e
      split at e
      · cases e; exact absurd rfl n
      · cases e
  have vst : ∀ {i : Nat} {v : V}, vs[i]? = some v → (L2.start N vs)[i]? = some (some v) := fun {i v} e => by
    unfold L2.start
    have hi : i < vs.length := by
      rcases Nat.lt_or_ge i vs.length with h | h
      · exact h
      · rw [List.getElem?_eq_none h] at e; cases e
    rw [List.getElem?_append_left (by simpa using hi), List.getElem?_map, e]
    rfl
  refine ⟨?_, fun i p e n => ?_, fun i e => ?_, fun i hi => ?_, fun i hi b hb => ?_, fun i hi b hb => ?_, fun i hi j n b hb hc => ?_, fun i b hb => .inl (mem i b hb), fun b o e _ => e, fun b e => ⟨e, .inr e⟩, a.lok, fun i v e => ?_⟩
  · unfold Ev.start L2.start
    rw [List.length_append, List.length_append, List.length_map, List.length_replicate, List.length_replicate, lv, hlen, hn]
  · obtain ⟨v, f, h1, h2, h3⟩ := a.rep.get (gst e n)
    refine ⟨v, vst h1, ?_⟩
    show RepF G H p v (fs.getD i [])
    rw [List.getD_eq_getElem?_getD, h2]
    exact h3
  · rcases Nat.lt_or_ge i d.np with h | h
    · exfalso
      have hi : i < args.length := by omega
      have e2 : (Ev.start d args)[i]? = some args[i] := by
        unfold Ev.start
        rw [List.getElem?_append_left hi, List.getElem?_eq_getElem hi]
      rw [List.getD_eq_getElem?_getD, e2] at e
      have e : args[i] = .undef := e
      obtain ⟨v, f, _, _, h3⟩ := a.rep.get (i := i) (p := args[i]) (by simp [hi])
      rw [e] at h3
      exact h3
    · exact getD_nil (by omega)
  · by_cases c : fs.getD i [] = []
    · show (fs.getD i []).Nodup
      rw [c]; exact List.nodup_nil
    · obtain ⟨b, hb⟩ := List.exists_mem_of_ne_nil _ c
      obtain ⟨rfl, hbr⟩ := own i hi b hb
      have := a.nd
      rw [hbr] at this
      show (fs.getD 0 []).Nodup
      rw [refd_zero]; exact this
  · have hb : b ∈ fs.getD i [] := hb
    obtain ⟨rfl, hbr⟩ := own i hi b hb
    have := a.mu b
    rw [hbr, ← refd_zero] at this
    exact this hb
  · have hb : b ∈ fs.getD i [] := hb
    obtain ⟨rfl, hbr⟩ := own i hi b hb
    refine .inr ⟨rfl, hbr, ?_⟩
    show b ∈ refd d.br fs
    rw [hbr, ← refd_zero]; exact hb
  · have hb : b ∈ fs.getD i [] := hb
    have hc : b ∈ fs.getD j [] := hc
    obtain ⟨rfl, hbr⟩ := own i hi b hb
    rw [List.getD_eq_getElem?_getD] at hc
    cases e : fs[j]? with
    | none => rw [e] at hc; simp at hc
    | some f =>
      rw [e] at hc
      refine a.dj hbr j f (Nat.pos_of_ne_zero n) e b hc ?_
      rw [hbr, ← refd_zero]; exact hb
  · have e' : (if d.br = true ∧ i = 0 then vs[0]? else none) = some v := e
    split at e'
    · rename_i c
      obtain ⟨c1, rfl⟩ := c
      rw [c1] at ok2
      simp only [Bool.not_true, Bool.false_or, Bool.and_eq_true, decide_eq_true_eq] at ok2
      exact ⟨ok2.1, vst e'⟩
    · cases e'
/-- the callee's end is what was promised -/
theorem fin_law {cls : Nat → Addr} {d : Def} {args : List PV} {vs : List V} {fs : List (List Addr)} {N : List Str} {Q : VK} {E : XK} {o : Out} (ok : defOk d = true) (hn : N.length = d.n) (hp : d.np ≤ d.n) (a : ArgsOk G d.br d.np H args vs fs)
    (h : match finish d o with
      | .ok p b => ∀ z H' fz f0, After G d.br H fs vs[0]? b H' f0 → Back G d.br d.fresh H fs H' f0 p z fz → Q z H'
      | .raise c x b => ∀ dc y H' f0, After G d.br H fs vs[0]? b H' f0 → H' dc = some (.xd [(G.fld c, y)]) → RepF G H' x y [] → E (.ref (cls c)) (some dc) H'
      | .fail => False) :
    okS (frOf G cls d H vs fs) (fun c x _ H => E c x H) d.fresh { nx := fun _ H' => Q .non H', rt := Q } H (fun i => fs.getD i []) o := by
  have lv : vs.length = d.np := by rw [a.rep.length.1, a.len]
  obtain ⟨_, ok2⟩ := Bool.and_eq_true_iff.mp ok
  have pin : d.br = true → 0 ∈ d.ms ∧ ∃ v0, vs[0]? = some v0 := fun c => by
    rw [c] at ok2
    simp only [Bool.not_true, Bool.false_or, Bool.and_eq_true, decide_eq_true_eq] at ok2
    exact ⟨ok2.1, vs[0]'(by omega), by simp⟩
  -- what is true behind
  have aft : ∀ {σ' : St} {H' : Hp} {F' : Nat → List Addr} {e : Env} {b : PV}, EnvOk (frOf G cls d H vs fs) σ' H' F' e → (d.br = true → e.getD 0 .undef = b ∧ b ≠ .undef) → After G d.br H fs vs[0]? b H' (F' 0) := fun {σ' H' F' e b} k hb => by
    refine ⟨fun x o ex n => k.keep x o ex n, fun x ex => (k.dom x ex).1, k.lok, fun c => ?_, fun c => k.nd 0 (pin c).1, fun c => k.mu 0 (pin c).1, fun c x hx => ?_⟩
    · obtain ⟨h0, v0, e0⟩ := pin c
      obtain ⟨eb, nb⟩ := hb c
      have rf := k.rf 0 v0 (by show (if d.br = true ∧ 0 = 0 then vs[0]? else none) = _; rw [if_pos ⟨c, rfl⟩]; exact e0)
      obtain ⟨w, h1, h2⟩ := k.slot 0 b (getD_of eb nb) nb
      rw [rf.2] at h1
      cases h1
      exact ⟨v0, e0, h2⟩
    · rcases k.ow 0 (pin c).1 x hx with z | ⟨_, _, z⟩
      · exact .inr z
      · exact .inl z
  have bk : ∀ {σ' : St} {H' : Hp} {F' : Nat → List Addr} {e : Env} {p : PV} {z : V} {fz : List Addr}, EnvOk (frOf G cls d H vs fs) σ' H' F' e → RetOk (frOf G cls d H vs fs) d.fresh H' F' p z fz → Back G d.br d.fresh H fs H' (F' 0) p z fz := fun {σ' H' F' e p z fz} k r =>
    ⟨r.rep, r.old, fun c x hx hy => r.st x hx ⟨0, (pin c).1, hy⟩, r.h0, r.nd, r.mu⟩
  have nob : ∀ {e : Env}, d.br = true → (match e.getD 0 .undef with | .undef => False | _ => True) → e.getD 0 .undef ≠ .undef := fun _ z c => by rw [c] at z; exact z
  cases o with
  | bk e => exact h.elim
  | ct e => exact h.elim
  | fail => exact h.elim
  | rt p e =>
    intro σ' H' F' z fz k st r
    unfold finish at h
    by_cases c : d.br = true
    · simp only [c, if_true] at h
      by_cases u : e.getD 0 .undef = .undef
      · simp only [u] at h
      · have hb : ∀ z H' fz f0, After G d.br H fs vs[0]? (e.getD 0 .undef) H' f0 → Back G d.br d.fresh H fs H' f0 p z fz → Q z H' := by
          cases eu : e.getD 0 .undef with
          | undef => exact absurd eu u
          | _ => simp only [eu, c] at h ⊢; exact h
        exact hb z H' fz (F' 0) (aft k fun _ => ⟨rfl, u⟩) (bk k r)
    · simp only [c, if_false] at h
      have cf : d.br = false := by simpa using c
      have A := aft (b := .undef) k (fun z => absurd z c)
      have B := bk k r
      rw [cf] at A B
      exact h z H' fz (F' 0) A B
  | nx e =>
    intro σ' H' F' k st
    have r : RetOk (frOf G cls d H vs fs) d.fresh H' F' .non .non [] := ⟨⟨rfl, rfl⟩, fun _ z => by simp at z, fun _ z => by simp at z, fun _ => List.nodup_nil, fun _ _ z => by simp at z, fun _ _ z => by simp at z⟩
    unfold finish at h
    by_cases c : d.br = true
    · simp only [c, if_true] at h
      by_cases u : e.getD 0 .undef = .undef
      · simp only [u] at h
      · have hb : ∀ z H' fz f0, After G d.br H fs vs[0]? (e.getD 0 .undef) H' f0 → Back G d.br d.fresh H fs H' f0 .non z fz → Q z H' := by
          cases eu : e.getD 0 .undef with
          | undef => exact absurd eu u
          | _ => simp only [eu, c] at h ⊢; exact h
        exact hb .non H' [] (F' 0) (aft k fun _ => ⟨rfl, u⟩) (bk k r)
    · simp only [c, if_false] at h
      have cf : d.br = false := by simpa using c
      have A := aft (b := .undef) k (fun z => absurd z c)
      have B := bk k r
      rw [cf] at A B
      exact h .non H' [] (F' 0) A B
  | raise ci x e =>
    intro σ' H' F' dc k st ex
    obtain ⟨y, fp, hd, ry, _, rfl⟩ := ex
    unfold finish at h
    by_cases c : d.br = true
    · simp only [c, if_true] at h
      by_cases u : e.getD 0 .undef = .undef
      · simp only [u] at h
      · have hb : ∀ dc y H' f0, After G d.br H fs vs[0]? (e.getD 0 .undef) H' f0 → H' dc = some (.xd [(G.fld ci, y)]) → RepF G H' x y [] → E (.ref (cls ci)) (some dc) H' := by
          cases eu : e.getD 0 .undef with
          | undef => exact absurd eu u
          | _ => simp only [eu, c] at h ⊢; exact h
        exact hb dc y H' (F' 0) (aft k fun _ => ⟨rfl, u⟩) hd ry
    · simp only [c, if_false] at h
      have cf : d.br = false := by simpa using c
      have A := aft (b := .undef) k (fun z => absurd z c)
      rw [cf] at A
      exact h dc y H' (F' 0) A hd ry
end Ev

/-! EvC: a checker: is this AST that expression? -/
namespace Ev
open PySem PySem.Spec PyProof.Rows L2
structure Sig where
  x : Str
  np : Nat
  br : Bool
  fresh : Bool
structure Gam where
  N : List Str
  sc : Scope
  fn : Str → Bool
  ms : List Nat
  pins : List Nat
  br : Bool
  fresh : Bool
  sigs : List Sig
  cs : List (Str × PV)
def flatEq : PV → PV → Bool
  | .non, .non => true
  | .bl a, .bl b => a == b
  | .int a, .int b => decide (a = b)
  | .str a, .str b => decide (a = b)
  | _, _ => false
theorem flatEq_eq {p q : PV} (h : flatEq p q = true) : p = q := by
  cases p <;> cases q <;> simp_all [flatEq]
def visB (Γ : Gam) (i : Nat) (x : Str) : Bool := decide (Γ.N[i]? = some x) && (match Γ.sc.names.lookup x with
  | some .local => true
  | some .cell => true
  | some .free => true
  | _ => false) && (x == ("__debug__" : Str)) == false && (x == ("__classdict__" : Str)) == false
def locB (Γ : Gam) (i : Nat) (x : Str) : Bool := decide (Γ.N[i]? = some x) && (match Γ.sc.names.lookup x with
  | some .local => true
  | some .cell => Γ.fn x
  | _ => false)
def glB (Γ : Gam) (x : Str) : Bool := decide (Γ.sc.names.lookup x = some .globalImplicit) && (x == ("__debug__" : Str)) == false && decide (x ≠ "__name__")
/-! ### the forms -/
def asC : Expr → Option Const
  | .Constant c _ _ => some c
  | _ => none
def asN : Expr → Option Str
  | .Name x _ => some x
  | _ => none
def asBin : Expr → Option (Expr × Operator × Expr)
  | .BinOp a o b _ => some (a, o, b)
  | _ => none
def asUn : Expr → Option (UnaryOp × Expr)
  | .UnaryOp o a _ => some (o, a)
  | _ => none
def asBool : Expr → Option (BoolOp × Expr × Expr × List Expr × Pos)
  | .BoolOp o (a :: b :: r) p => some (o, a, b, r, p)
  | _ => none
def asCmp : Expr → Option (Expr × CmpOp × Expr)
  | .Compare a [o] [b] _ => some (a, o, b)
  | _ => none
def asCmp2 : Expr → Option (Expr × CmpOp × CmpOp × Expr × Expr)
  | .Compare a [o, p] [b, c] _ => some (a, o, p, b, c)
  | _ => none
def asIf : Expr → Option (Expr × Expr × Expr)
  | .IfExp c a b _ => some (c, a, b)
  | _ => none
def asCall : Expr → Option (Str × List Expr)
  | .Call (.Name x _) es [] _ => some (x, es)
  | _ => none
def asTup : Expr → Option (List Expr)
  | .Tuple es _ _ => some es
  | _ => none
def asLst : Expr → Option (List Expr)
  | .List es _ => some es
  | _ => none
def asSub : Expr → Option (Expr × Expr)
  | .Subscript a i _ => some (a, i)
  | _ => none
def asSl : Expr → Option (Expr × Option Expr × Option Expr)
  | .Subscript a (.Slice lo hi none _) _ => some (a, lo, hi)
  | _ => none
def asRev : Expr → Option Expr
  | .Subscript a (.Slice none none (some (.UnaryOp .USub (.Constant (.int 1) _ _) _)) _) _ => some a
  | _ => none
def asComp : Expr → Option (Expr × Expr × Expr × List Expr × Scope)
  | .ListComp e [⟨tg, it, ifs, 0⟩] sc _ => some (e, tg, it, ifs, sc)
  | _ => none
theorem asC_eq {x : Expr} {c : Const} (h : asC x = some c) : ∃ j p, x = .Constant c j p := by
  unfold asC at h; split at h <;> cases h; exact ⟨_, _, rfl⟩
theorem asN_eq {x : Expr} {y : Str} (h : asN x = some y) : ∃ p, x = .Name y p := by
  unfold asN at h; split at h <;> cases h; exact ⟨_, rfl⟩
theorem asBin_eq {x : Expr} {r} (h : asBin x = some r) : ∃ p, x = .BinOp r.1 r.2.1 r.2.2 p := by
  unfold asBin at h; split at h <;> cases h; exact ⟨_, rfl⟩
theorem asUn_eq {x : Expr} {r} (h : asUn x = some r) : ∃ p, x = .UnaryOp r.1 r.2 p := by
  unfold asUn at h; split at h <;> cases h; exact ⟨_, rfl⟩
theorem asBool_eq {x : Expr} {r} (h : asBool x = some r) : x = .BoolOp r.1 (r.2.1 :: r.2.2.1 :: r.2.2.2.1) r.2.2.2.2 := by
  unfold asBool at h; split at h <;> cases h; rfl
theorem asCmp_eq {x : Expr} {r} (h : asCmp x = some r) : ∃ p, x = .Compare r.1 [r.2.1] [r.2.2] p := by
  unfold asCmp at h; split at h <;> cases h; exact ⟨_, rfl⟩
theorem asCmp2_eq {x : Expr} {r} (h : asCmp2 x = some r) : ∃ p, x = .Compare r.1 [r.2.1, r.2.2.1] [r.2.2.2.1, r.2.2.2.2] p := by
  unfold asCmp2 at h; split at h <;> cases h; exact ⟨_, rfl⟩
theorem asIf_eq {x : Expr} {r} (h : asIf x = some r) : ∃ p, x = .IfExp r.1 r.2.1 r.2.2 p := by
  unfold asIf at h; split at h <;> cases h; exact ⟨_, rfl⟩
theorem asCall_eq {x : Expr} {r} (h : asCall x = some r) : ∃ p q, x = .Call (.Name r.1 p) r.2 [] q := by
  unfold asCall at h; split at h <;> cases h; exact ⟨_, _, rfl⟩
theorem asTup_eq {x : Expr} {r} (h : asTup x = some r) : ∃ k p, x = .Tuple r k p := by
  unfold asTup at h; split at h <;> cases h; exact ⟨_, _, rfl⟩
theorem asLst_eq {x : Expr} {r} (h : asLst x = some r) : ∃ p, x = .List r p := by
  unfold asLst at h; split at h <;> cases h; exact ⟨_, rfl⟩
theorem asSub_eq {x : Expr} {r} (h : asSub x = some r) : ∃ p, x = .Subscript r.1 r.2 p := by
  unfold asSub at h; split at h <;> cases h; exact ⟨_, rfl⟩
theorem asSl_eq {x : Expr} {r} (h : asSl x = some r) : ∃ p q, x = .Subscript r.1 (.Slice r.2.1 r.2.2 none p) q := by
  unfold asSl at h; split at h <;> cases h; exact ⟨_, _, rfl⟩
theorem asRev_eq {x : Expr} {r} (h : asRev x = some r) : ∃ k p1 p2 p3 q, x = .Subscript r (.Slice none none (some (.UnaryOp .USub (.Constant (.int 1) k p1) p2)) p3) q := by
  unfold asRev at h; split at h <;> cases h; exact ⟨_, _, _, _, _, rfl⟩
theorem asComp_eq {x : Expr} {r} (h : asComp x = some r) : ∃ p, x = .ListComp r.1 [⟨r.2.1, r.2.2.1, r.2.2.2.1, 0⟩] r.2.2.2.2 p := by
  unfold asComp at h; split at h <;> cases h; exact ⟨_, rfl⟩
/-! ### kinds -/
abbrev Ck := Option Kd × Option Bool
structure Ka where
  own : Bool
  stb : Bool
  nor : Bool
  len : Nat
def dfl (x : Expr) (k : Option Kd) : Ck := (k, if plainT x = true then k.map (·.nor) else none)
def kC : Kd := ⟨true, true, true, true⟩
def kBin : Option Kd → Option Kd → Option Kd
  | some a, some b => if (a.stb || b.nor) = true then some ⟨false, a.stb && b.stb, true, a.nor && b.nor⟩ else none
  | _, _ => none
def kCmp : Option Kd → Option Kd → Option Kd
  | some a, some b => if (a.stb || b.nor) = true then some ⟨true, true, true, a.nor && b.nor⟩ else none
  | _, _ => none
def kCmp2 : Option Kd → Option Kd → Option Kd → Option Kd
  | some a, some b, some c => if ((a.stb || b.nor) && (b.stb || c.nor)) = true then some ⟨true, true, true, a.nor && b.nor && c.nor⟩ else none
  | _, _, _ => none
def kAnd : Option Kd → Option Kd → Option Kd
  | some a, some b => some ⟨false, a.stb && b.stb, false, a.nor && b.nor⟩
  | _, _ => none
def tAndB : Option Bool → Option Bool → Option Bool
  | some a, some b => some (a && b)
  | _, _ => none
def kIdx : Option Kd → Option Kd → Option Kd
  | some a, some b => if (a.stb || b.nor) = true then some ⟨false, a.stb, false, a.nor && b.nor⟩ else none
  | _, _ => none
def kSl : Option Kd → Option Bool → Option Bool → Option Kd
  | some a, some n1, some n2 => if (a.stb || (n1 && n2)) = true then some ⟨false, a.stb, true, a.nor && (n1 && n2)⟩ else none
  | _, _, _ => none
def kIf : Option Bool → Option Kd → Option Kd → Option Kd
  | some n, some a, some b => some ⟨a.own && b.own && n, a.stb && b.stb, a.top && b.top, n && a.nor && b.nor⟩
  | _, _, _ => none
def kCons : Option Kd → Option Ka → Option Ka
  | some a, some r => if (a.stb || r.nor) = true then some ⟨a.own && r.own, a.stb && r.stb, a.nor && r.nor, r.len + 1⟩ else none
  | _, _ => none
def okBin : Operator → Bool
  | .Add => true
  | .Sub => true
  | .Mult => true
  | .FloorDiv => true
  | .Mod => true
  | .Pow => true
  | .LShift => true
  | .RShift => true
  | .BitAnd => true
  | .BitOr => true
  | .BitXor => true
  | _ => false
def bltN : Blt → Str
  | .len => "len"
  | .tuple => "tuple"
  | .list => "list"
  | .sum => "sum"
  | .all => "all"
  | .any => "any"
  | .min => "min"
  | .max => "max"
  | .sorted => "sorted"
  | .abs => "abs"
  | .int => "int"
  | .repr => "repr"
  | .str => "str"
  | .bool => "bool"
def bltNames : List Str := ["len", "tuple", "list", "sum", "all", "any", "min", "max", "sorted", "abs", "int", "repr", "str", "bool", "isinstance", "range", "zip", "enumerate"]
def bltTop : Blt → Bool
  | .min => false
  | .max => false
  | _ => true
def tyS : Ty → Str
  | .int => "int"
  | .bool => "bool"
  | .tuple => "tuple"
  | .str => "str"
  | .list => "list"
  | _ => ""
def relabelS (scope sc : Scope) : Scope :=
  { scope with names := scope.names.map fun (n, k) => if (k == .free && sc.kind == .function && sc.names.lookup n == some .cell) then (n, .cell) else (n, k) }
def Gam.blk (Γ : Gam) (scope : Scope) : Gam := { Γ with sc := relabelS scope Γ.sc, fn := fun x => scope.names.lookup x == some .cell }
/-! ### targets -/
mutual
def chkG (Γ : Gam) : T → Expr → Bool
  | .n i, x => match asN x with
    | some y => locB Γ i y && decide (i ∉ Γ.ms)
    | none => false
  | .nil, _ => false
  | .cons a r, x => match asTup x with
    | some (e :: es) => noStar e && chkG Γ a e && chkGs Γ r es
    | _ => false
def chkGs (Γ : Gam) : T → List Expr → Bool
  | .n _, _ => false
  | .nil, es => es.isEmpty
  | .cons a r, es => match es with
    | e :: es => noStar e && chkG Γ a e && chkGs Γ r es
    | [] => false
end
def ownP (Γ : Gam) (own : List Nat) : List (Str × Nat) := own.map fun i => ((Γ.N[i]?).getD Str.empty, i)
def kComp (stb nI : Bool) (nc : Bool) (k : Kd) : Option Kd := if ((k.stb || (nc && k.nor)) && (stb || (nc && k.nor))) = true then some ⟨k.own, k.stb, true, nI && (nc && k.nor)⟩ else none
mutual
def chk (Γ : Gam) : E → Expr → Ck
  | .c p, x => dfl x (match asC x with
    | some w => match ofC w with
      | some q => if flatEq p q = true then some kC else none
      | none => none
    | none => none)
  | .g y p, x => dfl x (match asN x with
    | some z => if (decide (y = z) && glB Γ z && (match Γ.cs.lookup z with | some q => flatEq p q | none => false)) = true then some kC else none
    | none => none)
  | .fn _, _ => (none, none)
  | .v i, x => dfl x (match asN x with
    | some z => if (visB Γ i z && decide (i ∉ Γ.ms)) = true then some ⟨false, true, false, true⟩ else none
    | none => none)
  | .m i, x => dfl x (match asN x with
    | some z => if visB Γ i z = true then some ⟨false, false, false, true⟩ else none
    | none => none)
  | .mv i, x => dfl x (match asN x with
    | some z => if (visB Γ i z && decide (i ∈ Γ.ms) && (decide (i ≠ 0) || !Γ.br)) = true then some ⟨true, true, false, false⟩ else none
    | none => none)
  | .chk e, x => dfl x ((chk Γ e x).1.map fun k => ⟨true, true, true, k.nor⟩)
  | .chk1 e, x => dfl x (match (chk Γ e x).1 with
    | some k => if k.top = true then some ⟨true, true, true, k.nor⟩ else none
    | none => none)
  | .bin op a b, x => dfl x (match asBin x with
    | some (y, o, z) => if (decide (op = o) && okBin op) = true then kBin (chk Γ a y).1 (chk Γ b z).1 else none
    | none => none)
  | .neg a, x => dfl x (match asUn x with
    | some (.USub, y) => (chk Γ a y).1.map fun k => ⟨true, true, true, k.nor⟩
    | _ => none)
  | .not a, x => match asUn x with
    | some (.Not, y) => ((chk Γ a y).1.map fun k => ⟨true, true, true, k.nor⟩, (chk Γ a y).2)
    | _ => (none, none)
  | .and a b, x => match asBool x with
    | some (.And, y, z, [], _) => (kAnd (chk Γ a y).1 (chk Γ b z).1, tAndB (chk Γ a y).2 (chk Γ b z).2)
    | some (.And, y, z, r :: rs, p) => (kAnd (chk Γ a y).1 (chk Γ b (.BoolOp .And (z :: r :: rs) p)).1, tAndB (chk Γ a y).2 (chk Γ b (.BoolOp .And (z :: r :: rs) p)).2)
    | _ => (none, none)
  | .or a b, x => match asBool x with
    | some (.Or, y, z, [], _) => (kAnd (chk Γ a y).1 (chk Γ b z).1, tAndB (chk Γ a y).2 (chk Γ b z).2)
    | some (.Or, y, z, r :: rs, p) => (kAnd (chk Γ a y).1 (chk Γ b (.BoolOp .Or (z :: r :: rs) p)).1, tAndB (chk Γ a y).2 (chk Γ b (.BoolOp .Or (z :: r :: rs) p)).2)
    | _ => (none, none)
  | .cmp op a b, x => match asCmp x with
    | some (y, o, z) => if (decide (op = o) && behindInMarks op z == false) = true then (kCmp (chk Γ a y).1 (chk Γ b z).1, (kCmp (chk Γ a y).1 (chk Γ b z).1).map (·.nor)) else (none, none)
    | none => (none, none)
  | .cmp2 o1 o2 a b c, x => match asCmp2 x with
    | some (y, p1, p2, z, u) => if (decide (o1 = p1) && decide (o2 = p2) && lastMarks [o1, o2] [z, u] == false) = true then (kCmp2 (chk Γ a y).1 (chk Γ b z).1 (chk Γ c u).1, (kCmp2 (chk Γ a y).1 (chk Γ b z).1 (chk Γ c u).1).map (·.nor)) else (none, none)
    | none => (none, none)
  | .ife c a b, x => match asIf x with
    | some (y, z, u) => (kIf (chk Γ c y).2 (chk Γ a z).1 (chk Γ b u).1, none)
    | none => (none, none)
  | .call k es, x => dfl x (match asCall x with
    | some (y, xs) => match Γ.sigs[k]? with
      | some s => if (decide (s.x = y) && glB Γ y && !s.br && xs.all noStar) = true then (chks Γ es xs).map fun r => ⟨s.fresh, s.fresh || r.stb, s.fresh, r.nor⟩ else none
      | none => none
    | none => none)
  | .callr k i es, x => dfl x (match asCall x with
    | some (y, z :: xs) => match Γ.sigs[k]?, asN z with
      | some s, some w => if (decide (s.x = y) && glB Γ y && s.br && xs.all noStar && visB Γ i w && decide (i ∈ Γ.ms)) = true then (match chks Γ es xs with
        | some r => if r.stb = true then some ⟨s.fresh, true, s.fresh, false⟩ else none
        | none => none) else none
      | _, _ => none
    | _ => none)
  | .callv _ _, _ => (none, none)
  | .blt b es, x => dfl x (match asCall x with
    | some (y, xs) => if (decide (y = bltN b) && glB Γ y && xs.all noStar && !xs.isEmpty) = true then (chks Γ es xs).map fun r => ⟨false, r.stb, bltTop b, r.nor⟩ else none
    | none => none)
  | .mth _ _ _, _ => (none, none)
  | .isi a t, x => dfl x (match asCall x with
    | some (y, [z, u]) => match asN u with
      | some w => if (decide (y = "isinstance") && glB Γ y && decide (w = tyS t) && glB Γ w && (tyN t).isSome && noStar z) = true then (chk Γ a z).1.map fun k => ⟨true, true, true, k.nor⟩ else none
      | none => none
    | _ => none)
  | .attr _, _ => (none, none)
  | .tup es, x => dfl x (match asTup x with
    | some xs => if (decide (xs.length ≤ 1000)) = true then (chks Γ es xs).map fun r => ⟨r.own, r.stb, true, r.nor⟩ else none
    | none => none)
  | .lst es, x => dfl x (match asLst x with
    | some xs => if (decide (xs.length ≤ 1000)) = true then (chks Γ es xs).map fun r => ⟨r.own, r.stb, true, r.nor⟩ else none
    | none => none)
  | .idx a i, x => dfl x (match asSub x with
    | some (y, z) => if (isSlice z == false) = true then kIdx (chk Γ a y).1 (chk Γ i z).1 else none
    | none => none)
  | .sl a lo hi, x => dfl x (match asSl x with
    | some (y, l, h) => kSl (chk Γ a y).1 (chko Γ lo l) (chko Γ hi h)
    | none => none)
  | .rev a, x => dfl x (match asRev x with
    | some y => (chk Γ a y).1.map fun k => ⟨false, k.stb, true, k.nor⟩
    | none => none)
  | .comp own tg it c e, x => dfl x (match asComp x with
    | some (elt, tgE, iter, ifs, sc) => if (blkC Γ.N Γ.sc sc (ownP Γ own) && (own.all fun i => decide (i ∉ Γ.ms)) && (tg.sl.all fun i => decide (i ∈ own)) && notSet iter && chkG (Γ.blk sc) tg tgE) = true then
        (match chki Γ it tgE iter, chkc (Γ.blk sc) c ifs, (chk (Γ.blk sc) e elt).1 with
        | some (stb, nI), some nc, some k => kComp stb nI nc k
        | _, _, _ => none) else none
    | none => none)
def chks (Γ : Gam) : Es → List Expr → Option Ka
  | .nil, xs => match xs with
    | [] => some ⟨true, true, true, 0⟩
    | _ => none
  | .cons e es, xs => match xs with
    | x :: xs => if noStar x = true then kCons (chk Γ e x).1 (chks Γ es xs) else none
    | [] => none
def chko (Γ : Gam) : OE → Option Expr → Option Bool
  | .no, x => match x with
    | none => some true
    | some _ => none
  | .so e, x => match x with
    | some y => (chk Γ e y).1.map (·.nor)
    | none => none
def chkc (Γ : Gam) : OE → List Expr → Option Bool
  | .no, xs => match xs with
    | [] => some true
    | _ => none
  | .so e, xs => match xs with
    | [y] => (chk Γ e y).2
    | _ => none
def chki (Γ : Gam) : It → Expr → Expr → Option (Bool × Bool)
  | .e a, _, x => match (chk Γ a x).1 with
    | some k => if k.stb = true then some (true, k.nor) else none
    | none => none
  | .m a, _, x => (chk Γ a x).1.map fun k => (false, k.nor)
  | .rng es, _, x => match asCall x with
    | some (y, xs) => if (decide (y = "range") && glB Γ y && xs.all noStar && (decide (xs.length = 1) || decide (xs.length = 2))) = true then (chks Γ es xs).map fun r => (true, r.nor) else none
    | none => none
  | .enum _, _, _ => none
  | .zip es, tg, x => match asCall x, asTup tg with
    | some (y, xs), some _ => if (decide (y = "zip") && glB Γ y && xs.all noStar && decide (xs.length = 2)) = true then (match chks Γ es xs with
      | some r => if r.stb = true then some (true, r.nor) else none
      | none => none) else none
    | _, _ => none
end
end Ev

/-! EvC1: the checker's word on expressions holds. -/
namespace Ev
open PySem PySem.Spec PyProof.Rows L2
def vOf : PV → V
  | .bl b => .bl b
  | .int i => .int i
  | .str s => .str s
  | _ => .non
structure OkX (Γ : Gam) (n : Nat) (C : Calls) (X : Cx) (R : Fr0) (W : WXX) : Prop where
  N : X.N = Γ.N
  nd : X.N.Nodup
  sc : X.env.scope = Γ.sc
  fn : ∀ x, Γ.fn x = true → X.fn x = true
  calm : X.calm = true
  K : R.G.K = X.K
  ms : R.ms = Γ.ms
  br : R.br = Γ.br
  pin : ∀ i, i ∉ Γ.pins → R.pin i = none
  gu : X.A.guards = some []
  room : Room n X.A
  tk : Takes X W
  blt : ∀ x ∈ bltNames, X.mg x = none
  cs : ∀ x p, Γ.cs.lookup x = some p → p.lf = true → ∃ u, X.mg x = some u ∧ RelV (vOf p) u
  call : ∀ k s, Γ.sigs[k]? = some s → (∃ fd ps, X.mg s.x = some (.ref (R.G.fa k)) ∧ PySem.W.keepIn X.K (.ref (R.G.fa k)) = true ∧ Binds X.K fd ps [] ∧ FnG X.prog X.w X.K X.mg X.base n (R.G.fa k) fd ps (spE R.G R.cls (C k) s.br s.fresh s.np)) ∧ ∀ args, C k args ≠ .fail → args.length = s.np
section
variable {Γ : Gam} {n : Nat} {C : Calls} {X : Cx} {R : Fr0} {W : WXX}
theorem OkX.vis (o : OkX Γ n C X R W) {i : Nat} {x : Str} (h : visB Γ i x = true) : X.N[i]? = some x ∧ Vis X.env.scope x ∧ (x == ("__debug__" : Str)) = false ∧ (x == ("__classdict__" : Str)) = false := by
  unfold visB at h
  simp only [Bool.and_eq_true, decide_eq_true_eq, beq_iff_eq] at h
  obtain ⟨⟨⟨h1, h2⟩, h3⟩, h4⟩ := h
  refine ⟨by rw [o.N]; exact h1, ?_, h3, h4⟩
  unfold Vis
  rw [o.sc]
  split at h2 <;> first | (rename_i e; first | exact .inl e | exact .inr (.inl e) | exact .inr (.inr e)) | cases h2
theorem OkX.loc (o : OkX Γ n C X R W) {i : Nat} {x : Str} (h : locB Γ i x = true) : X.N[i]? = some x ∧ L2.Loc X.env.scope x ∧ (X.fn x = true ∨ X.env.scope.names.lookup x = some .local) := by
  unfold locB at h
  simp only [Bool.and_eq_true, decide_eq_true_eq] at h
  obtain ⟨h1, h2⟩ := h
  refine ⟨by rw [o.N]; exact h1, ?_⟩
  unfold L2.Loc
  rw [o.sc]
  split at h2
  · rename_i e; exact ⟨.inl e, .inr e⟩
  · rename_i e; exact ⟨.inr e, .inl (o.fn x h2)⟩
  · cases h2
theorem OkX.gl (o : OkX Γ n C X R W) {x : Str} (h : glB Γ x = true) : Gl X x ∧ (x == ("__debug__" : Str)) = false ∧ x ≠ "__name__" := by
  unfold glB at h
  simp only [Bool.and_eq_true, decide_eq_true_eq, beq_iff_eq] at h
  obtain ⟨⟨h1, h2⟩, h3⟩ := h
  refine ⟨?_, h2, h3⟩
  show X.env.scope.names.lookup x = _
  rw [o.sc]; exact h1
theorem OkX.units (o : OkX Γ n C X R W) : X.A.units + 67 < cLine := by
  have := o.room.un; omega
theorem pe_congr {e : Expr} {kd : Kd} {f g : Env → Res (PV × Env)} (h : PE X e (rdE R W kd f)) (e' : ∀ env, f env = g env) : PE X e (rdE R W kd g) := by
  have : f = g := funext e'
  rw [← this]; exact h
theorem ofC_flat {w : Const} {q : PV} (h : ofC w = some q) : True := trivial
theorem ev_c' {w : Const} {j : Nat} {p : PV} {pos : Pos} {kd : Kd} (h : ofC w = some p) : PE X (.Constant w j pos) (rdE R W kd fun env => .ok (p, env)) :=
  pe_congr (ev_c (c := w)) fun env => by rw [h]; rfl
theorem rep_vOf {p q : PV} (h : flatEq p q = true) (H : Hp) : RepF R.G H p (vOf p) [] := by
  cases p <;> cases q <;> simp_all [flatEq, RepF, vOf]
theorem flat_lf {p q : PV} (h : flatEq p q = true) : p.lf = true := by
  cases p <;> cases q <;> simp_all [flatEq, PV.lf]
theorem bin_op (hK : R.G.K = X.K) {op : Operator} (h : okBin op = true) : OpR X (binaryOp op) (rBin R.G op) := by
  cases op with
  | Add => exact op_addP hK
  | Sub => exact op_subP
  | Mult => exact op_mulP hK
  | FloorDiv => exact op_fdivP
  | Mod => exact op_modP
  | Pow => exact op_powP
  | LShift => exact op_shlP
  | RShift => exact op_shrP
  | BitAnd => exact op_andP
  | BitOr => exact op_orP
  | BitXor => exact op_xorP
  | _ => cases h
/-! ### the checker's word -/
def ChkOk (C : Calls) (X : Cx) (R : Fr0) (W : WXX) (a : E) (x : Expr) (r : Ck) : Prop :=
  (∀ kd, r.1 = some kd → PE X x (rdE R W kd (evalE C a))) ∧ ∀ m, r.2 = some m → PT X x (rdT R W m (evalE C a)) ∧ ∀ op es p, x = .BoolOp op es p → PW X x (rdT R W m (evalE C a))
theorem dfl_ok {a : E} {x : Expr} {k : Option Kd} (o : OkX Γ n C X R W) (h : ∀ kd, k = some kd → PE X x (rdE R W kd (evalE C a))) : ChkOk C X R W a x (dfl x k) := by
  refine ⟨h, fun m e => ?_⟩
  unfold dfl at e
  by_cases c : plainT x = true
  · simp only [c, if_true] at e
    cases hk : k with
    | none => rw [hk] at e; cases e
    | some kd =>
      rw [hk] at e
      cases e
      exact ⟨ev_tru o.K c (h kd hk), fun op es p ex => (by rw [ex] at c; cases c)⟩
  · simp only [c] at e
    cases e
theorem none_ok {a : E} {x : Expr} : ChkOk C X R W a x (none, none) := ⟨fun _ h => (nomatch h), fun _ h => (nomatch h)⟩
theorem pe_one {op : BoolOp} {y : Expr} {p : Pos} {t : TE} (h : PE X y t) : PE X (.BoolOp op [y] p) t := ⟨fun pins s σ H Q I q => h.run pins s σ H Q I q⟩
theorem vN (o : OkX Γ n C X R W) {i : Nat} (h : i ∉ Γ.ms) : i ∉ R.ms := by rw [o.ms]; exact h
theorem vNy (o : OkX Γ n C X R W) {i : Nat} (h : i ∈ Γ.ms) : i ∈ R.ms := by rw [o.ms]; exact h
theorem blt_of (o : OkX Γ n C X R W) (b : Blt) : (∃ id, bootBuiltins (bltN b) = some (.builtin id) ∧ CallR X (.builtin id) (rBlt R.G b (bltTop b))) ∨ ∃ id, bootBuiltins (bltN b) = some (.type id) ∧ CallR X (.type id) (rBlt R.G b (bltTop b)) := by
  have u := o.units
  cases b with
  | len => exact .inl ⟨"len", by with_unfolding_all rfl, blt_len o.K⟩
  | tuple => exact .inr ⟨"tuple", by with_unfolding_all rfl, blt_tuple o.K⟩
  | list => exact .inr ⟨"list", by with_unfolding_all rfl, blt_list o.K⟩
  | sum => exact .inl ⟨"sum", by with_unfolding_all rfl, blt_sum o.K o.calm⟩
  | all => exact .inl ⟨"all", by with_unfolding_all rfl, blt_all o.K o.calm⟩
  | any => exact .inl ⟨"any", by with_unfolding_all rfl, blt_any o.K o.calm⟩
  | min => exact .inl ⟨"min", by with_unfolding_all rfl, blt_min o.K o.calm (by omega)⟩
  | max => exact .inl ⟨"max", by with_unfolding_all rfl, blt_max o.K o.calm (by omega)⟩
  | sorted => exact .inl ⟨"sorted", by with_unfolding_all rfl, blt_sorted o.K (by omega)⟩
  | abs => exact .inl ⟨"abs", by with_unfolding_all rfl, blt_abs⟩
  | int => exact .inr ⟨"int", by with_unfolding_all rfl, blt_int⟩
  | repr => exact .inl ⟨"repr", by with_unfolding_all rfl, blt_repr o.K o.gu (by omega)⟩
  | str => exact .inr ⟨"str", by with_unfolding_all rfl, blt_str⟩
  | bool => exact .inr ⟨"bool", by with_unfolding_all rfl, blt_bool⟩
theorem bltN_mem (b : Blt) : bltN b ∈ bltNames := by
  cases b <;> decide +kernel
theorem ty_of {t : Ty} {m : String} (h : tyN t = some m) : tyS t ∈ bltNames ∧ bootBuiltins (tyS t) = some (.type m) := by
  cases t <;> cases h
  · exact ⟨by decide +kernel, by with_unfolding_all rfl⟩
  · exact ⟨by decide +kernel, by with_unfolding_all rfl⟩
  · exact ⟨by decide +kernel, by with_unfolding_all rfl⟩
  · exact ⟨by decide +kernel, by with_unfolding_all rfl⟩
  · exact ⟨by decide +kernel, by with_unfolding_all rfl⟩
mutual
theorem chkG_ok {Γ : Gam} {n : Nat} {C : Calls} {X : Cx} {R : Fr0} {W : WXX} (o : OkX Γ n C X R W) : ∀ (t : T) (x : Expr), chkG Γ t x = true → PG X x (rdG R t) ∧ noStar x = true
  | .n i, x, h => by
    simp only [chkG] at h
    split at h
    · rename_i y e
      obtain ⟨p, rfl⟩ := asN_eq e
      obtain ⟨h1, h2⟩ := Bool.and_eq_true_iff.mp h
      obtain ⟨l1, l2, l3⟩ := o.loc h1
      exact ⟨tg_n o.nd l1 l2 l3 (vN o (of_decide_eq_true h2)), rfl⟩
    · cases h
  | .nil, x, h => by simp [chkG] at h
  | .cons a r, x, h => by
    simp only [chkG] at h
    split at h
    · rename_i e es e'
      obtain ⟨k, p, rfl⟩ := asTup_eq e'
      simp only [Bool.and_eq_true] at h
      obtain ⟨⟨h1, h2⟩, h3⟩ := h
      obtain ⟨g1, _⟩ := chkG_ok o a e h2
      obtain ⟨g2, sp, ln, st⟩ := chkGs_ok o r es h3
      exact ⟨tg_tup o.K o.calm (tgs_cons h1 g1 g2) sp (by rw [assignEach_cons h1, List.length_cons, ln]; rfl) (by rw [assignEach_cons h1, List.findIdx?_cons, st]; rfl), rfl⟩
    · cases h
theorem chkGs_ok {Γ : Gam} {n : Nat} {C : Calls} {X : Cx} {R : Fr0} {W : WXX} (o : OkX Γ n C X R W) : ∀ (t : T) (es : List Expr), chkGs Γ t es = true → PGs X es (rdGs R t) ∧ t.sp = true ∧ (∀ env, (assignEach es env).length = t.len) ∧ ∀ env, (assignEach es env).findIdx? (·.1) = none
  | .n _, _, h => by simp [chkGs] at h
  | .nil, es, h => by
    simp only [chkGs, List.isEmpty_iff] at h
    subst h
    exact ⟨tgs_nil, rfl, fun _ => rfl, fun _ => rfl⟩
  | .cons a r, [], h => by simp [chkGs] at h
  | .cons a r, e :: es, h => by
    simp only [chkGs, Bool.and_eq_true] at h
    obtain ⟨⟨h1, h2⟩, h3⟩ := h
    obtain ⟨g1, _⟩ := chkG_ok o a e h2
    obtain ⟨g2, sp, ln, st⟩ := chkGs_ok o r es h3
    refine ⟨tgs_cons h1 g1 g2, sp, fun env => ?_, fun env => ?_⟩
    · rw [assignEach_cons h1, List.length_cons, ln]; rfl
    · rw [assignEach_cons h1, List.findIdx?_cons, st]; rfl
end
end
end Ev

/-! EvC2: the checker's word on expressions holds. -/
namespace Ev
open PySem PySem.Spec PyProof.Rows L2
theorem map_some {α β : Type} {o : Option α} {f : α → β} {b : β} (h : o.map f = some b) : ∃ a, o = some a ∧ f a = b := by
  cases o with
  | none => cases h
  | some a => cases h; exact ⟨a, rfl, rfl⟩
theorem kBin_inv {a b : Option Kd} {k : Kd} (h : kBin a b = some k) : ∃ x y, a = some x ∧ b = some y ∧ (x.stb || y.nor) = true ∧ k = ⟨false, x.stb && y.stb, true, x.nor && y.nor⟩ := by
  unfold kBin at h
  split at h
  · split at h
    · cases h; exact ⟨_, _, rfl, rfl, ‹_›, rfl⟩
    · cases h
  · cases h
theorem kCmp_inv {a b : Option Kd} {k : Kd} (h : kCmp a b = some k) : ∃ x y, a = some x ∧ b = some y ∧ (x.stb || y.nor) = true ∧ k = ⟨true, true, true, x.nor && y.nor⟩ := by
  unfold kCmp at h
  split at h
  · split at h
    · cases h; exact ⟨_, _, rfl, rfl, ‹_›, rfl⟩
    · cases h
  · cases h
theorem kCmp2_inv {a b c : Option Kd} {k : Kd} (h : kCmp2 a b c = some k) : ∃ x y z, a = some x ∧ b = some y ∧ c = some z ∧ (x.stb || y.nor) = true ∧ (y.stb || z.nor) = true ∧ k = ⟨true, true, true, x.nor && y.nor && z.nor⟩ := by
  unfold kCmp2 at h
  split at h
  · split at h
    · rename_i e
      obtain ⟨e1, e2⟩ := Bool.and_eq_true_iff.mp e
      cases h; exact ⟨_, _, _, rfl, rfl, rfl, e1, e2, rfl⟩
    · cases h
  · cases h
theorem kAnd_inv {a b : Option Kd} {k : Kd} (h : kAnd a b = some k) : ∃ x y, a = some x ∧ b = some y ∧ k = ⟨false, x.stb && y.stb, false, x.nor && y.nor⟩ := by
  unfold kAnd at h
  split at h
  · cases h; exact ⟨_, _, rfl, rfl, rfl⟩
  · cases h
theorem tAnd_inv {a b : Option Bool} {k : Bool} (h : tAndB a b = some k) : ∃ x y, a = some x ∧ b = some y ∧ k = (x && y) := by
  unfold tAndB at h
  split at h
  · cases h; exact ⟨_, _, rfl, rfl, rfl⟩
  · cases h
theorem kIdx_inv {a b : Option Kd} {k : Kd} (h : kIdx a b = some k) : ∃ x y, a = some x ∧ b = some y ∧ (x.stb || y.nor) = true ∧ k = ⟨false, x.stb, false, x.nor && y.nor⟩ := by
  unfold kIdx at h
  split at h
  · split at h
    · cases h; exact ⟨_, _, rfl, rfl, ‹_›, rfl⟩
    · cases h
  · cases h
theorem kSl_inv {a : Option Kd} {b c : Option Bool} {k : Kd} (h : kSl a b c = some k) : ∃ x n1 n2, a = some x ∧ b = some n1 ∧ c = some n2 ∧ (x.stb || (n1 && n2)) = true ∧ k = ⟨false, x.stb, true, x.nor && (n1 && n2)⟩ := by
  unfold kSl at h
  split at h
  · split at h
    · cases h; exact ⟨_, _, _, rfl, rfl, rfl, ‹_›, rfl⟩
    · cases h
  · cases h
theorem kIf_inv {c : Option Bool} {a b : Option Kd} {k : Kd} (h : kIf c a b = some k) : ∃ m x y, c = some m ∧ a = some x ∧ b = some y ∧ k = ⟨x.own && y.own && m, x.stb && y.stb, x.top && y.top, m && x.nor && y.nor⟩ := by
  unfold kIf at h
  split at h
  · cases h; exact ⟨_, _, _, rfl, rfl, rfl, rfl⟩
  · cases h
theorem kCons_inv {a : Option Kd} {b : Option Ka} {k : Ka} (h : kCons a b = some k) : ∃ x y, a = some x ∧ b = some y ∧ (x.stb || y.nor) = true ∧ k = ⟨x.own && y.own, x.stb && y.stb, x.nor && y.nor, y.len + 1⟩ := by
  unfold kCons at h
  split at h
  · split at h
    · cases h; exact ⟨_, _, rfl, rfl, ‹_›, rfl⟩
    · cases h
  · cases h
theorem kComp_inv {stb nI nc : Bool} {k kd : Kd} (h : kComp stb nI nc k = some kd) : (k.stb || (nc && k.nor)) = true ∧ (stb || (nc && k.nor)) = true ∧ kd = ⟨k.own, k.stb, true, nI && (nc && k.nor)⟩ := by
  unfold kComp at h
  split at h
  · rename_i e
    obtain ⟨e1, e2⟩ := Bool.and_eq_true_iff.mp e
    cases h; exact ⟨e1, e2, rfl⟩
  · cases h
theorem ite_some {α : Type} {c : Bool} {a b : α} (h : (if c = true then some a else none) = some b) : c = true ∧ a = b := by
  by_cases e : c = true
  · rw [if_pos e] at h; cases h; exact ⟨e, rfl⟩
  · rw [if_neg e] at h; cases h
theorem tk0 {X : Cx} : Takes X (fun _ _ _ _ => False) := fun _ _ x => by
  obtain ⟨_, _, _, _, _, _, _, _, _, _, _, _, _, _, _, _, z⟩ := x
  exact z.elim
def RowChk (C : Calls) (X : Cx) (R : Fr0) (W : WXX) (es : Es) (xs : List Expr) (r : Ka) : Prop :=
  PA X xs (rdA R W r.own r.stb r.nor (evalEs C es)) ∧ ∀ env q, evalEs C es env = .ok q → q.1.length = xs.length
theorem ownP_snd {Γ : Gam} {own : List Nat} : (ownP Γ own).map (·.2) = own := by
  unfold ownP
  rw [List.map_map]
  exact List.map_id' _
theorem OkX.blk {Γ : Gam} {n : Nat} {C : Calls} {X : Cx} {R : Fr0} {W : WXX} (o : OkX Γ n C X R W) (D : Addr) (s : Shared) (H : Hp) (cc : Addr) (cl : List (Str × Addr)) (fp : List Addr) (scope : Scope) : OkX (Γ.blk scope) n C (X.blk s H scope (compEnvC scope cl cc X.env) fp) (R.hide D) (fun _ _ _ _ => False) where
  N := o.N
  nd := o.nd
  sc := by
    show relabel scope X.env = relabelS scope Γ.sc
    rw [← o.sc]; rfl
  fn := fun x h => h
  calm := o.calm
  K := o.K
  ms := o.ms
  br := o.br
  pin := o.pin
  gu := o.gu
  room := o.room
  tk := tk0
  blt := o.blt
  cs := o.cs
  call := o.call
mutual
theorem chk_ok (C : Calls) : ∀ (a : E) {Γ : Gam} {n : Nat} {X : Cx} {R : Fr0} {W : WXX} (_ : OkX Γ n C X R W) (x : Expr), ChkOk C X R W a x (chk Γ a x)
  | .c p, Γ, n, X, R, W, o, x => by
    refine dfl_ok o fun kd h => ?_
    split at h
    · rename_i w e
      obtain ⟨j, ps, rfl⟩ := asC_eq e
      split at h
      · rename_i q e2
        split at h
        · rename_i f
          cases h
          rw [flatEq_eq f]
          exact ev_c' e2
        · cases h
      · cases h
    · cases h
  | .g y p, Γ, n, X, R, W, o, x => by
    refine dfl_ok o fun kd h => ?_
    split at h
    · rename_i z e
      obtain ⟨ps, rfl⟩ := asN_eq e
      obtain ⟨f, rfl⟩ := ite_some h
      simp only [Bool.and_eq_true, decide_eq_true_eq] at f
      obtain ⟨⟨rfl, f2⟩, f3⟩ := f
      split at f3
      · rename_i q e3
        obtain ⟨g1, g2, g3⟩ := o.gl f2
        have pq := flatEq_eq f3
        subst pq
        obtain ⟨u, hu, ru⟩ := o.cs y p e3 (flat_lf f3)
        exact ev_g g1 hu ru (rep_vOf f3) g2
      · cases f3
    · cases h
  | .fn _, Γ, n, X, R, W, o, x => none_ok
  | .v i, Γ, n, X, R, W, o, x => by
    refine dfl_ok o fun kd h => ?_
    split at h
    · rename_i z e
      obtain ⟨ps, rfl⟩ := asN_eq e
      split at h
      · rename_i f
        cases h
        obtain ⟨f1, f2⟩ := Bool.and_eq_true_iff.mp f
        obtain ⟨v1, v2, v3, v4⟩ := o.vis f1
        exact ev_v v1 v2 (vN o (of_decide_eq_true f2)) v3 v4
      · cases h
    · cases h
  | .m i, Γ, n, X, R, W, o, x => by
    refine dfl_ok o fun kd h => ?_
    split at h
    · rename_i z e
      obtain ⟨ps, rfl⟩ := asN_eq e
      split at h
      · rename_i f
        cases h
        obtain ⟨v1, v2, v3, v4⟩ := o.vis f
        exact ev_m v1 v2 v3 v4
      · cases h
    · cases h
  | .mv i, Γ, n, X, R, W, o, x => by
    refine dfl_ok o fun kd h => ?_
    split at h
    · rename_i z e
      obtain ⟨ps, rfl⟩ := asN_eq e
      split at h
      · rename_i f
        cases h
        simp only [Bool.and_eq_true, Bool.or_eq_true, decide_eq_true_eq, Bool.not_eq_true'] at f
        obtain ⟨⟨f1, f2⟩, f3⟩ := f
        obtain ⟨v1, v2, v3, v4⟩ := o.vis f1
        exact ev_mv v1 v2 (vNy o f2) (f3.imp id fun z => by rw [o.br]; exact z) v3 v4
      · cases h
    · cases h
  | .chk e, Γ, n, X, R, W, o, x => by
    refine dfl_ok o fun kd h => ?_
    obtain ⟨k, hk, rfl⟩ := map_some h
    exact ev_chk ((chk_ok C e o x).1 k hk)
  | .chk1 e, Γ, n, X, R, W, o, x => by
    refine dfl_ok o fun kd h => ?_
    split at h
    · rename_i k hk
      split at h
      · rename_i ht
        cases h
        exact ev_chk1 ht ((chk_ok C e o x).1 k hk)
      · cases h
    · cases h
  | .bin op a b, Γ, n, X, R, W, o, x => by
    refine dfl_ok o fun kd h => ?_
    split at h
    · rename_i y op' z e
      obtain ⟨ps, rfl⟩ := asBin_eq e
      split at h
      · rename_i f
        obtain ⟨f1, f2⟩ := Bool.and_eq_true_iff.mp f
        obtain rfl := of_decide_eq_true f1
        obtain ⟨k1, k2, h1, h2, hc, rfl⟩ := kBin_inv h
        exact ev_bin (bin_op o.K f2) ((chk_ok C a o y).1 k1 h1) ((chk_ok C b o z).1 k2 h2) hc
      · cases h
    · cases h
  | .neg a, Γ, n, X, R, W, o, x => by
    refine dfl_ok o fun kd h => ?_
    split at h
    · rename_i y e
      obtain ⟨ps, rfl⟩ := asUn_eq e
      obtain ⟨k, hk, rfl⟩ := map_some h
      exact ev_neg ((chk_ok C a o y).1 k hk)
    · cases h
  | .not a, Γ, n, X, R, W, o, x => by
    unfold chk
    split
    · rename_i y e
      obtain ⟨ps, rfl⟩ := asUn_eq e
      refine ⟨fun kd h => ?_, fun m h => ⟨ev_notT ((chk_ok C a o y).2 m h).1, fun op es p ex => (nomatch ex)⟩⟩
      obtain ⟨k, hk, rfl⟩ := map_some h
      exact ev_not o.K ((chk_ok C a o y).1 k hk)
    · exact none_ok
  | .and a b, Γ, n, X, R, W, o, x => by
    unfold chk
    split
    · rename_i y z p e
      have ex := asBool_eq e
      subst ex
      refine ⟨fun kd h => ?_, fun m h => ?_⟩
      · obtain ⟨k1, k2, h1, h2, rfl⟩ := kAnd_inv h
        exact ev_and o.K ((chk_ok C a o y).1 k1 h1) (pe_one ((chk_ok C b o z).1 k2 h2))
      · obtain ⟨m1, m2, h1, h2, rfl⟩ := tAnd_inv h
        have w := ev_andW ((chk_ok C a o y).2 m1 h1).1 (pw_and1 (pos := p) ((chk_ok C b o z).2 m2 h2).1)
        exact ⟨w.pt, fun op es p' ex => by cases ex; exact w⟩
    · rename_i y z r rs p e
      have ex := asBool_eq e
      subst ex
      refine ⟨fun kd h => ?_, fun m h => ?_⟩
      · obtain ⟨k1, k2, h1, h2, rfl⟩ := kAnd_inv h
        exact ev_and o.K ((chk_ok C a o y).1 k1 h1) ((chk_ok C b o _).1 k2 h2)
      · obtain ⟨m1, m2, h1, h2, rfl⟩ := tAnd_inv h
        have w := ev_andW ((chk_ok C a o y).2 m1 h1).1 (((chk_ok C b o _).2 m2 h2).2 _ _ _ rfl)
        exact ⟨w.pt, fun op es p' ex => by cases ex; exact w⟩
    · exact none_ok
  | .or a b, Γ, n, X, R, W, o, x => by
    unfold chk
    split
    · rename_i y z p e
      have ex := asBool_eq e
      subst ex
      refine ⟨fun kd h => ?_, fun m h => ?_⟩
      · obtain ⟨k1, k2, h1, h2, rfl⟩ := kAnd_inv h
        exact ev_or o.K ((chk_ok C a o y).1 k1 h1) (pe_one ((chk_ok C b o z).1 k2 h2))
      · obtain ⟨m1, m2, h1, h2, rfl⟩ := tAnd_inv h
        have w := ev_orW ((chk_ok C a o y).2 m1 h1).1 (pw_or1 (pos := p) ((chk_ok C b o z).2 m2 h2).1)
        exact ⟨w.pt, fun op es p' ex => by cases ex; exact w⟩
    · rename_i y z r rs p e
      have ex := asBool_eq e
      subst ex
      refine ⟨fun kd h => ?_, fun m h => ?_⟩
      · obtain ⟨k1, k2, h1, h2, rfl⟩ := kAnd_inv h
        exact ev_or o.K ((chk_ok C a o y).1 k1 h1) ((chk_ok C b o _).1 k2 h2)
      · obtain ⟨m1, m2, h1, h2, rfl⟩ := tAnd_inv h
        have w := ev_orW ((chk_ok C a o y).2 m1 h1).1 (((chk_ok C b o _).2 m2 h2).2 _ _ _ rfl)
        exact ⟨w.pt, fun op es p' ex => by cases ex; exact w⟩
    · exact none_ok
  | .cmp op a b, Γ, n, X, R, W, o, x => by
    unfold chk
    split
    · rename_i y op' z e
      obtain ⟨ps, rfl⟩ := asCmp_eq e
      split
      · rename_i f
        simp only [Bool.and_eq_true, decide_eq_true_eq, beq_iff_eq] at f
        obtain ⟨rfl, f2⟩ := f
        have u := o.units
        refine ⟨fun kd h => ?_, fun m h => ?_⟩
        · obtain ⟨k1, k2, h1, h2, hc, rfl⟩ := kCmp_inv h
          exact ev_cmp o.K (by omega) ((chk_ok C a o y).1 k1 h1) ((chk_ok C b o z).1 k2 h2) hc f2
        · obtain ⟨k, hk, rfl⟩ := map_some h
          obtain ⟨k1, k2, h1, h2, hc, rfl⟩ := kCmp_inv hk
          exact ⟨ev_cmpT o.K (by omega) ((chk_ok C a o y).1 k1 h1) ((chk_ok C b o z).1 k2 h2) hc f2, fun op es p ex => (nomatch ex)⟩
      · exact none_ok
    · exact none_ok
  | .cmp2 o1 o2 a b c, Γ, n, X, R, W, o, x => by
    unfold chk
    split
    · rename_i y p1 p2 z t e
      obtain ⟨ps, rfl⟩ := asCmp2_eq e
      split
      · rename_i f
        simp only [Bool.and_eq_true, decide_eq_true_eq, beq_iff_eq] at f
        obtain ⟨⟨rfl, rfl⟩, f2⟩ := f
        have u := o.units
        refine ⟨fun kd h => ?_, fun m h => ?_⟩
        · obtain ⟨k1, k2, k3, h1, h2, h3, hc, hd, rfl⟩ := kCmp2_inv h
          exact ev_cmp2 o.K (by omega) ((chk_ok C a o y).1 k1 h1) ((chk_ok C b o z).1 k2 h2) ((chk_ok C c o t).1 k3 h3) hc hd f2
        · obtain ⟨k, hk, rfl⟩ := map_some h
          obtain ⟨k1, k2, k3, h1, h2, h3, hc, hd, rfl⟩ := kCmp2_inv hk
          exact ⟨ev_cmp2T o.K (by omega) ((chk_ok C a o y).1 k1 h1) ((chk_ok C b o z).1 k2 h2) ((chk_ok C c o t).1 k3 h3) hc hd f2, fun op es p ex => (nomatch ex)⟩
      · exact none_ok
    · exact none_ok
  | .ife c a b, Γ, n, X, R, W, o, x => by
    unfold chk
    split
    · rename_i y z t e
      obtain ⟨ps, rfl⟩ := asIf_eq e
      refine ⟨fun kd h => ?_, fun m h => (nomatch h)⟩
      obtain ⟨m, k1, k2, h1, h2, h3, rfl⟩ := kIf_inv h
      exact ev_ife ((chk_ok C c o y).2 m h1).1 ((chk_ok C a o z).1 k1 h2) ((chk_ok C b o t).1 k2 h3)
    · exact none_ok
  | .call k es, Γ, n, X, R, W, o, x => by
    refine dfl_ok o fun kd h => ?_
    split at h
    · rename_i y xs e
      obtain ⟨p, q, rfl⟩ := asCall_eq e
      split at h
      · rename_i sg es'
        split at h
        · rename_i f
          simp only [Bool.and_eq_true, decide_eq_true_eq, Bool.not_eq_true'] at f
          obtain ⟨⟨⟨rfl, f2⟩, f3⟩, f4⟩ := f
          obtain ⟨r, hr, rfl⟩ := map_some h
          obtain ⟨g1, g2, g3⟩ := o.gl f2
          obtain ⟨⟨fd, pp, c1, c2, c3, c4⟩, c5⟩ := o.call k sg es'
          rw [f3] at c4
          obtain ⟨ra, rl⟩ := chks_ok C es o xs r hr
          cases xs with
          | nil =>
            cases es with
            | nil =>
              simp only [chks] at hr
              cases hr
              have := ev_call0 c5 c4 o.room o.gu g1 c1 c2 c3 o.tk (p := p) (pos := q) g2
              rw [show (sg.fresh || true) = true from Bool.or_true _]
              exact this
            | cons e es => simp [chks] at hr
          | cons x xs =>
            have f4' : noStar x = true ∧ xs.all noStar = true := by simpa using f4
            exact ev_call c5 c4 o.room o.gu g1 c1 c2 c3 o.tk ra f4'.1 f4'.2 g2
        · cases h
      · cases h
    · cases h
  | .callr k i es, Γ, n, X, R, W, o, x => by
    refine dfl_ok o fun kd h => ?_
    split at h
    · rename_i y z xs e
      obtain ⟨p, q, rfl⟩ := asCall_eq e
      split at h
      · rename_i sg w es' ew
        obtain ⟨p2, rfl⟩ := asN_eq ew
        split at h
        · rename_i f
          simp only [Bool.and_eq_true, decide_eq_true_eq] at f
          obtain ⟨⟨⟨⟨⟨rfl, f2⟩, f3⟩, f4⟩, f5⟩, f6⟩ := f
          split at h
          · rename_i r hr
            split at h
            · rename_i hs
              cases h
              obtain ⟨g1, g2, g3⟩ := o.gl f2
              obtain ⟨⟨fd, pp, c1, c2, c3, c4⟩, c5⟩ := o.call k sg es'
              rw [f3] at c4
              obtain ⟨v1, v2, v3, v4⟩ := o.vis f5
              obtain ⟨ra, rl⟩ := chks_ok C es o xs r hr
              rw [hs] at ra
              exact ev_callr c5 (vNy o f6) c4 o.room o.gu g1 c1 c2 c3 o.tk v1 v2 v3 v4 ra f4 g2
            · cases h
          · cases h
        · cases h
      · cases h
    · cases h
  | .callv _ _, Γ, n, X, R, W, o, x => none_ok
  | .blt b es, Γ, n, X, R, W, o, x => by
    refine dfl_ok o fun kd h => ?_
    split at h
    · rename_i y xs e
      obtain ⟨p, q, rfl⟩ := asCall_eq e
      split at h
      · rename_i f
        simp only [Bool.and_eq_true, decide_eq_true_eq, Bool.not_eq_true'] at f
        obtain ⟨⟨⟨rfl, f2⟩, f3⟩, f4⟩ := f
        obtain ⟨r, hr, rfl⟩ := map_some h
        obtain ⟨g1, g2, g3⟩ := o.gl f2
        obtain ⟨ra, rl⟩ := chks_ok C es o xs r hr
        cases xs with
        | nil => cases f4
        | cons x xs =>
          rcases blt_of o b with ⟨id, b1, b2⟩ | ⟨id, b1, b2⟩
          · exact ev_bltB b2 g1 (o.blt _ (bltN_mem b)) b1 f3 ra g3 g2
          · exact ev_bltT b2 g1 (o.blt _ (bltN_mem b)) b1 f3 ra g3 g2
      · cases h
    · cases h
  | .mth _ _ _, Γ, n, X, R, W, o, x => none_ok
  | .isi a t, Γ, n, X, R, W, o, x => by
    refine dfl_ok o fun kd h => ?_
    split at h
    · rename_i y z u e
      obtain ⟨p, q, rfl⟩ := asCall_eq e
      split at h
      · rename_i w ew
        obtain ⟨p2, rfl⟩ := asN_eq ew
        split at h
        · rename_i f
          simp only [Bool.and_eq_true, decide_eq_true_eq] at f
          obtain ⟨⟨⟨⟨⟨rfl, f2⟩, rfl⟩, f4⟩, f5⟩, f6⟩ := f
          obtain ⟨k, hk, rfl⟩ := map_some h
          obtain ⟨m, hm⟩ := Option.isSome_iff_exists.mp f5
          obtain ⟨t1, t2⟩ := ty_of hm
          obtain ⟨g1, g2, g3⟩ := o.gl f2
          obtain ⟨j1, j2, j3⟩ := o.gl f4
          exact ev_isi o.K g1 (o.blt _ (show ("isinstance" : Str) ∈ bltNames by decide +kernel)) (by with_unfolding_all rfl) g3 g2 j1 (o.blt _ t1) t2 j3 j2 hm f6 ((chk_ok C a o z).1 k hk)
        · cases h
      · cases h
    · cases h
  | .attr _, Γ, n, X, R, W, o, x => none_ok
  | .tup es, Γ, n, X, R, W, o, x => by
    refine dfl_ok o fun kd h => ?_
    split at h
    · rename_i xs e
      obtain ⟨k, p, rfl⟩ := asTup_eq e
      split at h
      · rename_i f
        obtain ⟨r, hr, rfl⟩ := map_some h
        obtain ⟨ra, rl⟩ := chks_ok C es o xs r hr
        have f := of_decide_eq_true f
        exact ev_tup ra fun env q e => by rw [rl env q e]; exact Nat.le_trans f (by decide)
      · cases h
    · cases h
  | .lst es, Γ, n, X, R, W, o, x => by
    refine dfl_ok o fun kd h => ?_
    split at h
    · rename_i xs e
      obtain ⟨p, rfl⟩ := asLst_eq e
      split at h
      · rename_i f
        obtain ⟨r, hr, rfl⟩ := map_some h
        obtain ⟨ra, rl⟩ := chks_ok C es o xs r hr
        have f := of_decide_eq_true f
        exact ev_lst ra fun env q e => by rw [rl env q e]; exact Nat.le_trans f (by decide)
      · cases h
    · cases h
  | .idx a i, Γ, n, X, R, W, o, x => by
    refine dfl_ok o fun kd h => ?_
    split at h
    · rename_i y z e
      obtain ⟨p, rfl⟩ := asSub_eq e
      split at h
      · rename_i f
        obtain ⟨k1, k2, h1, h2, hc, rfl⟩ := kIdx_inv h
        exact ev_idx o.K ((chk_ok C a o y).1 k1 h1) ((chk_ok C i o z).1 k2 h2) hc (by simpa using f)
      · cases h
    · cases h
  | .sl a lo hi, Γ, n, X, R, W, o, x => by
    refine dfl_ok o fun kd h => ?_
    split at h
    · rename_i y l u e
      obtain ⟨p, q, rfl⟩ := asSl_eq e
      obtain ⟨k1, n1, n2, h1, h2, h3, hc, rfl⟩ := kSl_inv h
      exact ev_sl o.K ((chk_ok C a o y).1 k1 h1) (chko_ok C lo o l n1 h2) (chko_ok C hi o u n2 h3) hc
    · cases h
  | .rev a, Γ, n, X, R, W, o, x => by
    refine dfl_ok o fun kd h => ?_
    split at h
    · rename_i y e
      obtain ⟨k, p1, p2, p3, q, rfl⟩ := asRev_eq e
      obtain ⟨kk, hk, rfl⟩ := map_some h
      exact ev_rev o.K ((chk_ok C a o y).1 kk hk)
    · cases h
  | .comp own tg it c e, Γ, n, X, R, W, o, x => by
    refine dfl_ok o fun kd h => ?_
    split at h
    · rename_i elt tgE iter ifs sc ex
      obtain ⟨p, rfl⟩ := asComp_eq ex
      split at h
      · rename_i f
        simp only [Bool.and_eq_true, List.all_eq_true, decide_eq_true_eq] at f
        obtain ⟨⟨⟨⟨f1, f2⟩, f3⟩, f4⟩, f5⟩ := f
        split at h
        · rename_i stb nI nc k h1 h2 h3
          obtain ⟨c1, c2, rfl⟩ := kComp_inv h
          have hb : BlkOk X.N X.env.scope sc (ownP Γ own) := blkOk_by (by rw [o.N, o.sc]; exact f1)
          have := ev_comp (X := X) (R := R) (W := W) (WF := fun _ _ _ _ => False) (elt := elt) (tgE := tgE) (iter := iter) (ifs := ifs) (scope := sc) (ownP := ownP Γ own) (pos := p) (tg := tg) (kde := k) (nc := nc) (nI := nI) (stb := stb) (evI := evalI C it) (evC := evalC C c) (evE := evalE C e)
            o.calm o.nd (chki_ok C it o tgE iter _ h1) hb (fun i hi => vN o (by rw [ownP_snd] at hi; exact f2 i hi)) (fun i hi => by rw [ownP_snd]; exact f3 i hi) c1 c2
            (fun D s H cc cl fp => (chkG_ok (o.blk D s H cc cl fp sc) tg tgE f5).1) (fun D s H cc cl fp => chkc_ok C c (o.blk D s H cc cl fp sc) ifs nc h2) (fun D s H cc cl fp => (chk_ok C e (o.blk D s H cc cl fp sc) elt).1 k h3) f4
          rw [ownP_snd] at this
          exact this
        · cases h
      · cases h
    · cases h
theorem chks_ok (C : Calls) : ∀ (es : Es) {Γ : Gam} {n : Nat} {X : Cx} {R : Fr0} {W : WXX} (_ : OkX Γ n C X R W) (xs : List Expr) (r : Ka), chks Γ es xs = some r → RowChk C X R W es xs r
  | .nil, Γ, n, X, R, W, o, [], r, h => by
    simp only [chks] at h
    cases h
    exact ⟨ev_anil, fun env q e => by cases e; rfl⟩
  | .nil, Γ, n, X, R, W, o, x :: xs, r, h => by simp [chks] at h
  | .cons e es, Γ, n, X, R, W, o, [], r, h => by simp [chks] at h
  | .cons e es, Γ, n, X, R, W, o, x :: xs, r, h => by
    simp only [chks] at h
    split at h
    · rename_i f
      obtain ⟨k, r2, h1, h2, hc, rfl⟩ := kCons_inv h
      obtain ⟨ra, rl⟩ := chks_ok C es o xs r2 h2
      refine ⟨ev_acons f ((chk_ok C e o x).1 k h1) ra hc, fun env q eq => ?_⟩
      obtain ⟨a, e1, e2⟩ := Res.bind_ok eq
      obtain ⟨b, e3, e4⟩ := Res.bind_ok e2
      cases e4
      simp [rl _ _ e3]
    · cases h
theorem chko_ok (C : Calls) : ∀ (e : OE) {Γ : Gam} {n : Nat} {X : Cx} {R : Fr0} {W : WXX} (_ : OkX Γ n C X R W) (x : Option Expr) (m : Bool), chko Γ e x = some m → PO X x (rdO R W m (evalO C e))
  | .no, Γ, n, X, R, W, o, none, m, h => by
    simp only [chko] at h
    cases h
    exact ev_no
  | .no, Γ, n, X, R, W, o, some _, m, h => by simp [chko] at h
  | .so e, Γ, n, X, R, W, o, none, m, h => by simp [chko] at h
  | .so e, Γ, n, X, R, W, o, some x, m, h => by
    simp only [chko] at h
    obtain ⟨k, hk, rfl⟩ := map_some h
    exact ev_so ((chk_ok C e o x).1 k hk)
theorem chkc_ok (C : Calls) : ∀ (e : OE) {Γ : Gam} {n : Nat} {X : Cx} {R : Fr0} {W : WXX} (_ : OkX Γ n C X R W) (x : List Expr) (m : Bool), chkc Γ e x = some m → PTs X x (rdC R m (evalC C e))
  | .no, Γ, n, X, R, W, o, [], m, h => by
    simp only [chkc] at h
    cases h
    exact evc_no
  | .no, Γ, n, X, R, W, o, _ :: _, m, h => by simp [chkc] at h
  | .so e, Γ, n, X, R, W, o, [], m, h => by simp [chkc] at h
  | .so e, Γ, n, X, R, W, o, [y], m, h => by
    simp only [chkc] at h
    exact evc_so ((chk_ok C e o y).2 m h).1
  | .so e, Γ, n, X, R, W, o, _ :: _ :: _, m, h => by simp [chkc] at h
theorem chki_ok (C : Calls) : ∀ (it : It) {Γ : Gam} {n : Nat} {X : Cx} {R : Fr0} {W : WXX} (_ : OkX Γ n C X R W) (tg x : Expr) (m : Bool × Bool), chki Γ it tg x = some m → PI X tg x (rdI R W m.1 m.2 (evalI C it))
  | .e a, Γ, n, X, R, W, o, tg, x, m, h => by
    simp only [chki] at h
    split at h
    · rename_i k hk
      split at h
      · rename_i hs
        cases h
        exact evi_e o.K ((chk_ok C a o x).1 k hk) hs
      · cases h
    · cases h
  | .m a, Γ, n, X, R, W, o, tg, x, m, h => by
    simp only [chki] at h
    obtain ⟨k, hk, rfl⟩ := map_some h
    exact evi_m o.K ((chk_ok C a o x).1 k hk)
  | .rng es, Γ, n, X, R, W, o, tg, x, m, h => by
    simp only [chki] at h
    split at h
    · rename_i y xs e
      obtain ⟨p, q, rfl⟩ := asCall_eq e
      split at h
      · rename_i f
        simp only [Bool.and_eq_true, Bool.or_eq_true, decide_eq_true_eq] at f
        obtain ⟨⟨⟨rfl, f2⟩, f3⟩, f4⟩ := f
        obtain ⟨r, hr, rfl⟩ := map_some h
        obtain ⟨g1, g2, g3⟩ := o.gl f2
        obtain ⟨ra, rl⟩ := chks_ok C es o xs r hr
        have hb := o.blt "range" (by decide +kernel)
        match xs, f3, f4, ra, rl with
        | [a], f3, _, ra, rl => exact evi_rng1 g1 hb ra (fun env q e => rl env q e) (by simpa using f3)
        | [a, b], f3, _, ra, rl =>
          have f3' : noStar a = true ∧ noStar b = true := by simpa using f3
          exact evi_rng2 g1 hb ra (fun env q e => rl env q e) f3'.1 f3'.2
        | [], _, f4, _, _ => simp at f4
        | _ :: _ :: _ :: _, _, f4, _, _ => simp at f4
      · cases h
    · cases h
  | .enum _, Γ, n, X, R, W, o, tg, x, m, h => by simp [chki] at h
  | .zip es, Γ, n, X, R, W, o, tg, x, m, h => by
    simp only [chki] at h
    split at h
    · rename_i y xs ts e e2
      obtain ⟨p, q, rfl⟩ := asCall_eq e
      obtain ⟨k, p2, rfl⟩ := asTup_eq e2
      split at h
      · rename_i f
        simp only [Bool.and_eq_true, decide_eq_true_eq] at f
        obtain ⟨⟨⟨rfl, f2⟩, f3⟩, f4⟩ := f
        split at h
        · rename_i r hr
          split at h
          · rename_i hs
            cases h
            obtain ⟨g1, g2, g3⟩ := o.gl f2
            obtain ⟨ra, rl⟩ := chks_ok C es o xs r hr
            rw [hs] at ra
            have hb := o.blt "zip" (by decide +kernel)
            match xs, f3, f4, ra with
            | [a, b], f3, _, ra =>
              have f3' : noStar a = true ∧ noStar b = true := by simpa using f3
              exact evi_zip o.K g1 hb ra f3'.1 f3'.2
            | [], _, f4, _ => simp at f4
            | [_], _, f4, _ => simp at f4
            | _ :: _ :: _ :: _, _, f4, _ => simp at f4
          · cases h
        · cases h
      · cases h
    · cases h
end
end Ev

/-! EvC3: the checker on statements. -/
namespace Ev
open PySem PySem.Spec PyProof.Rows L2
theorem bk_fun {env : PySem.Env} (h : env.scope.kind = .function) : (env.blockKind == .function) = true := by
  unfold Env.blockKind
  rw [h]; rfl
theorem sw2 {env : PySem.Env} {x y : Str} {a b : Expr} {px py pt pt2 : Pos} {kt k2 : Nat} (hk : env.scope.kind = .function) (hx : env.scope.names.lookup x = some .local) (hy : env.scope.names.lookup y = some .local) (hl : (py.line == px.line) = true) (hne : (y == x) = false)
    (ha : noStar a = true) (hb : noStar b = true) (hf : (foldedForSure 8 a && foldedForSure 8 b) = false) (hc : (constantsAlone 8 a && constantsAlone 8 b) = false) :
    swappedStores [.Tuple [.Name x px, .Name y py] kt pt] (.Tuple [a, b] k2 pt2) env = pure (some [x, y]) := by
  have kx : (env.kindOf x == some NameKind.local) = true := by
    show (env.scope.names.lookup x == some NameKind.local) = true
    rw [hx]; rfl
  have ky : (env.kindOf y == some NameKind.local) = true := by
    show (env.scope.names.lookup y == some NameKind.local) = true
    rw [hy]; rfl
  have sa : ∀ c : Expr, noStar c = true → (match c with | .Starred .. => true | _ => false) = false := fun c h => by
    cases c <;> first | rfl | cases h
  have hbk := bk_fun hk
  unfold swappedStores
  have e2 : ([a, b].any fun | .Starred .. => true | _ => false) = false := by
    simp only [List.any_cons, List.any_nil, sa a ha, sa b hb, Bool.or_self]
  have e3 : ([x, y].eraseDups).length = 2 := by
    simp [List.eraseDups, List.eraseDupsBy, List.eraseDupsBy.loop, hne]
  have e4 : ([a, b].all (foldedForSure 8)) = false := by simpa using hf
  have e5 : ([a, b].all (constantsAlone 8)) = false := by simpa using hc
  simp only [List.head?_cons, Option.map_some, Option.getD_some, Expr.pos, e2, e4, e5, hbk, List.filterMap_cons, List.filterMap_nil, kx, ky, hl, beq_self_eq_true, Bool.and_self, if_true, e3]
  simp [hbk, bne]
  intro h
  exfalso
  rcases h with h | h
  · split at h
    · simp [noStar] at ha
    · cases h
  · split at h
    · simp [noStar] at hb
    · cases h
theorem sw3 {env : PySem.Env} {x y z : Str} {a b c : Expr} {px py pz pt pt2 : Pos} {kt k2 : Nat} (hk : env.scope.kind = .function) (hx : env.scope.names.lookup x = some .local) (hy : env.scope.names.lookup y = some .local) (hz : env.scope.names.lookup z = some .local) (hl : (py.line == px.line) = true) (hl2 : (pz.line == px.line) = true)
    (hne : (y == x) = false) (hne2 : (z == x) = false) (hne3 : (z == y) = false)
    (ha : noStar a = true) (hb : noStar b = true) (hcc : noStar c = true) (hf : (foldedForSure 8 a && (foldedForSure 8 b && foldedForSure 8 c)) = false) (hc : (constantsAlone 8 a && (constantsAlone 8 b && constantsAlone 8 c)) = false) :
    swappedStores [.Tuple [.Name x px, .Name y py, .Name z pz] kt pt] (.Tuple [a, b, c] k2 pt2) env = pure (some [x, y, z]) := by
  have kx : (env.kindOf x == some NameKind.local) = true := by
    show (env.scope.names.lookup x == some NameKind.local) = true
    rw [hx]; rfl
  have ky : (env.kindOf y == some NameKind.local) = true := by
    show (env.scope.names.lookup y == some NameKind.local) = true
    rw [hy]; rfl
  have kz : (env.kindOf z == some NameKind.local) = true := by
    show (env.scope.names.lookup z == some NameKind.local) = true
    rw [hz]; rfl
  have hbk := bk_fun hk
  unfold swappedStores
  have e3 : ([x, y, z].eraseDups).length = 3 := by
    simp [List.eraseDups, List.eraseDupsBy, List.eraseDupsBy.loop, hne, hne2, hne3]
  have e4 : ([a, b, c].all (foldedForSure 8)) = false := by simpa using hf
  have e5 : ([a, b, c].all (constantsAlone 8)) = false := by simpa using hc
  simp only [List.head?_cons, Option.map_some, Option.getD_some, Expr.pos, e4, e5, hbk, List.filterMap_cons, List.filterMap_nil, kx, ky, kz, hl, hl2, beq_self_eq_true, Bool.and_self, if_true, e3]
  simp [hbk, bne]
  intro h
  exfalso
  rcases h with h | h | h
  · split at h
    · simp [noStar] at ha
    · cases h
  · split at h
    · simp [noStar] at hb
    · cases h
  · split at h
    · simp [noStar] at hcc
    · cases h
/-- no stores from the right -/
theorem sw0 {tg v : Expr} {env : PySem.Env} (h : (asTup v).isSome = false) : swappedStores [tg] v env = pure none := by
  unfold swappedStores
  cases v <;> first | (simp [asTup] at h; done) | (cases tg <;> rfl)
theorem swL {ts vs : List Expr} {k k2 : Nat} {p p2 : Pos} {env : PySem.Env} (h : (vs.length == ts.length && (ts.length == 2 || ts.length == 3)) = false) : swappedStores [.Tuple ts k p] (.Tuple vs k2 p2) env = pure none := by
  unfold swappedStores
  have e : (!(ts.length == 2 || ts.length == 3) || vs.length != ts.length || env.blockKind != .function) = true := by
    cases h1 : (ts.length == 2 || ts.length == 3) <;> cases h2 : (vs.length == ts.length) <;> simp_all [bne]
  simp only [e, if_true]
/-- is a comprehension stored at once? -/
def swN (Γ : Gam) (v : Expr) (x : Str) (p : Pos) : Bool := match v with
  | .ListComp _ _ s vp => decide (Γ.sc.names.lookup x = some .local) && p.line == vp.line && !(s.names.any fun (n, k) => n == x && (k == .local || k == .cell))
  | _ => false
def lcOnly : Expr → Bool
  | .SetComp _ _ _ _ => false
  | .DictComp _ _ _ _ _ => false
  | _ => true
theorem sw_is {Γ : Gam} {v : Expr} {x : Str} {p : Pos} {l : Nat} {env : PySem.Env} (hs : env.scope = Γ.sc) (hk : Γ.sc.kind = .function) (h : lcOnly v = true) : swapsWith v (some (.Name x p)) l env = pure (swN Γ v x p) := by
  cases v with
  | SetComp => cases h
  | DictComp => cases h
  | ListComp e g s vp =>
    have hb := bk_fun (env := env) (by rw [hs]; exact hk)
    have hx : (env.kindOf x == some NameKind.local) = decide (Γ.sc.names.lookup x = some .local) := by
      show (env.scope.names.lookup x == some NameKind.local) = _
      rw [hs]
      cases Γ.sc.names.lookup x with
      | none => rfl
      | some k => cases k <;> rfl
    show (pure (env.blockKind == .function && env.kindOf x == some .local && p.line == vp.line && !(s.names.any fun (n, k) => n == x && (k == .local || k == .cell))) : Sem Bool) = _
    rw [hb, hx, Bool.true_and]
    rfl
  | _ => rfl
section
variable {Γ : Gam} {n : Nat} {C : Calls} {X : Cx} {R : Fr0} {W : WXX}
theorem comp_set (o : OkX Γ n C X R W) {own : List Nat} {tg : T} {it : It} {c : OE} {e : E} {v : Expr} {kd : Kd} (h : (chk Γ (.comp own tg it c e) v).1 = some kd) {i : Nat} {y : Str} {py spos : Pos} (hy : X.N[i]? = some y) (hyl : X.env.scope.names.lookup y = some .local)
    (hsw : swapsWith v (some (.Name y py)) spos.line X.env = pure true) : ∃ te, PS X (.Assign [.Name y py] v spos) (tAsg te (gName i)) ∧ ∀ σ H F env Q, EnvOk R σ H F env → okR R W kd σ H F env Q (evalE C (.comp own tg it c e) env) → te σ H Q := by
  unfold chk dfl at h
  dsimp only at h
  split at h
  · rename_i elt tgE iter ifs sc ex
    obtain ⟨p, rfl⟩ := asComp_eq ex
    split at h
    · rename_i f
      simp only [Bool.and_eq_true, List.all_eq_true, decide_eq_true_eq] at f
      obtain ⟨⟨⟨⟨f1, f2⟩, f3⟩, f4⟩, f5⟩ := f
      split at h
      · rename_i stb nI nc k h1 h2 h3
        obtain ⟨c1, c2, rfl⟩ := kComp_inv h
        have hb : BlkOk X.N X.env.scope sc (ownP Γ own) := blkOk_by (by rw [o.N, o.sc]; exact f1)
        have ps := ps_setLc (X := X) (elt := elt) (tg := tgE) (iter := iter) (ifs := ifs) (scope := sc) (own := ownP Γ own) (pos := p) (spos := spos) (py := py) o.calm o.nd hy hyl hsw (chki_ok C it o tgE iter _ h1) hb
          (fun s H cc cl fp => PG.any fun D => (chkG_ok (o.blk D s H cc cl fp sc) tg tgE f5).1) (fun s H cc cl fp => PTs.any fun D => chkc_ok C c (o.blk D s H cc cl fp sc) ifs nc h2) (fun s H cc cl fp => PE.any fun D => (chk_ok C e (o.blk D s H cc cl fp sc) elt).1 k h3) (fold_pure f4)
        refine ⟨_, ps, fun σ H F env Q ko hr => ?_⟩
        rw [ownP_snd]
        exact comp_law (WF := fun _ _ _ _ => False) (fun i hi => vN o (f2 i hi)) (fun i hi => f3 i hi) c1 c2 ko hr
      · cases h
    · cases h
  · cases h
end
end Ev

/-! EvC4: the checker on statements. -/
namespace Ev
open PySem PySem.Spec PyProof.Rows L2
def asAsg : Stmt → Option (Expr × Expr × Pos)
  | .Assign [tg] v p => some (tg, v, p)
  | _ => none
theorem asAsg_eq {s : Stmt} {r} (h : asAsg s = some r) : s = .Assign [r.1] r.2.1 r.2.2 := by
  unfold asAsg at h; split at h <;> cases h; rfl
def asNP : Expr → Option (Str × Pos)
  | .Name x p => some (x, p)
  | _ => none
theorem asNP_eq {x : Expr} {r} (h : asNP x = some r) : x = .Name r.1 r.2 := by
  unfold asNP at h; split at h <;> cases h; rfl
def asEx : Stmt → Option Expr
  | .Expr e _ => some e
  | _ => none
theorem asEx_eq {s : Stmt} {r} (h : asEx s = some r) : ∃ p, s = .Expr r p := by
  unfold asEx at h; split at h <;> cases h; exact ⟨_, rfl⟩
/-- x.append(e) -/
def asApp : Stmt → Option (Str × Expr)
  | .Expr (.Call (.Attribute (.Name x _) m ap) [e] [] cp) _ => if (decide (m = "append") && ap.endLine == cp.line) = true then some (x, e) else none
  | _ => none
theorem asApp_eq {s : Stmt} {r} (h : asApp s = some r) : ∃ p1 ap cp p, (ap.endLine == cp.line) = true ∧ s = .Expr (.Call (.Attribute (.Name r.1 p1) "append" ap) [r.2] [] cp) p := by
  unfold asApp at h
  split at h
  · rename_i x _ m ap e cp p
    obtain ⟨f, rfl⟩ := ite_some h
    obtain ⟨f1, f2⟩ := Bool.and_eq_true_iff.mp f
    obtain rfl := of_decide_eq_true f1
    exact ⟨_, _, _, _, f2, rfl⟩
  · cases h
def asAug : Stmt → Option (Str × Operator × Expr)
  | .AugAssign (.Name x _) op e _ => some (x, op, e)
  | _ => none
theorem asAug_eq {s : Stmt} {r} (h : asAug s = some r) : ∃ p q, s = .AugAssign (.Name r.1 p) r.2.1 r.2.2 q := by
  unfold asAug at h; split at h <;> cases h; exact ⟨_, _, rfl⟩
def asRet : Stmt → Option (Option Expr)
  | .Return e _ => some e
  | _ => none
theorem asRet_eq {s : Stmt} {r} (h : asRet s = some r) : ∃ p, s = .Return r p := by
  unfold asRet at h; split at h <;> cases h; exact ⟨_, rfl⟩
def asIfS : Stmt → Option (Expr × List Stmt × List Stmt)
  | .If c a b _ => some (c, a, b)
  | _ => none
theorem asIfS_eq {s : Stmt} {r} (h : asIfS s = some r) : ∃ p, s = .If r.1 r.2.1 r.2.2 p := by
  unfold asIfS at h; split at h <;> cases h; exact ⟨_, rfl⟩
def asFor : Stmt → Option (Expr × Expr × List Stmt)
  | .For tg it b [] _ => some (tg, it, b)
  | _ => none
theorem asFor_eq {s : Stmt} {r} (h : asFor s = some r) : ∃ p, s = .For r.1 r.2.1 r.2.2 [] p := by
  unfold asFor at h; split at h <;> cases h; exact ⟨_, rfl⟩
def asWhl : Stmt → Option (Expr × List Stmt)
  | .While c b [] _ => some (c, b)
  | _ => none
theorem asWhl_eq {s : Stmt} {r} (h : asWhl s = some r) : ∃ p, s = .While r.1 r.2 [] p := by
  unfold asWhl at h; split at h <;> cases h; exact ⟨_, rfl⟩
def isPass : Stmt → Bool
  | .Pass _ => true
  | _ => false
def isBrk : Stmt → Bool
  | .Break _ => true
  | _ => false
def isCont : Stmt → Bool
  | .Continue _ => true
  | _ => false
def isCompE : E → Bool
  | .comp _ _ _ _ _ => true
  | _ => false
def par2C (Γ : Gam) (i j : Nat) (es : Es) (tg v : Expr) : Bool := match tg, v with
  | .Tuple [.Name x px, .Name y py] _ _, .Tuple [a, b] _ _ => (match chks Γ es [a, b] with
    | some r => r.stb
    | none => false) && decide (Γ.sc.kind = .function) && decide (Γ.N[i]? = some x) && decide (Γ.N[j]? = some y) && decide (i ≠ j) && decide (i ∉ Γ.ms) && decide (j ∉ Γ.ms) && decide (Γ.sc.names.lookup x = some .local) && decide (Γ.sc.names.lookup y = some .local) &&
      (py.line == px.line) && (y == x) == false && noStar a && noStar b && (foldedForSure 8 a && foldedForSure 8 b) == false && (constantsAlone 8 a && constantsAlone 8 b) == false
  | _, _ => false
def par3C (Γ : Gam) (i j l : Nat) (es : Es) (tg v : Expr) : Bool := match tg, v with
  | .Tuple [.Name x px, .Name y py, .Name z pz] _ _, .Tuple [a, b, c] _ _ => (match chks Γ es [a, b, c] with
    | some r => r.stb
    | none => false) && decide (Γ.sc.kind = .function) && decide (Γ.N[i]? = some x) && decide (Γ.N[j]? = some y) && decide (Γ.N[l]? = some z) && decide (i ≠ j) && decide (i ≠ l) && decide (j ≠ l) && decide (i ∉ Γ.ms) && decide (j ∉ Γ.ms) && decide (l ∉ Γ.ms) &&
      decide (Γ.sc.names.lookup x = some .local) && decide (Γ.sc.names.lookup y = some .local) && decide (Γ.sc.names.lookup z = some .local) &&
      (py.line == px.line) && (pz.line == px.line) && (y == x) == false && (z == x) == false && (z == y) == false && noStar a && noStar b && noStar c && (foldedForSure 8 a && (foldedForSure 8 b && foldedForSure 8 c)) == false && (constantsAlone 8 a && (constantsAlone 8 b && constantsAlone 8 c)) == false
  | _, _ => false
/-- name = e -/
def asgN (Γ : Gam) (i : Nat) (e : E) (tg v : Expr) : Bool := match asNP tg with
  | some (x, p) => lcOnly v && decide (Γ.sc.kind = .function) && (if swN Γ v x p = true then decide (Γ.N[i]? = some x) && isCompE e else locB Γ i x)
  | none => false
def asgT (Γ : Gam) (t : T) (tg v : Expr) : Bool := chkG Γ t tg && !isComp v && (match asTup v, asTup tg with
  | none, _ => true
  | some vs, some ts => !(vs.length == ts.length && (ts.length == 2 || ts.length == 3))
  | _, _ => false)
def par (Γ : Gam) : T → E → Expr → Expr → Bool
  | .cons (.n i) (.cons (.n j) .nil), .tup es, tg, v => par2C Γ i j es tg v
  | .cons (.n i) (.cons (.n j) (.cons (.n l) .nil)), .tup es, tg, v => par3C Γ i j l es tg v
  | _, _, _, _ => false
def asg1 (Γ : Gam) : T → E → Expr → Expr → Bool
  | .n i, e, tg, v => decide (i ∉ Γ.ms) && asgN Γ i e tg v
  | t, _, tg, v => asgT Γ t tg v
mutual
def chkS (Γ : Gam) : S → Stmt → Bool
  | .asg t e, s => match asAsg s with
    | some (tg, v, _) => (match (chk Γ e v).1 with
      | some k => k.stb && asg1 Γ t e tg v
      | none => false) || par Γ t e tg v
    | none => false
  | .masg i e, s => match asAsg s with
    | some (tg, v, _) => match (chk Γ e v).1 with
      | some k => k.own && decide (i ∉ Γ.pins) && asgN Γ i e tg v
      | none => false
    | none => false
  | .aug i op e, s => match asAug s with
    | some (x, o, v) => decide (op = o) && locB Γ i x && decide (i ∉ Γ.ms) && (chk Γ e v).1.isSome
    | none => false
  | .app i e, s => match asApp s with
    | some (x, v) => visB Γ i x && decide (i ∈ Γ.ms) && noStar v && (match (chk Γ e v).1 with
      | some k => k.own
      | none => false)
    | none => false
  | .set i p e, s => match asAsg s with
    | some (tg, v, _) => match asSub tg with
      | some (y, z) => match asN y with
        | some x => visB Γ i x && decide (i ∈ Γ.ms) && plainIx z && !isComp v && (asTup v).isSome == false && (match (chk Γ e v).1, (chk Γ p z).1 with
          | some k1, some k2 => k1.own && k2.nor
          | _, _ => false)
        | none => false
      | none => false
    | none => false
  | .augs _ _ _ _, _ => false
  | .ex e, s => match asEx s with
    | some v => !isComp v && (chk Γ e v).1.isSome
    | none => false
  | .ret e, s => match asRet s with
    | some (some v) => match (chk Γ e v).1 with
      | some k => k.stb && (!Γ.fresh || k.own)
      | none => false
    | _ => false
  | .retn, s => match asRet s with
    | some none => true
    | _ => false
  | .ite c a b, s => match asIfS s with
    | some (x, y, z) => (chk Γ c x).2.isSome && chkSs Γ a y && chkSs Γ b z
    | none => false
  | .for t it b, s => match asFor s with
    | some (tg, i, y) => notSet i && chkG Γ t tg && (match chki Γ it tg i with
      | some r => r.1
      | none => false) && chkSs Γ b y
    | none => false
  | .form _ _ _, _ => false
  | .whl c b, s => match asWhl s with
    | some (x, y) => (chk Γ c x).2.isSome && chkSs Γ b y
    | none => false
  | .raise _ _, _ => false
  | .try _ _ _ _, _ => false
  | .brk, s => isBrk s
  | .cont, s => isCont s
  | .pass, s => isPass s
  | .bad, _ => true
def chkSs (Γ : Gam) : Ss → List Stmt → Bool
  | .nil, l => l.isEmpty
  | .cons s ss, l => match l with
    | x :: xs => chkS Γ s x && chkSs Γ ss xs
    | [] => false
end
section
variable {Γ : Gam} {n : Nat} {C : Calls} {X : Cx} {R : Fr0} {W : WXX} {Wf : Nat}
theorem locB_of {i : Nat} {x : Str} (h1 : Γ.N[i]? = some x) (h2 : Γ.sc.names.lookup x = some .local) : locB Γ i x = true := by
  unfold locB
  rw [h2, h1]; simp
theorem swN_local {v : Expr} {x : Str} {p : Pos} (h : swN Γ v x p = true) : Γ.sc.names.lookup x = some .local := by
  unfold swN at h
  split at h
  · simp only [Bool.and_eq_true, decide_eq_true_eq] at h
    exact h.1.1
  · cases h
/-- name = e: into a slot that owns nothing -/
theorem asgN_ok (o : OkX Γ n C X R W) {i : Nat} {e : E} {tg v : Expr} {pos : Pos} {k : Kd} (hm : i ∉ Γ.ms) (hk : (chk Γ e v).1 = some k) (hs : k.stb = true) (h : asgN Γ i e tg v = true) :
    PS X (.Assign [tg] v pos) (rdS R W Γ.fresh fun env => (evalE C e env).out fun r => (ofO (Ev.assign (.n i) r.1 r.2)).out fun en => .nx en) := by
  unfold asgN at h
  split at h
  · rename_i x p ex
    have ex := asNP_eq ex
    subst ex
    simp only [Bool.and_eq_true, decide_eq_true_eq] at h
    obtain ⟨⟨h1, h2⟩, h3⟩ := h
    have sw := sw_is (p := p) (x := x) (l := pos.line) o.sc h2 h1
    by_cases c : swN Γ v x p = true
    · rw [if_pos c] at h3
      rw [c] at sw
      obtain ⟨h5, h4⟩ := Bool.and_eq_true_iff.mp h3
      have h5 := of_decide_eq_true h5
      cases e with
      | comp own t it cc ee =>
        have hl := swN_local c
        obtain ⟨te, ps, hte⟩ := comp_set o hk (i := i) (y := x) (py := p) (spos := pos) (by rw [o.N]; exact h5) (by rw [o.sc]; exact hl) sw
        exact asg_of ps hte (vN o hm) hs
      | _ => cases h4
    · rw [if_neg c] at h3
      have c' : swN Γ v x p = false := by simpa using c
      rw [c'] at sw
      obtain ⟨l1, l2, l3⟩ := o.loc h3
      exact es_asgN o.nd l1 l2 l3 (vN o hm) ((chk_ok C e o v).1 k hk) hs sw
  · cases h
theorem masgN_ok (o : OkX Γ n C X R W) {i : Nat} {e : E} {tg v : Expr} {pos : Pos} {k : Kd} (hp : i ∉ Γ.pins) (hk : (chk Γ e v).1 = some k) (ho : k.own = true) (h : asgN Γ i e tg v = true) :
    PS X (.Assign [tg] v pos) (rdS R W Γ.fresh fun env => (evalE C e env).out fun r => .nx (r.2.set i r.1)) := by
  unfold asgN at h
  split at h
  · rename_i x p ex
    have ex := asNP_eq ex
    subst ex
    simp only [Bool.and_eq_true, decide_eq_true_eq] at h
    obtain ⟨⟨h1, h2⟩, h3⟩ := h
    have sw := sw_is (p := p) (x := x) (l := pos.line) o.sc h2 h1
    by_cases c : swN Γ v x p = true
    · rw [if_pos c] at h3
      rw [c] at sw
      obtain ⟨h5, h4⟩ := Bool.and_eq_true_iff.mp h3
      have h5 := of_decide_eq_true h5
      cases e with
      | comp own t it cc ee =>
        have hl := swN_local c
        obtain ⟨te, ps, hte⟩ := comp_set o hk (i := i) (y := x) (py := p) (spos := pos) (by rw [o.N]; exact h5) (by rw [o.sc]; exact hl) sw
        exact masg_of ps hte (o.pin i hp) ho
      | _ => cases h4
    · rw [if_neg c] at h3
      have c' : swN Γ v x p = false := by simpa using c
      rw [c'] at sw
      obtain ⟨l1, l2, l3⟩ := o.loc h3
      exact es_masg o.nd l1 l2 l3 (o.pin i hp) ((chk_ok C e o v).1 k hk) ho sw
  · cases h
theorem asgT_ok (o : OkX Γ n C X R W) {t : T} {e : E} {tg v : Expr} {pos : Pos} {k : Kd} (hk : (chk Γ e v).1 = some k) (hs : k.stb = true) (h : asgT Γ t tg v = true) :
    PS X (.Assign [tg] v pos) (rdS R W Γ.fresh fun env => (evalE C e env).out fun r => (ofO (Ev.assign t r.1 r.2)).out fun en => .nx en) := by
  unfold asgT at h
  simp only [Bool.and_eq_true, Bool.not_eq_true'] at h
  obtain ⟨⟨h1, h2⟩, h3⟩ := h
  obtain ⟨g, ns⟩ := chkG_ok o t tg h1
  refine es_asg ((chk_ok C e o v).1 k hk) hs g h2 ?_ ns
  split at h3
  · rename_i e1
    exact sw0 (by rw [e1]; rfl)
  · rename_i vs ts e1 e2
    obtain ⟨k1, p1, rfl⟩ := asTup_eq e1
    obtain ⟨k2, p2, rfl⟩ := asTup_eq e2
    exact swL (by rw [Bool.not_eq_true'] at h3; exact h3)
  · cases h3
theorem par_ok (o : OkX Γ n C X R W) {t : T} {e : E} {tg v : Expr} {pos : Pos} (h : par Γ t e tg v = true) :
    PS X (.Assign [tg] v pos) (rdS R W Γ.fresh fun env => (evalE C e env).out fun r => (ofO (Ev.assign t r.1 r.2)).out fun en => .nx en) := by
  unfold par at h
  split at h
  · rename_i i j es
    unfold par2C at h
    split at h
    · rename_i x px y py kt pt a b k2 pt2
      simp only [Bool.and_eq_true, decide_eq_true_eq, beq_iff_eq] at h
      obtain ⟨⟨⟨⟨⟨⟨⟨⟨⟨⟨⟨⟨⟨⟨h1, h2⟩, h3⟩, h4⟩, h5⟩, h6⟩, h7⟩, h8⟩, h9⟩, h10⟩, h11⟩, h12⟩, h13⟩, h14⟩, h15⟩ := h
      split at h1
      · rename_i r hr
        have ra := (chks_ok C es o [a, b] r hr).1
        rw [h1] at ra
        exact es_par o.calm o.nd (by rw [o.N]; exact h3) (by rw [o.N]; exact h4) h5 (vN o h6) (vN o h7) (by rw [o.sc]; exact h8) (by rw [o.sc]; exact h9) ra
          (sw2 (by rw [o.sc]; exact h2) (by rw [o.sc]; exact h8) (by rw [o.sc]; exact h9) (by simpa using h10) h11 h12 h13 h14 h15)
      · cases h1
    · cases h
  · rename_i i j l es
    unfold par3C at h
    split at h
    · rename_i x px y py z pz kt pt a b c k2 pt2
      simp only [Bool.and_eq_true, decide_eq_true_eq, beq_iff_eq] at h
      obtain ⟨⟨⟨⟨⟨⟨⟨⟨⟨⟨⟨⟨⟨⟨⟨⟨⟨⟨⟨⟨⟨⟨⟨h1, h2⟩, h3⟩, h4⟩, hz4⟩, h5⟩, hz5⟩, hy5⟩, h6⟩, h7⟩, hz7⟩, h8⟩, h9⟩, hz9⟩, h10⟩, hz10⟩, h11⟩, hz11⟩, hy11⟩, h12⟩, h13⟩, hz13⟩, h14⟩, h15⟩ := h
      split at h1
      · rename_i r hr
        have ra := (chks_ok C es o [a, b, c] r hr).1
        rw [h1] at ra
        exact es_par3 o.calm o.nd (by rw [o.N]; exact h3) (by rw [o.N]; exact h4) (by rw [o.N]; exact hz4) h5 hz5 hy5 (vN o h6) (vN o h7) (vN o hz7) (by rw [o.sc]; exact h8) (by rw [o.sc]; exact h9) (by rw [o.sc]; exact hz9) ra
          (sw3 (by rw [o.sc]; exact h2) (by rw [o.sc]; exact h8) (by rw [o.sc]; exact h9) (by rw [o.sc]; exact hz9) (by simpa using h10) (by simpa using hz10) h11 hz11 hy11 h12 h13 hz13 h14 h15)
      · cases h1
    · cases h
  · cases h
mutual
theorem chkS_ok (o : OkX Γ n C X R W) (hp : PassesOwn (model X.prog X.w) X.A X.env X.xe) : ∀ (s : S) (x : Stmt), chkS Γ s x = true → PS X x (rdS R W Γ.fresh (evalS C Wf s))
  | .asg t e, x, h => by
    simp only [chkS] at h
    split at h
    · rename_i tg v pos ex
      have ex := asAsg_eq ex
      subst ex
      rcases Bool.or_eq_true_iff.mp h with h | h
      · split at h
        · rename_i k hk
          obtain ⟨h1, h2⟩ := Bool.and_eq_true_iff.mp h
          unfold asg1 at h2
          split at h2
          · obtain ⟨h2, h3⟩ := Bool.and_eq_true_iff.mp h2
            exact asgN_ok o (of_decide_eq_true h2) hk h1 h3
          · exact asgT_ok o hk h1 h2
        · cases h
      · exact par_ok o h
    · cases h
  | .masg i e, x, h => by
    simp only [chkS] at h
    split at h
    · rename_i tg v pos ex
      have ex := asAsg_eq ex
      subst ex
      split at h
      · rename_i k hk
        simp only [Bool.and_eq_true, decide_eq_true_eq] at h
        obtain ⟨⟨h1, h2⟩, h3⟩ := h
        exact masgN_ok o h2 hk h1 h3
      · cases h
    · cases h
  | .aug i op e, x, h => by
    simp only [chkS] at h
    split at h
    · rename_i y op' v ex
      obtain ⟨p, q, rfl⟩ := asAug_eq ex
      simp only [Bool.and_eq_true, decide_eq_true_eq] at h
      obtain ⟨⟨⟨rfl, h2⟩, h3⟩, h4⟩ := h
      obtain ⟨k, hk⟩ := Option.isSome_iff_exists.mp h4
      obtain ⟨l1, l2, l3⟩ := o.loc h2
      exact es_aug (vN o h3) o.nd l1 l2 l3 ((chk_ok C e o v).1 k hk)
    · cases h
  | .app i e, x, h => by
    simp only [chkS] at h
    split at h
    · rename_i y v ex
      obtain ⟨p1, ap, cp, p, hl, rfl⟩ := asApp_eq ex
      simp only [Bool.and_eq_true, decide_eq_true_eq] at h
      obtain ⟨⟨⟨h1, h2⟩, h3⟩, h4⟩ := h
      split at h4
      · rename_i k hk
        obtain ⟨v1, v2, v3, v4⟩ := o.vis h1
        exact es_app (vNy o h2) v1 v2 v3 v4 ((chk_ok C e o v).1 k hk) h4 h3 hl
      · cases h4
    · cases h
  | .set i p e, x, h => by
    simp only [chkS] at h
    split at h
    · rename_i tg v pos ex
      have ex := asAsg_eq ex
      subst ex
      split at h
      · rename_i y z e2
        obtain ⟨sp, rfl⟩ := asSub_eq e2
        split at h
        · rename_i w e3
          obtain ⟨px, rfl⟩ := asN_eq e3
          simp only [Bool.and_eq_true, decide_eq_true_eq, Bool.not_eq_true', beq_iff_eq] at h
          obtain ⟨⟨⟨⟨⟨h1, h2⟩, h3⟩, h4⟩, h5⟩, h6⟩ := h
          split at h6
          · rename_i k1 k2 hk1 hk2
            obtain ⟨h6, h7⟩ := Bool.and_eq_true_iff.mp h6
            obtain ⟨v1, v2, v3, v4⟩ := o.vis h1
            exact es_set (vNy o h2) v1 v2 v3 v4 ((chk_ok C e o v).1 k1 hk1) h6 ((chk_ok C p o z).1 k2 hk2) h7 h3 h4 (sw0 h5)
          · cases h6
        · cases h
      · cases h
    · cases h
  | .augs _ _ _ _, x, h => by simp [chkS] at h
  | .ex e, x, h => by
    simp only [chkS] at h
    split at h
    · rename_i v ex
      obtain ⟨p, rfl⟩ := asEx_eq ex
      simp only [Bool.and_eq_true, Bool.not_eq_true'] at h
      obtain ⟨h1, h2⟩ := h
      obtain ⟨k, hk⟩ := Option.isSome_iff_exists.mp h2
      exact es_ex ((chk_ok C e o v).1 k hk) h1
    · cases h
  | .ret e, x, h => by
    simp only [chkS] at h
    split at h
    · rename_i v ex
      obtain ⟨p, rfl⟩ := asRet_eq ex
      split at h
      · rename_i k hk
        obtain ⟨h1, h2⟩ := Bool.and_eq_true_iff.mp h
        exact es_ret ((chk_ok C e o v).1 k hk) h1 fun c => by rw [c] at h2; simpa using h2
      · cases h
    · cases h
  | .retn, x, h => by
    simp only [chkS] at h
    split at h
    · rename_i ex
      obtain ⟨p, rfl⟩ := asRet_eq ex
      exact es_retN
    · cases h
  | .ite c a b, x, h => by
    simp only [chkS] at h
    split at h
    · rename_i y z u ex
      obtain ⟨p, rfl⟩ := asIfS_eq ex
      simp only [Bool.and_eq_true] at h
      obtain ⟨⟨h1, h2⟩, h3⟩ := h
      obtain ⟨m, hm⟩ := Option.isSome_iff_exists.mp h1
      exact es_ite ((chk_ok C c o y).2 m hm).1 (chkSs_ok o hp a z h2) (chkSs_ok o hp b u h3)
    · cases h
  | .for t it b, x, h => by
    simp only [chkS] at h
    split at h
    · rename_i tg i y ex
      obtain ⟨p, rfl⟩ := asFor_eq ex
      simp only [Bool.and_eq_true] at h
      obtain ⟨⟨⟨h1, h2⟩, h3⟩, h4⟩ := h
      split at h3
      · rename_i r hr
        have ri := chki_ok C it o tg i r hr
        rw [h3] at ri
        exact es_for hp o.calm ri (chkG_ok o t tg h2).1 (chkSs_ok o hp b y h4) h1
      · cases h3
    · cases h
  | .form _ _ _, x, h => by simp [chkS] at h
  | .whl c b, x, h => by
    simp only [chkS] at h
    split at h
    · rename_i y z ex
      obtain ⟨p, rfl⟩ := asWhl_eq ex
      simp only [Bool.and_eq_true] at h
      obtain ⟨h1, h2⟩ := h
      obtain ⟨m, hm⟩ := Option.isSome_iff_exists.mp h1
      exact es_whl hp ((chk_ok C c o y).2 m hm).1 (chkSs_ok o hp b z h2)
    · cases h
  | .raise _ _, x, h => by simp [chkS] at h
  | .try _ _ _ _, x, h => by simp [chkS] at h
  | .brk, x, h => by
    cases x <;> first | (simp [chkS, isBrk] at h; done) | exact es_brk
  | .cont, x, h => by
    cases x <;> first | (simp [chkS, isCont] at h; done) | exact es_cont
  | .pass, x, h => by
    cases x <;> first | (simp [chkS, isPass] at h; done) | exact es_pass
  | .bad, x, h => es_never
theorem chkSs_ok (o : OkX Γ n C X R W) (hp : PassesOwn (model X.prog X.w) X.A X.env X.xe) : ∀ (s : Ss) (x : List Stmt), chkSs Γ s x = true → PSs X x (rdS R W Γ.fresh (evalSs C Wf s))
  | .nil, x, h => by
    simp only [chkSs, List.isEmpty_iff] at h
    subst h
    exact es_nil
  | .cons s ss, [], h => by simp [chkSs] at h
  | .cons s ss, x :: xs, h => by
    simp only [chkSs, Bool.and_eq_true] at h
    exact es_cons (chkS_ok o hp s x h.1) (chkSs_ok o hp ss xs h.2)
end
end
end Ev

/-! EvP: a program's defs keep their promises; the law's end. -/
namespace Ev
open PySem PySem.Spec PyProof.Rows L2
/-- one def: as the head tells it, its AST, its names, its parameters -/
structure DefI where
  he : He.DefD
  d : Def
  N : List Str
  ps : List Str
def DefI.sig (D : DefI) : Sig := ⟨D.he.name, D.d.np, D.d.br, D.d.fresh⟩
def gamOf (sg : List Sig) (cs : List (Str × PV)) (D : DefI) : Gam := { N := D.N, sc := D.he.scope, fn := fun _ => true, ms := D.d.ms, pins := if D.d.br = true then [0] else [], br := D.d.br, fresh := D.d.fresh, sigs := sg, cs := cs }
def chkD (sg : List Sig) (cs : List (Str × PV)) (D : DefI) : Bool :=
  C8.scC D.N D.ps D.he.scope && defOk D.d && decide (D.N.length = D.d.n) && decide (D.ps.length = D.d.np) && decide (D.d.np ≤ D.d.n) && chkSs (gamOf sg cs D) D.d.body D.he.body
section
variable {P : Program} {w : World} {K : PySem.W.Frag} {mg : Str → Option Value} {base : Heap}
theorem prog_ok {DI : List DefI} {cs : List (Str × PV)} {fa cls : Nat → Addr} {fld : Nat → Str} {Wf : Nat} (hchk : DI.all (chkD (DI.map DefI.sig) cs) = true) (fd : Nat → FuncData)
    (hf : ∀ k D, DI[k]? = some D → FunD K D.he.name D.he.qual D.he.params D.he.body D.he.scope [] [] (fa k) (fd k)) (hmg : ∀ k D, DI[k]? = some D → mg D.he.name = some (.ref (fa k)))
    (hb : ∀ k D, DI[k]? = some D → Binds K (fd k) D.ps []) (hblt : ∀ x ∈ bltNames, mg x = none) (hcs : ∀ x p, cs.lookup x = some p → p.lf = true → ∃ u, mg x = some u ∧ RelV (vOf p) u) :
    ∀ (n k : Nat) (D : DefI), DI[k]? = some D → FnG P w K mg base n (fa k) (fd k) D.ps (spE ⟨K, fa, none, fld⟩ cls (callN Wf (DI.map DefI.d) n k) D.d.br D.d.fresh D.d.np) := by
  have chk : ∀ {k : Nat} {D : DefI}, DI[k]? = some D → chkD (DI.map DefI.sig) cs D = true := fun {k D} h => List.all_eq_true.mp hchk D (List.mem_of_getElem? h)
  have psl : ∀ {k : Nat} {D : DefI}, DI[k]? = some D → D.ps.length = D.d.np := fun {k D} h => by
    have c := chk h
    unfold chkD at c
    simp only [Bool.and_eq_true, decide_eq_true_eq] at c
    exact c.1.1.2
  intro n
  induction n with
  | zero =>
    intro k D hD
    refine ⟨fun vs H Q E h => by rw [spE_len h, psl hD], fun A outer s H args us vs Q E _ _ _ _ _ h => ?_⟩
    obtain ⟨args, fs, _, h⟩ := h
    exact h.elim
  | succ n ih =>
    intro k D hD
    have c := chk hD
    unfold chkD at c
    simp only [Bool.and_eq_true, decide_eq_true_eq] at c
    obtain ⟨⟨⟨⟨⟨c1, c2⟩, c3⟩, c4⟩, c5⟩, c6⟩ := c
    obtain ⟨oc, od, dV, kV, doc, pm, an, cdv, ct, osl, efd, lk, hcd, _, _⟩ := (hf k D hD).ex
    have S := C8.fnScope_by c1
    rw [efd] at lk ⊢
    refine fn_ofG lk hcd S (fun vs H Q E h => by rw [spE_len h, c4]) fun A outer s H vs Q E hr hgu hsp => ?_
    obtain ⟨args, fs, ao, h⟩ := hsp
    have eD : (DI.map DefI.d)[k]? = some D.d := by rw [List.getElem?_map, hD]; rfl
    have h' : match finish D.d (evalSs (callN Wf (DI.map DefI.d) n) Wf D.d.body (Ev.start D.d args)) with
      | .ok p b => ∀ z H' fz f0, After (⟨K, fa, none, fld⟩ : Gl0) D.d.br H fs vs[0]? b H' f0 → Back (⟨K, fa, none, fld⟩ : Gl0) D.d.br D.d.fresh H fs H' f0 p z fz → Q z H'
      | .raise c x b => ∀ dc y H' f0, After (⟨K, fa, none, fld⟩ : Gl0) D.d.br H fs vs[0]? b H' f0 → H' dc = some (.xd [(fld c, y)]) → RepF (⟨K, fa, none, fld⟩ : Gl0) H' x y [] → E (.ref (cls c)) (some dc) H'
      | .fail => False := by
      have e1 : callN Wf (DI.map DefI.d) (n + 1) k args = finish D.d (evalSs (callN Wf (DI.map DefI.d) n) Wf D.d.body (Ev.start D.d args)) := by
        show (match (DI.map DefI.d)[k]? with
          | none => CR.fail
          | some d => if args.length = d.np then finish d (evalSs (callN Wf (DI.map DefI.d) n) Wf d.body (Ev.start d args)) else .fail) = _
        rw [eD]
        show (if args.length = D.d.np then _ else _) = _
        rw [if_pos ao.len]
      rw [e1] at h
      exact h
    have o : OkX (gamOf (DI.map DefI.sig) cs D) n (callN Wf (DI.map DefI.d) n) (cxOf (L2.CX P w) P w K mg base D.N D.he.qual D.he.scope (fa k) cdv A outer s H E) (frOf ⟨K, fa, none, fld⟩ cls D.d H vs fs) (fun c x _ H => E c x H) := by
      refine ⟨rfl, S.nd, rfl, fun _ _ => rfl, rfl, rfl, rfl, rfl, fun i hi => ?_, hgu, hr, takes_of rfl rfl rfl rfl, hblt, hcs, fun k' sg hs => ?_⟩
      · show (if D.d.br = true ∧ i = 0 then vs[0]? else none) = none
        refine if_neg fun z => hi ?_
        show i ∈ (if D.d.br = true then [0] else [])
        rw [if_pos z.1, z.2]; simp
      · have hs : (DI.map DefI.sig)[k']? = some sg := hs
        rw [List.getElem?_map] at hs
        obtain ⟨D', hD', rfl⟩ := map_some hs
        refine ⟨⟨fd k', D'.ps, hmg k' D' hD', (hf k' D' hD').kp, hb k' D' hD', ih k' D' hD'⟩, fun ar ha => ?_⟩
        cases n with
        | zero => exact absurd rfl ha
        | succ m =>
          have eD' : (DI.map DefI.d)[k']? = some D'.d := by rw [List.getElem?_map, hD']; rfl
          have e1 : callN Wf (DI.map DefI.d) (m + 1) k' ar = if ar.length = D'.d.np then finish D'.d (evalSs (callN Wf (DI.map DefI.d) m) Wf D'.d.body (Ev.start D'.d ar)) else .fail := by
            show (match (DI.map DefI.d)[k']? with
              | none => CR.fail
              | some d => if ar.length = d.np then finish d (evalSs (callN Wf (DI.map DefI.d) m) Wf d.body (Ev.start d ar)) else .fail) = _
            rw [eD']
          by_cases cl : ar.length = D'.d.np
          · exact cl
          · rw [e1, if_neg cl] at ha
            exact absurd rfl ha
    refine ⟨_, chkSs_ok (Wf := Wf) o (passes_of rfl) D.d.body D.he.body c6, ?_⟩
    exact ⟨_, _, env_start c2 c3 c5 ao, fin_law c2 c3 c5 ao h'⟩
end
end Ev

/-! EvH: from the evaluator's word to the law's call. -/
namespace Ev
open PySem PySem.Spec PyProof.Rows L2
theorem lenOk_of {P : Program} {w : World} {K : PySem.W.Frag} {H : Hp} {h : Heap} (x : HOk P w H h) : LenOk K H := by
  refine ⟨fun a xs s => ?_, fun a xs s => ?_⟩
  · rcases s with (s | ⟨o, s⟩) | s
    · exact (x a _ s).1
    · exact (x a _ s).2.1
    · obtain ⟨o, its, n, _, _, _, _, hz, r⟩ := s
      have e := r.length
      have e2 : its.toList.length = its.size := Array.length_toList
      omega
  · rcases s with (s | ⟨o, s⟩) | s
    · exact (x a _ s).1
    · exact (x a _ s).2.1
    · obtain ⟨o, its, n, _, _, _, hz, r⟩ := s
      have e := r.length
      have e2 : its.toList.length = its.size := Array.length_toList
      omega
/-- what is tracked at the law's entry: the script, where it is no object of the text -/
def scrH (K : PySem.W.Frag) (a : Addr) (o : Obj) (xs : List V) : Hp := fun b => if b = a ∧ K.lookup a = none then some (.frz o (.lst xs)) else none
theorem law_callG {P : Program} {w : World} {K : PySem.W.Frag} {mg mb : Str → Option Value} {k : Nat} {fa a : Addr} {fd : FuncData} {x : Str} {sp : Sp} {s₁ : Shared} {vs : List Value} {ns : List Int}
    (KX : K.In s₁.heap) (hns : s₁.heap.Ns mainGlobals mg) (hb : s₁.heap.Ns builtinsNs mb) (hbb : ∀ x : Str, x ≠ "__name__" → mb x = bootBuiltins x) (hlim : s₁.heap.NoLimit) (hg : s₁.gens = #[])
    (ha : s₁.heap.get? a = some { cls := .type "list", data := .seq vs.toArray }) (hi : IntsAre vs ns) (hl : ns.length ≤ sizeLine) (hr : Room k callerA)
    (F : ∀ base : Heap, K.In base → base.Ns mainGlobals mg → FnG P w K mg base k fa fd [x] sp) (hbind : ∀ (s : Shared) (u : Value), BindsTo s fd ⟨[u], []⟩ [(x, u)])
    (hsp : ∀ H : Hp, LenOk K H → ((∃ o, H a = some (.frz o (.lst (ns.map V.int)))) ∨ KLst K a (ns.map V.int)) → sp [.ref a] H (fun v _ => v = .bl true) fun _ _ _ => False) :
    codeAny (model P w) callerA (.call (.ref fa) ⟨[.ref a], []⟩) (fun r s' => r = .ok (.ret (.bool true)) ∧ OldK s₁.heap s'.heap ∧ s'.os = s₁.os ∧ AllBare s'.gens) s₁ := by
  have rv := vals_ints hi
  have lenV := hi.length
  generalize hH : scrH K a { cls := .type "list", data := .seq vs.toArray } (ns.map V.int) = H
  have at_ : ∀ {b u}, H b = some u → b = a ∧ K.lookup a = none ∧ u = .frz { cls := .type "list", data := .seq vs.toArray } (.lst (ns.map V.int)) := fun {b u} e => by
    rw [← hH] at e
    unfold scrH at e
    split at e
    · rename_i c; cases e; exact ⟨c.1, c.2, rfl⟩
    · cases e
  have hok : HOk P w H s₁.heap := fun b u e => by
    obtain ⟨rfl, _, rfl⟩ := at_ e
    exact ⟨ha, by rw [List.length_map]; exact hl, vs, _, rv, ha⟩
  have off : ∀ {b : Addr} {o : Obj}, s₁.heap.get? b = some o → (∀ ws n, o.data ≠ .seq ws n) ∨ (∃ o', K.lookup b = some o') → (hidT s₁.heap H).get? b = some o := fun {b o} e c => hidT_get e (by
    cases q : H b with
    | none => rfl
    | some u =>
      obtain ⟨rfl, n, _⟩ := at_ q
      rcases c with c | ⟨o', c⟩
      · rw [ha] at e; cases e; exact absurd rfl (c _ _)
      · rw [n] at c; cases c)
  have nsK : ∀ {b : Addr} {m : Str → Option Value}, s₁.heap.Ns b m → (hidT s₁.heap H).Ns b m := fun {b m} ⟨o, es, ep, e, d, r⟩ => ⟨o, es, ep, off e (.inl fun ws n z => by rw [d] at z; cases z), d, r⟩
  have hKb : K.In (hidT s₁.heap H) := fun b o e => off (KX b o e) (.inr ⟨o, e⟩)
  have hM : Mod K mg (hidT s₁.heap H) := ⟨hKb, nsK hns, ⟨mb, nsK hb, hbb⟩, let ⟨mc, h1, h2⟩ := hlim; ⟨mc, nsK h1, h2⟩⟩
  have e0 : Env0 P w K mg (hidT s₁.heap H) callerA [] s₁ H := ⟨rfl, hM, fun b o e => of_hidT e, Nat.le_of_eq (hidT_size _ _), trivial, fun b z => absurd (show b ∈ ([] : List Addr) from z) (by simp), hok, .of_eq hg⟩
  have hS : (∃ o, H a = some (.frz o (.lst (ns.map V.int)))) ∨ KLst K a (ns.map V.int) := by
    cases hk : K.lookup a with
    | none =>
      refine .inl ⟨{ cls := .type "list", data := .seq vs.toArray }, ?_⟩
      rw [← hH]
      exact if_pos ⟨rfl, hk⟩
    | some o =>
      have e := KX a o hk
      rw [ha] at e
      cases e
      exact .inr ⟨_, vs.toArray, _, hk, rfl, rfl, rfl, by rw [List.size_toArray, lenV]; exact hl, by simpa using rv⟩
  refine codeAny_mono ((F _ hKb (nsK hns)).run callerA [] s₁ H ⟨[.ref a], []⟩ [.ref a] [.ref a] (fun v _ => v = .bl true) (fun _ _ _ => False) hr rfl e0 (hbind s₁ (.ref a)) (.cons rfl .nil) (hsp H (lenOk_of hok) hS)) fun r s' h => ?_
  cases r with
  | error e =>
    obtain ⟨_, _, _, _, _, _, _, _, _, _, _, _, z⟩ := h
    exact z.elim
  | ok fl =>
    cases fl with
    | next => exact False.elim h
    | brk => exact False.elim h
    | cont => exact False.elim h
    | ret u =>
      obtain ⟨v, H', os, bare, un, hok', r', q⟩ := h
      have q' : v = .bl true := q
      subst q'
      obtain rfl : u = Value.bool true := r'
      refine ⟨rfl, OldK.of_keep fun b o e => ?_, os, bare⟩
      cases q : H b with
      | none => exact un.keep b o e q (by intro z; exact absurd (show b ∈ ([] : List Addr) from z) (by simp)) (by simp)
      | some u =>
        obtain ⟨rfl, _, rfl⟩ := at_ q
        have z2 := un.frzs _ _ _ q
        obtain ⟨e2, _⟩ := hok' _ _ z2
        rw [ha] at e
        cases e
        exact e2
theorem ints_repL {G : Gl0} {H : Hp} : ∀ ns : List Int, RepL G H (ns.map PV.int) (ns.map V.int) []
  | [] => RepL.nil
  | n :: ns => ⟨.int n, ns.map V.int, [], [], rfl, rfl, ⟨rfl, rfl⟩, ints_repL ns⟩
/-- the law: what the evaluator says of the last def at every script -/
theorem walk_ev {l : PySem.W.OpenLaw} {n k : Nat} {q : Program} {loose : List Str} {XP : (Str → Option Value) → Heap → Prop} {YP : World → Heap → Prop} {d : DefRec} {x : Str} {C : List PV → CR} {fa' : Nat → Addr} {cls : Nat → Addr} {fld : Nat → Str}
    (hn : l.most = some n) (hn2 : n ≤ sizeLine) (hdf : d.params.defaults = []) (hr : Room k callerA)
    (F : ∀ (w : World) (mg : Str → Option Value) (fa : Addr) (h : Heap), YP w h → h.Ns mainGlobals mg → mg d.name = some (.ref fa) →
      ∃ (K : PySem.W.Frag) (fd : FuncData) (G : Gl0) (cls : Nat → Addr), K.In h ∧ G.K = K ∧ (∀ (s : Shared) (u : Value), BindsTo s fd ⟨[u], []⟩ [(x, u)]) ∧
        ∀ base : Heap, K.In base → base.Ns mainGlobals mg → FnG l.prog w K mg base k fa fd [x] (spE G cls C false false 1))
    (hC : ∀ ns : List Int, ns.length ≤ n → (∀ z ∈ ns, Builtin.Int.intBits z ≤ 1048576) → ∃ b, C [.scr (ns.map PV.int)] = .ok (.bl true) b) :
    PySem.W.WalkO q loose XP YP l.row.toRowW d [] (fun f vs => PySem.call f vs) := by
  refine Att.attach_callB hn hdf fun w s₀ s₁ mg mb fa o pm cd doc a vs ns G Y ho hd hcd hmg hobj hints hlen hbits hg => ?_
  obtain ⟨K, fd, G0, cls, KX, hGK, hb, hF⟩ := F w mg fa _ Y G.T.g hmg
  refine law_callG KX G.T.g G.T.b G.T.builtins G.T.nolimit hg hobj hints (Nat.le_trans hlen hn2) hr hF hb fun H lok hS => ?_
  obtain ⟨b, hc⟩ := hC ns hlen hbits
  refine ⟨[.scr (ns.map PV.int)], [[]], ⟨.cons ⟨a, ns.map V.int, rfl, by rw [hGK]; exact hS, ints_repL ns, rfl⟩ .nil, rfl, by rw [hGK]; exact lok, List.nodup_nil, fun a z => by simp [refd] at z, nofun⟩, ?_⟩
  rw [hc]
  intro z H' fz f0 af bk
  exact bk.rep.1
/-- the facts that the head is to tell -/
def facOf (DI : List DefI) (cs : List (Str × PV)) : List He.Fa := DI.map (fun D => He.Fa.glo D.he.name) ++ (bltNames.map He.Fa.free ++ cs.filterMap fun p => match p.2 with
  | .int i => some (He.Fa.int p.1 i)
  | .str z => some (He.Fa.str p.1 z)
  | _ => none)
def csOk (cs : List (Str × PV)) : Bool := cs.all fun p => match p.2 with
  | .int _ => true
  | .str _ => true
  | _ => false
def plainD (D : DefI) : Bool := D.he.dfl.isEmpty && D.he.kwd.isEmpty && decide (D.he.at_ = (D.he.name, none))
theorem mem_of_lookup' {cs : List (Str × PV)} {x : Str} {p : PV} (h : cs.lookup x = some p) : (x, p) ∈ cs := by
  induction cs with
  | nil => cases h
  | cons q cs ih =>
    obtain ⟨y, r⟩ := q
    rw [List.lookup_cons] at h
    cases e : x == y with
    | true =>
      rw [e] at h
      cases h
      rw [beq_iff_eq.mp e]
      exact List.mem_cons_self
    | false =>
      rw [e] at h
      exact List.mem_cons_of_mem _ (ih h)
theorem walk_prog {l : PySem.W.OpenLaw} {q : Program} {loose : List Str} {XP : (Str → Option Value) → Heap → Prop} {d : DefRec} {DI : List DefI} {cs : List (Str × PV)} {m Wf depth kL : Nat} {DL : DefI} {x : Str}
    (hn : l.most = some 63) (hdf : d.params.defaults = []) (hdn : d.name = DL.he.name) (hL : DI[kL]? = some DL) (hps : DL.ps = [x]) (hbr : DL.d.br = false) (hfr : DL.d.fresh = false) (hnp : DL.d.np = 1)
    (hchk : DI.all (chkD (DI.map DefI.sig) cs) = true) (hnd : DI.all plainD = true) (hcs : csOk cs = true)
    (hbi : ∀ (k : Nat) (D : DefI) (K : PySem.W.Frag) (f : Addr) (fd : FuncData), DI[k]? = some D → FunD K D.he.name D.he.qual D.he.params D.he.body D.he.scope [] [] f fd → Binds K fd D.ps [])
    (hbL : ∀ (K : PySem.W.Frag) (f : Addr) (fd : FuncData), FunD K DL.he.name DL.he.qual DL.he.params DL.he.body DL.he.scope [] [] f fd → ∀ (s : Shared) (u : Value), BindsTo s fd ⟨[u], []⟩ [(x, u)])
    (hr : Room depth callerA) (hC : ∀ ns : List Int, ns.length ≤ 63 → (∀ z ∈ ns, Builtin.Int.intBits z ≤ 1048576) → ∃ b, callN Wf (DI.map DefI.d) depth kL [.scr (ns.map PV.int)] = .ok (.bl true) b) :
    PySem.W.WalkO q loose XP (He.hookD m (facOf DI cs) (DI.map DefI.he)).says l.row.toRowW d [] (fun f vs => PySem.call f vs) := by
  refine walk_ev (x := x) (cls := fun _ => 0) (fa' := fun _ => 0) (fld := fun _ => Str.empty) (C := callN Wf (DI.map DefI.d) depth kL) hn (by decide) hdf hr (fun w mg fa h Y G hmg => ?_) hC
  obtain ⟨K, KX, c⟩ := Y
  have fact : ∀ f ∈ facOf DI cs, f.ok K = true := fun f hf => by
    have c1 := (He.ba (show (((facOf DI cs).all fun f => f.ok K) && (DI.map DefI.he).all fun d => d.ok K) = true from congrArg (fun z : He.AlD => z.1) c)).1
    exact List.all_eq_true.mp c1 f hf
  have pl : ∀ {k : Nat} {D : DefI}, DI[k]? = some D → D.he.dfl = [] ∧ D.he.kwd = [] ∧ D.he.at_ = (D.he.name, none) := fun {k D} h => by
    have z := List.all_eq_true.mp hnd D (List.mem_of_getElem? h)
    unfold plainD at z
    simp only [Bool.and_eq_true, List.isEmpty_iff, decide_eq_true_eq] at z
    exact ⟨z.1.1, z.1.2, z.2⟩
  have fun_ : ∀ (k : Nat) (D : DefI), DI[k]? = some D → ∃ fd, FunD K D.he.name D.he.qual D.he.params D.he.body D.he.scope [] [] (He.ga K D.he.name) fd := fun k D h => by
    obtain ⟨p1, p2, p3⟩ := pl h
    obtain ⟨fd, F⟩ := c.def_ k (d := D.he) (by rw [List.getElem?_map, h]; rfl)
    have e1 : D.he.dvs K = [] := by unfold He.DefD.dvs; rw [p1]; rfl
    have e2 : D.he.kws K = [] := by unfold He.DefD.kws; rw [p2]; rfl
    have e3 : He.fAd K D.he.at_ = He.ga K D.he.name := by rw [p3]; rfl
    rw [e1, e2, e3] at F
    exact ⟨fd, F⟩
  have glo : ∀ {k : Nat} {D : DefI}, DI[k]? = some D → mg D.he.name = some (.ref (He.ga K D.he.name)) := fun {k D} h =>
    He.glo_ok KX G (fact _ (List.mem_append_left _ (List.mem_map.mpr ⟨D, List.mem_of_getElem? h, rfl⟩)))
  let fas : Nat → Addr := fun k => match DI[k]? with
    | some D => He.ga K D.he.name
    | none => 0
  have fasE : ∀ {k : Nat} {D : DefI}, DI[k]? = some D → fas k = He.ga K D.he.name := fun {k D} h => by
    show (match DI[k]? with | some D => He.ga K D.he.name | none => 0) = _
    rw [h]
  have pick : ∀ k, ∃ fd, ∀ D, DI[k]? = some D → FunD K D.he.name D.he.qual D.he.params D.he.body D.he.scope [] [] (fas k) fd := fun k => by
    cases e : DI[k]? with
    | none => exact ⟨default, fun D h => nomatch h⟩
    | some D =>
      obtain ⟨fd, F⟩ := fun_ k D e
      refine ⟨fd, fun D' h => ?_⟩
      cases h
      rw [fasE e]
      exact F
  obtain ⟨fds, fdE⟩ : ∃ fds : Nat → FuncData, ∀ (k : Nat) (D : DefI), DI[k]? = some D → FunD K D.he.name D.he.qual D.he.params D.he.body D.he.scope [] [] (fas k) (fds k) :=
    ⟨fun k => Classical.choose (pick k), fun k => Classical.choose_spec (pick k)⟩
  have eL : fa = fas kL := by
    have z := glo hL
    rw [show mg DL.he.name = some (.ref fa) from hdn ▸ hmg] at z
    rw [fasE hL]
    exact Value.ref.inj (Option.some.inj z)
  refine ⟨K, fds kL, ⟨K, fas, none, fun _ => Str.empty⟩, fun _ => 0, KX, rfl, hbL K _ _ (fdE kL DL hL), fun base KB GB => ?_⟩
  have z := prog_ok (P := l.prog) (w := w) (K := K) (mg := mg) (base := base) (cls := fun _ => 0) (fld := fun _ => Str.empty) (Wf := Wf) hchk fds fdE (fun k D h => by rw [fasE h]; exact glo h) (fun k D h => hbi k D K _ _ h (fdE k D h))
    (fun x hx => He.free_ok KX G (fact _ (List.mem_append_right _ (List.mem_append_left _ (List.mem_map.mpr ⟨x, hx, rfl⟩))))) (fun x p e _ => by
      have mem := mem_of_lookup' e
      have ok := List.all_eq_true.mp hcs _ mem
      cases p with
      | int i =>
        obtain ⟨t, ht⟩ := He.int_ok (x := x) (i := i) KX G (fact _ (List.mem_append_right _ (List.mem_append_right _ (List.mem_filterMap.mpr ⟨_, mem, rfl⟩))))
        exact ⟨_, ht, t, rfl⟩
      | str z =>
        obtain ⟨t, ht⟩ := He.str_ok (x := x) (z := z) KX G (fact _ (List.mem_append_right _ (List.mem_append_right _ (List.mem_filterMap.mpr ⟨_, mem, rfl⟩))))
        exact ⟨_, ht, t, rfl⟩
      | _ => cases ok) depth kL DL hL
  rw [hbr, hfr, hnp, hps] at z
  rw [eL]
  exact z
end Ev

/-! EvM: plain lemmas about the evaluator. -/
namespace Ev
open PySem
theorem callN_succ {W : Nat} {P : List Def} {n k : Nat} {d : Def} {args : List PV} (h : P[k]? = some d) (hl : args.length = d.np) : callN W P (n + 1) k args = finish d (evalSs (callN W P n) W d.body (start d args)) := by
  show (match P[k]? with
    | none => CR.fail
    | some d => if args.length = d.np then finish d (evalSs (callN W P n) W d.body (start d args)) else .fail) = _
  rw [h]
  exact if_pos hl
theorem compGo_ok {f : PV → Env → Res (Option PV × Env)} {g : PV → Option PV} {env : Env} : ∀ {l : List PV}, (∀ x ∈ l, f x env = .ok (g x, env)) → compGo f l env = .ok (l.filterMap g, env)
  | [], _ => rfl
  | x :: l, h => by
    unfold compGo
    rw [h x (by simp)]
    show (compGo f l env).bind _ = _
    rw [compGo_ok fun y hy => h y (by simp [hy])]
    cases e : g x with
    | none => simp [Res.bind, List.filterMap_cons, e]
    | some y => simp [Res.bind, List.filterMap_cons, e]
/-- all items give one -/
theorem compGo_map {α : Type} {f : PV → Env → Res (Option PV × Env)} {i : α → PV} {g : α → PV} {env : Env} {l : List α} (h : ∀ x ∈ l, f (i x) env = .ok (some (g x), env)) : compGo f (l.map i) env = .ok (l.map g, env) := by
  induction l with
  | nil => rfl
  | cons x l ih =>
    rw [List.map_cons]
    unfold compGo
    rw [h x (by simp)]
    show (compGo f (l.map i) env).bind _ = _
    rw [ih fun y hy => h y (by simp [hy])]
    rfl
theorem compGo_filter {α : Type} {f : PV → Env → Res (Option PV × Env)} {i : α → PV} {g : α → Option PV} {env : Env} {l : List α} (h : ∀ x ∈ l, f (i x) env = .ok (g x, env)) : compGo f (l.map i) env = .ok (l.filterMap g, env) := by
  induction l with
  | nil => rfl
  | cons x l ih =>
    rw [List.map_cons]
    unfold compGo
    rw [h x (by simp)]
    show (compGo f (l.map i) env).bind _ = _
    rw [ih fun y hy => h y (by simp [hy])]
    cases e : g x with
    | none => simp [Res.bind, List.filterMap_cons, e]
    | some y => simp [Res.bind, List.filterMap_cons, e]
@[simp] theorem Res.bind_ok' {α β : Type} {a : α} {f : α → Res β} : (Res.ok a).bind f = f a := rfl
@[simp] theorem Res.out_ok {α : Type} {a : α} {f : α → Out} : (Res.ok a).out f = f a := rfl
@[simp] theorem ofO_some {α : Type} {a : α} : ofO (some a) = Res.ok a := rfl
@[simp] theorem Out.seq_nx {e : Env} {f : Env → Out} : (Out.nx e).seq f = f e := rfl
@[simp] theorem Out.seq_rt {v : PV} {e : Env} {f : Env → Out} : (Out.rt v e).seq f = .rt v e := rfl
@[simp] theorem Out.seq_ct {e : Env} {f : Env → Out} : (Out.ct e).seq f = .ct e := rfl
@[simp] theorem Out.seq_bk {e : Env} {f : Env → Out} : (Out.bk e).seq f = .bk e := rfl
@[simp] theorem truth_bl {b : Bool} : truth (.bl b) = some b := rfl
@[simp] theorem truth_int {i : Int} : truth (.int i) = some (i != 0) := rfl
@[simp] theorem truth_lst {l : List PV} : truth (.lst l) = some (!l.isEmpty) := rfl
@[simp] theorem truth_tup {l : List PV} : truth (.tup l) = some (!l.isEmpty) := rfl
@[simp] theorem truth_non : truth .non = some false := rfl
@[simp] theorem Res.nr_ok' {α : Type} {a : α} : (Res.ok a).nr = Res.ok a := rfl
@[simp] theorem runCall_ok {v b : PV} {env : Env} : runCall (.ok v b) env = .ok (v, env) := rfl
@[simp] theorem runCallR_ok {v b : PV} {i : Nat} {env : Env} : runCallR (.ok v b) i env = .ok (v, env.set i b) := rfl
theorem asIntsP_map (l : List Int) : asIntsP (l.map PV.int) = some l := by
  induction l with
  | nil => rfl
  | cons x l ih => simp [asIntsP, ih]
theorem asBlsP_map (l : List Bool) : asBlsP (l.map PV.bl) = some l := by
  induction l with
  | nil => rfl
  | cons x l ih => simp [asBlsP, ih]
theorem lfs_ints (l : List Int) : PV.lfs (l.map PV.int) = true := by
  induction l with
  | nil => rfl
  | cons x l ih => simp [PV.lfs, PV.lf, ih]
@[simp] theorem eE_c {C : Calls} {env : Env} {p : PV} : evalE C (.c p) env = .ok (p, env) := rfl
@[simp] theorem eE_g {C : Calls} {env : Env} {x : Str} {p : PV} : evalE C (.g x p) env = .ok (p, env) := rfl
@[simp] theorem eE_v {C : Calls} {env : Env} {i : Nat} : evalE C (.v i) env = Ev.get env i := rfl
@[simp] theorem eE_m {C : Calls} {env : Env} {i : Nat} : evalE C (.m i) env = Ev.get env i := rfl
@[simp] theorem eE_mv {C : Calls} {env : Env} {i : Nat} : evalE C (.mv i) env = (Ev.get env i).bind fun r => .ok (r.1, env.set i .undef) := rfl
@[simp] theorem eE_chk {C : Calls} {env : Env} {e : E} : evalE C (.chk e) env = (evalE C e env).bind fun r => if r.1.lf = true then .ok r else .fail := rfl
@[simp] theorem eE_bin {C : Calls} {env : Env} {op : Operator} {a b : E} : evalE C (.bin op a b) env = (evalE C a env).bind fun r => (evalE C b r.2).bind fun q => (ofO (binop op r.1 q.1)).bind fun x => .ok (x, q.2) := rfl
@[simp] theorem eE_not {C : Calls} {env : Env} {a : E} : evalE C (.not a) env = (evalE C a env).bind fun r => (ofO (truth r.1)).bind fun b => .ok (.bl (!b), r.2) := rfl
@[simp] theorem eE_and {C : Calls} {env : Env} {a b : E} : evalE C (.and a b) env = (evalE C a env).bind fun r => (ofO (truth r.1)).bind fun t => if t = true then evalE C b r.2 else .ok r := rfl
@[simp] theorem eE_or {C : Calls} {env : Env} {a b : E} : evalE C (.or a b) env = (evalE C a env).bind fun r => (ofO (truth r.1)).bind fun t => if t = true then .ok r else evalE C b r.2 := rfl
@[simp] theorem eE_cmp {C : Calls} {env : Env} {op : CmpOp} {a b : E} : evalE C (.cmp op a b) env = (evalE C a env).bind fun r => (evalE C b r.2).bind fun q => (ofO (cmpop op r.1 q.1)).bind fun x => .ok (.bl x, q.2) := rfl
@[simp] theorem eE_cmp2 {C : Calls} {env : Env} {o1 o2 : CmpOp} {a b c : E} : evalE C (.cmp2 o1 o2 a b c) env = (evalE C a env).bind fun r => (evalE C b r.2).bind fun q => (ofO (cmpop o1 r.1 q.1)).bind fun x =>
      if x = true then (evalE C c q.2).bind fun p => (ofO (cmpop o2 q.1 p.1)).bind fun y => .ok (.bl y, p.2) else .ok (.bl false, q.2) := rfl
@[simp] theorem eE_ife {C : Calls} {env : Env} {c a b : E} : evalE C (.ife c a b) env = (evalE C c env).bind fun r => (ofO (truth r.1)).bind fun t => if t = true then evalE C a r.2 else evalE C b r.2 := rfl
@[simp] theorem eE_call {C : Calls} {env : Env} {k : Nat} {es : Es} : evalE C (.call k es) env = (evalEs C es env).bind fun r => runCall (C k r.1) r.2 := rfl
@[simp] theorem eE_callr {C : Calls} {env : Env} {k i : Nat} {es : Es} : evalE C (.callr k i es) env = (Ev.get env i).bind fun _ => (evalEs C es env).bind fun r => (Ev.get r.2 i).bind fun s => runCallR (C k (s.1 :: r.1)) i r.2 := rfl
@[simp] theorem eE_blt {C : Calls} {env : Env} {b : Blt} {es : Es} : evalE C (.blt b es) env = (evalEs C es env).bind fun r => (ofO (evalB b r.1)).bind fun x => .ok (x, r.2) := rfl
@[simp] theorem eE_isi {C : Calls} {env : Env} {a : E} {t : Ty} : evalE C (.isi a t) env = (evalE C a env).bind fun r => (ofO (isinst r.1 t)).bind fun b => .ok (.bl b, r.2) := rfl
@[simp] theorem eE_tup {C : Calls} {env : Env} {es : Es} : evalE C (.tup es) env = (evalEs C es env).bind fun r => .ok (.tup r.1, r.2) := rfl
@[simp] theorem eE_lst {C : Calls} {env : Env} {es : Es} : evalE C (.lst es) env = (evalEs C es env).bind fun r => .ok (.lst r.1, r.2) := rfl
@[simp] theorem eE_idx {C : Calls} {env : Env} {a i : E} : evalE C (.idx a i) env = (evalE C a env).bind fun r => (evalE C i r.2).bind fun q => (ofO (index r.1 q.1)).bind fun x => .ok (x, q.2) := rfl
@[simp] theorem eE_sl {C : Calls} {env : Env} {a : E} {lo hi : OE} : evalE C (.sl a lo hi) env = (evalE C a env).bind fun r => (evalO C lo r.2).bind fun p => (evalO C hi p.2).bind fun q => (ofO (slice r.1 p.1 q.1)).bind fun x => .ok (x, q.2) := rfl
theorem eE_comp {C : Calls} {env : Env} {own : List Nat} {tg : T} {it : It} {c : OE} {e : E} : evalE C (.comp own tg it c e) env = (evalI C it env).bind fun r =>
      (compGo (fun x en => ((ofO (assign tg x en)).bind fun en1 => (evalC C c en1).bind fun t => if t.1 = true then (evalE C e t.2).bind fun q => .ok (some q.1, wipe own q.2) else .ok (none, wipe own t.2)).nr)
        r.1 (wipe own r.2)).bind fun q => if q.1.length ≤ sizeLine then .ok (.lst q.1, restore own r.2 q.2) else .fail := rfl
@[simp] theorem eC_no {C : Calls} {env : Env} : evalC C .no env = .ok (true, env) := rfl
@[simp] theorem eC_so {C : Calls} {env : Env} {e : E} : evalC C (.so e) env = (evalE C e env).bind fun p => (ofO (truth p.1)).bind fun t => .ok (t, p.2) := rfl
@[simp] theorem eO_no {C : Calls} {env : Env} : evalO C .no env = .ok (none, env) := rfl
@[simp] theorem eA_nil {C : Calls} {env : Env} : evalEs C .nil env = .ok ([], env) := rfl
@[simp] theorem eA_cons {C : Calls} {env : Env} {e : E} {es : Es} : evalEs C (.cons e es) env = (evalE C e env).bind fun r => (evalEs C es r.2).bind fun q => .ok (r.1 :: q.1, q.2) := rfl
@[simp] theorem eI_e {C : Calls} {env : Env} {a : E} : evalI C (.e a) env = (evalE C a env).bind fun r => (ofO (seqOf r.1)).bind fun l => .ok (l, r.2) := rfl
@[simp] theorem eI_rng {C : Calls} {env : Env} {es : Es} : evalI C (.rng es) env = (evalEs C es env).bind fun r => (ofO (ranges r.1)).bind fun l => .ok (l, r.2) := rfl
@[simp] theorem eS_asg {C : Calls} {W : Nat} {env : Env} {t : T} {e : E} : evalS C W (.asg t e) env = (evalE C e env).out fun r => (ofO (assign t r.1 r.2)).out fun en => .nx en := rfl
@[simp] theorem eS_masg {C : Calls} {W : Nat} {env : Env} {i : Nat} {e : E} : evalS C W (.masg i e) env = (evalE C e env).out fun r => .nx (r.2.set i r.1) := rfl
@[simp] theorem eS_aug {C : Calls} {W : Nat} {env : Env} {i : Nat} {op : Operator} {e : E} : evalS C W (.aug i op e) env = (Ev.get env i).out fun x => (evalE C e env).out fun r => (ofO (augop op x.1 r.1)).out fun z => .nx (r.2.set i z) := rfl
@[simp] theorem eS_app {C : Calls} {W : Nat} {env : Env} {i : Nat} {e : E} : evalS C W (.app i e) env = (getL env i).out fun _ => (evalE C e env).out fun r => (getL r.2 i).out fun l => (ofO (pushP r.1 l.1)).out fun z => .nx (r.2.set i z) := rfl
@[simp] theorem eS_set {C : Calls} {W : Nat} {env : Env} {i : Nat} {p e : E} : evalS C W (.set i p e) env = (evalE C e env).out fun r => (getL r.2 i).out fun _ => (evalE C p r.2).out fun q => (getL q.2 i).out fun l => (ofO (setP r.1 q.1 l.1)).out fun z => .nx (q.2.set i z) := rfl
@[simp] theorem eS_ex {C : Calls} {W : Nat} {env : Env} {e : E} : evalS C W (.ex e) env = (evalE C e env).out fun r => .nx r.2 := rfl
@[simp] theorem eS_ret {C : Calls} {W : Nat} {env : Env} {e : E} : evalS C W (.ret e) env = (evalE C e env).out fun r => .rt r.1 r.2 := rfl
@[simp] theorem eS_retn {C : Calls} {W : Nat} {env : Env} : evalS C W .retn env = .rt .non env := rfl
@[simp] theorem eS_ite {C : Calls} {W : Nat} {env : Env} {c : E} {a b : Ss} : evalS C W (.ite c a b) env = (evalE C c env).out fun r => (ofO (truth r.1)).out fun t => if t = true then evalSs C W a r.2 else evalSs C W b r.2 := rfl
theorem eS_for {C : Calls} {W : Nat} {env : Env} {t : T} {it : It} {b : Ss} : evalS C W (.for t it b) env = (evalI C it env).out fun r => forGo (fun x en => (ofO (assign t x en)).out fun en1 => evalSs C W b en1) r.1 r.2 := rfl
theorem eS_whl {C : Calls} {W : Nat} {env : Env} {c : E} {b : Ss} : evalS C W (.whl c b) env = whileGo (fun en => evalE C c en) (fun en => evalSs C W b en) W env := rfl
@[simp] theorem eS_brk {C : Calls} {W : Nat} {env : Env} : evalS C W .brk env = .bk env := rfl
@[simp] theorem eS_cont {C : Calls} {W : Nat} {env : Env} : evalS C W .cont env = .ct env := rfl
@[simp] theorem eS_pass {C : Calls} {W : Nat} {env : Env} : evalS C W .pass env = .nx env := rfl
@[simp] theorem eSs_nil {C : Calls} {W : Nat} {env : Env} : evalSs C W .nil env = .nx env := rfl
@[simp] theorem eSs_cons {C : Calls} {W : Nat} {env : Env} {s : S} {ss : Ss} : evalSs C W (.cons s ss) env = (evalS C W s env).seq fun e => evalSs C W ss e := rfl
@[simp] theorem asg_n {i : Nat} {x : PV} {env : Env} : assign (.n i) x env = some (env.set i x) := rfl
@[simp] theorem asg_nil {env : Env} : assign .nil (.tup []) env = some env := rfl
@[simp] theorem asg_cons {a r : T} {y : PV} {l : List PV} {env : Env} : assign (.cons a r) (.tup (y :: l)) env = (assign a y env).bind fun e => assign r (.tup l) e := rfl
@[simp] theorem eO_so {C : Calls} {e : E} {env : Env} : evalO C (.so e) env = (evalE C e env).bind fun r => match r.1 with
    | .int i => .ok (some i, r.2)
    | _ => .fail := rfl
@[simp] theorem eE_neg {C : Calls} {a : E} {env : Env} : evalE C (.neg a) env = (evalE C a env).bind fun r => match r.1 with
    | .int i => .ok (.int (-i), r.2)
    | _ => .fail := rfl
@[simp] theorem eE_chk1 {C : Calls} {e : E} {env : Env} : evalE C (.chk1 e) env = (evalE C e env).bind fun r => match r.1 with
    | .lst l => if PV.lfs l = true then .ok r else .fail
    | _ => .fail := rfl
@[simp] theorem eI_zip {C : Calls} {es : Es} {env : Env} : evalI C (.zip es) env = (evalEs C es env).bind fun r => match r.1 with
    | [x, y] => (ofO (zip2 x y)).bind fun l => .ok (l, r.2)
    | _ => .fail := rfl
@[simp] theorem isi_int {i : Int} {t : Ty} : isinst (.int i) t = some (t == .int) := by cases t <;> rfl
@[simp] theorem isi_tup {l : List PV} {t : Ty} : isinst (.tup l) t = some (t == .tuple) := by cases t <;> rfl
@[simp] theorem seqOf_tup {l : List PV} : seqOf (.tup l) = some l := rfl
@[simp] theorem seqOf_lst {l : List PV} : seqOf (.lst l) = some l := rfl
@[simp] theorem seqOf_scr {l : List PV} : seqOf (.scr l) = some l := rfl
@[simp] theorem bin_addi {i j : Int} : binop .Add (.int i) (.int j) = some (.int (i + j)) := rfl
@[simp] theorem bin_subi {i j : Int} : binop .Sub (.int i) (.int j) = some (.int (i - j)) := rfl
@[simp] theorem cmp_lti {i j : Int} : cmpop .Lt (.int i) (.int j) = some (decide (i < j)) := rfl
@[simp] theorem cmp_lei {i j : Int} : cmpop .LtE (.int i) (.int j) = some (decide (i ≤ j)) := rfl
@[simp] theorem cmp_gti {i j : Int} : cmpop .Gt (.int i) (.int j) = some (decide (j < i)) := rfl
@[simp] theorem cmp_gei {i j : Int} : cmpop .GtE (.int i) (.int j) = some (decide (j ≤ i)) := rfl
theorem eqOk_int (i j : Int) : eqOk (.int i) (.int j) = true := by
  unfold eqOk; rfl
@[simp] theorem cmp_eqi {i j : Int} : cmpop .Eq (.int i) (.int j) = some (decide (i = j)) := by
  show (if eqOk (.int i) (.int j) = true then some (PyData.eqv (.int i) (.int j)) else none) = _
  exact if_pos (eqOk_int i j)
@[simp] theorem cmp_nei {i j : Int} : cmpop .NotEq (.int i) (.int j) = some (!decide (i = j)) := by
  show (if eqOk (.int i) (.int j) = true then some (!PyData.eqv (.int i) (.int j)) else none) = _
  exact if_pos (eqOk_int i j)
@[simp] theorem blt_len_tup {l : List PV} : evalB .len [.tup l] = some (.int l.length) := rfl
@[simp] theorem blt_len_lst {l : List PV} : evalB .len [.lst l] = some (.int l.length) := rfl
@[simp] theorem blt_tup_lst {l : List PV} : evalB .tuple [.lst l] = some (.tup l) := rfl
@[simp] theorem blt_abs_int {i : Int} : evalB .abs [.int i] = some (.int (if i < 0 then -i else i)) := rfl
@[simp] theorem blt_int_int {i : Int} : evalB .int [.int i] = some (.int i) := rfl
theorem blt_all_map (l : List Bool) : evalB .all [.lst (l.map .bl)] = some (.bl (l.all id)) := by
  show (asBlsP (l.map .bl)).map _ = _
  rw [asBlsP_map]; rfl
theorem blt_sum_map (l : List Int) : evalB .sum [.lst (l.map .int)] = some (.int l.sum) := by
  show (asIntsP (l.map .int)).map _ = _
  rw [asIntsP_map]; rfl

theorem comp_map {α : Type} {C : Calls} {own : List Nat} {tg : T} {it : It} {e : E} {env : Env} {l : List α} {i g : α → PV} (hi : evalI C it env = .ok (l.map i, env)) (hl : l.length ≤ sizeLine)
    (hb : ∀ x ∈ l, ∃ en1 en2, assign tg (i x) (wipe own env) = some en1 ∧ evalE C e en1 = .ok (g x, en2) ∧ wipe own en2 = wipe own env) : evalE C (.comp own tg it .no e) env = .ok (.lst (l.map g), env) := by
  rw [eE_comp, hi]
  show (compGo _ (l.map i) (wipe own env)).bind _ = _
  rw [compGo_map (g := g) fun x hx => ?_]
  · show (if (l.map g).length ≤ sizeLine then Res.ok (PV.lst (l.map g), restore own env (wipe own env)) else Res.fail) = _
    rw [if_pos (by rw [List.length_map]; exact hl), restore_wipe]
  · obtain ⟨en1, en2, h1, h2, h3⟩ := hb x hx
    rw [h1]
    show ((evalE C e en1).bind _).nr = _
    rw [h2]
    show Res.ok (some (g x), wipe own en2) = _
    rw [h3]
theorem comp_filter {α : Type} {C : Calls} {own : List Nat} {tg : T} {it : It} {c e : E} {env : Env} {l : List α} {i : α → PV} {g : α → Option PV} (hi : evalI C it env = .ok (l.map i, env)) (hl : l.length ≤ sizeLine)
    (hb : ∀ x ∈ l, ∃ en1 en2 v b, assign tg (i x) (wipe own env) = some en1 ∧ evalE C c en1 = .ok (v, en2) ∧ truth v = some b ∧ if b = true then ∃ y en3, evalE C e en2 = .ok (y, en3) ∧ g x = some y ∧ wipe own en3 = wipe own env else g x = none ∧ wipe own en2 = wipe own env) :
    evalE C (.comp own tg it (.so c) e) env = .ok (.lst (l.filterMap g), env) := by
  rw [eE_comp, hi]
  show (compGo _ (l.map i) (wipe own env)).bind _ = _
  rw [compGo_filter (g := g) fun x hx => ?_]
  · show (if (l.filterMap g).length ≤ sizeLine then Res.ok (PV.lst (l.filterMap g), restore own env (wipe own env)) else Res.fail) = _
    rw [if_pos (Nat.le_trans (List.length_filterMap_le _ _) hl), restore_wipe]
  · obtain ⟨en1, en2, v, b, h1, h2, h3, h4⟩ := hb x hx
    rw [h1]
    show ((evalC C (.so c) en1).bind _).nr = _
    rw [eC_so, h2]
    show (((ofO (truth v)).bind fun t => Res.ok (t, en2)).bind _).nr = _
    rw [h3]
    cases b with
    | true =>
      rw [if_pos rfl] at h4
      obtain ⟨y, en3, k1, k2, k3⟩ := h4
      show ((evalE C e en2).bind _).nr = _
      rw [k1, k2]
      show Res.ok (some y, wipe own en3) = _
      rw [k3]
    | false =>
      rw [if_neg Bool.false_ne_true] at h4
      show Res.ok (none, wipe own en2) = _
      rw [h4.1, h4.2]
theorem zips_map (a b : List Int) : zips (a.map .int) (b.map .int) = (a.zip b).map fun p => .tup [.int p.1, .int p.2] := by
  induction a generalizing b with
  | nil => rfl
  | cons x a ih => cases b with
    | nil => rfl
    | cons y b => simp [zips, ih]
theorem sl_le {n : Nat} (h : n ≤ 16777216) : n ≤ sizeLine := by rw [sizeLine_eq]; exact h
@[simp] theorem blt_sum_f {α : Type} (l : List α) (g : α → Int) : evalB .sum [.lst (l.map fun x => PV.int (g x))] = some (.int (l.map g).sum) := by
  have := blt_sum_map (l.map g)
  rw [List.map_map] at this
  exact this
theorem blt_all_f {α : Type} (l : List α) (g : α → Bool) : evalB .all [.lst (l.map fun x => PV.bl (g x))] = some (.bl (l.all g)) := by
  have := blt_all_map (l.map g)
  rw [List.map_map, List.all_map] at this
  exact this
theorem rng0 (n : Nat) : rng 0 n = (List.range n).map fun i : Nat => PV.int i := by
  apply List.ext_getElem?
  intro j
  by_cases h : j < n
  · rw [rng_get h]; simp [h]
  · rw [List.getElem?_eq_none (by rw [rng_len]; omega), List.getElem?_eq_none (by simp; omega)]
theorem at_int {k : List Int} {i : Nat} (h : i < k.length) : index (.tup (k.map .int)) (.int (i : Nat)) = some (.int (k.getD i 0)) := by
  show atI (k.map PV.int) (i : Nat) = _
  unfold atI Ev.ixN
  rw [if_pos (by omega), if_pos (by simpa using h)]
  simp [h, List.getD_eq_getElem?_getD]
end Ev

/-! EvM2: small data: ==, repr, <. -/
namespace Ev
open PySem
/-- data of bounded depth and weight, its ints short -/
structure Sm (p : PV) (dp w : Nat) : Prop where
  da : p.data = true
  cl : PyData.canLay0 p.pd = true
  dp : p.pd.depth ≤ dp
  wt : p.pd.weight ≤ w
  sh : p.pd.showable = true
  is : p.pd.intsShort 13 = true
structure Sms (l : List PV) (dp w : Nat) : Prop where
  da : PV.datas l = true
  cl : PyData.canLayAll0 (PV.pds l) = true
  dp : PyData.depthAll (PV.pds l) ≤ dp
  wt : PyData.weightAll (PV.pds l) ≤ l.length * (w + 1)
  sh : PyData.showableAll (PV.pds l) = true
  is : PyData.intsShortAll 13 (PV.pds l) = true
theorem Sms.of {l : List PV} {dp w : Nat} (h : ∀ x ∈ l, Sm x dp w) : Sms l dp w := by
  induction l with
  | nil => exact ⟨rfl, rfl, Nat.zero_le _, by simp [PV.pds, PyData.weightAll], rfl, rfl⟩
  | cons x l ih =>
    have i := ih fun y hy => h y (by simp [hy])
    have k := h x (by simp)
    refine ⟨?_, ?_, ?_, ?_, ?_, ?_⟩
    · simp [PV.datas, k.da, i.da]
    · simp [PV.pds, PyData.canLayAll0, k.cl, i.cl]
    · simp only [PV.pds, PyData.depthAll]
      exact Nat.max_le.mpr ⟨k.dp, i.dp⟩
    · simp only [PV.pds, PyData.weightAll, List.length_cons]
      have := i.wt
      have := k.wt
      rw [Nat.add_mul]
      omega
    · simp [PV.pds, PyData.showableAll, k.sh, i.sh]
    · simp [PV.pds, PyData.intsShortAll, k.is, i.is]
theorem Sm.tup {l : List PV} {dp w : Nat} (h : ∀ x ∈ l, Sm x dp w) : Sm (.tup l) (dp + 1) (l.length * (w + 1) + 1) := by
  have k := Sms.of h
  refine ⟨?_, ?_, ?_, ?_, ?_, ?_⟩
  · simp [PV.data, k.da]
  · simp [PV.pd, PyData.canLay0, k.cl]
  · simp only [PV.pd, PyData.depth]; have := k.dp; omega
  · simp only [PV.pd, PyData.weight]; have := k.wt; omega
  · simp [PV.pd, PyData.showable, k.sh]
  · simp [PV.pd, PyData.intsShort, k.is]
theorem Sm.lst {l : List PV} {dp w : Nat} (h : ∀ x ∈ l, Sm x dp w) : Sm (.lst l) (dp + 1) (l.length * (w + 1) + 1) := by
  have k := Sms.of h
  refine ⟨?_, ?_, ?_, ?_, ?_, ?_⟩
  · simp [PV.data, k.da]
  · simp [PV.pd, PyData.canLay0, k.cl]
  · simp only [PV.pd, PyData.depth]; have := k.dp; omega
  · simp only [PV.pd, PyData.weight]; have := k.wt; omega
  · simp [PV.pd, PyData.showable, k.sh]
  · simp [PV.pd, PyData.intsShort, k.is]
theorem Sm.non : Sm .non 0 1 := ⟨rfl, rfl, by decide, by decide, rfl, rfl⟩
theorem Sm.mono {p : PV} {dp w dp' w' : Nat} (h : Sm p dp w) (h1 : dp ≤ dp') (h2 : w ≤ w') : Sm p dp' w' := ⟨h.da, h.cl, Nat.le_trans h.dp h1, Nat.le_trans h.wt h2, h.sh, h.is⟩
/-- a digit -/
theorem Sm.dig {i : Int} (h0 : 0 ≤ i) (h1 : i < 10) : Sm (.int i) 0 6 := by
  have e : ∀ j : Fin 10, (PyData.weight (PV.pd (.int (j.val : Int))) ≤ 6) ∧ (PyData.intsShort 13 (PV.pd (.int (j.val : Int))) = true) ∧ PyData.showable (PV.pd (.int (j.val : Int))) = true := by decide +kernel
  have k := e ⟨i.toNat, by omega⟩
  have ei : ((i.toNat : Nat) : Int) = i := by omega
  simp only [ei] at k
  exact ⟨rfl, rfl, Nat.le_refl _, k.1, k.2.2, k.2.1⟩
theorem Sm.shaped {p : PV} {dp w : Nat} (h : Sm p dp w) (hd : dp ≤ 64) : SeqAt.shaped p.pd = true := by
  unfold SeqAt.shaped
  rw [h.cl]
  simpa using Nat.le_trans h.dp hd
mutual
theorem eqv_refl : ∀ d : PyData, PyData.canLay0 d = true → PyData.eqv d d = true
  | .none, _ => rfl
  | .bool _, _ => by simp [PyData.eqv]
  | .int _, _ => by simp [PyData.eqv]
  | .str _, _ => by simp [PyData.eqv]
  | .list xs, h => by
    simp only [PyData.eqv]
    exact eqvAll_refl xs (by simpa [PyData.canLay0] using h)
  | .tuple xs, h => by
    simp only [PyData.eqv]
    exact eqvAll_refl xs (by simpa [PyData.canLay0] using h)
  | .dict _, h => by simp [PyData.canLay0] at h
theorem eqvAll_refl : ∀ d : List PyData, PyData.canLayAll0 d = true → PyData.eqvAll d d = true
  | [], _ => by simp [PyData.eqvAll]
  | x :: xs, h => by
    have h' : x.canLay0 = true ∧ PyData.canLayAll0 xs = true := by simpa [PyData.canLayAll0] using h
    simp [PyData.eqvAll, eqv_refl x h'.1, eqvAll_refl xs h'.2]
end
theorem cmp_eq_self {p : PV} {dp w : Nat} (h : Sm p dp w) (hs : ∀ x, p ≠ .str x) (hd : dp ≤ 64) : cmpop .Eq p p = some true := by
  have e : cmpop .Eq p p = if eqOk p p = true then some (PyData.eqv p.pd p.pd) else none := by
    cases p with
    | str x => exact absurd rfl (hs x)
    | _ => rfl
  rw [e, if_pos (by simp [eqOk, h.da, h.shaped hd]), eqv_refl _ h.cl]
theorem cmp_eq {p q : PV} {dp w dq v : Nat} (h : Sm p dp w) (k : Sm q dq v) (hs : ∀ x, p ≠ .str x) (hd : dp ≤ 64) (he : dq ≤ 64) : cmpop .Eq p q = some (PyData.eqv p.pd q.pd) := by
  have e : cmpop .Eq p q = if eqOk p q = true then some (PyData.eqv p.pd q.pd) else none := by
    cases p <;> cases q <;> first | rfl | exact absurd rfl (hs _)
  rw [e, if_pos (by simp [eqOk, h.da, h.shaped hd, k.da, k.shaped he])]
theorem cmp_ne {p q : PV} {dp w dq v : Nat} (h : Sm p dp w) (k : Sm q dq v) (hs : ∀ x, p ≠ .str x) (hd : dp ≤ 64) (he : dq ≤ 64) : cmpop .NotEq p q = some (!PyData.eqv p.pd q.pd) := by
  have e : cmpop .NotEq p q = if eqOk p q = true then some (!PyData.eqv p.pd q.pd) else none := by
    cases p <;> cases q <;> first | rfl | exact absurd rfl (hs _)
  rw [e, if_pos (by simp [eqOk, h.da, h.shaped hd, k.da, k.shaped he])]
theorem repr_ok {p : PV} {dp w : Nat} (h : Sm p dp w) (hd : dp ≤ 60) (hw : w ≤ 1048576) : evalB .repr [p] = some (.str p.pd.shown) := by
  have e : (2 : Nat) ^ 20 = 1048576 := by decide
  have l : PyData.layable0 p.pd = true := by
    unfold PyData.layable0
    rw [h.cl]
    have := h.dp
    have := h.wt
    simp only [Bool.true_and, Bool.and_eq_true, decide_eq_true_eq]
    omega
  have z := PyProof.Rows.shown_le13 l h.is
  have : reprOk p = true := by
    unfold reprOk
    rw [h.da, h.sh]
    have := h.dp
    simp only [Bool.true_and, Bool.and_eq_true, decide_eq_true_eq]
    rw [sizeLine_eq]
    omega
  show (if reprOk p = true then some (PV.str p.pd.shown) else none) = _
  rw [if_pos this]
@[simp] theorem cmp_eq_str {s t : Str} : cmpop .Eq (.str s) (.str t) = some (decide (s = t)) := rfl
end Ev

/-! EvM3: the laws' own source of draws: start, draw, pick. -/
namespace Ev
open PySem
/-- the state: the script, what is left of a cell, the next cell, the seed -/
def stV (sc : List Int) (a : Int) (i : Nat) (b : Int) : PV := .lst [.lst (sc.map .int), .int a, .int (i : Nat), .int b]
def drawB : Ss := (.cons (.ite (.and (.cmp .Eq (.idx (.m 0) (.c (.int 1))) (.c (.int 0))) (.cmp .GtE (.idx (.m 0) (.c (.int 2))) (.blt .len (.cons (.idx (.m 0) (.c (.int 0))) .nil)))) (.cons (.set 0 (.c (.int 3)) (.chk (.bin .Mod (.blt .int (.cons (.bin .Add (.bin .Mult (.idx (.m 0) (.c (.int 3))) (.c (.int 48271))) (.c (.int 69621))) .nil)) (.c (.int 2147483629))))) (.cons (.ret (.chk (.bin .Mod (.blt .int (.cons (.bin .FloorDiv (.idx (.m 0) (.c (.int 3))) (.c (.int 13))) .nil)) (.v 1)))) .nil)) .nil) (.cons (.ite (.cmp .Eq (.idx (.m 0) (.c (.int 1))) (.c (.int 0))) (.cons (.set 0 (.c (.int 1)) (.chk (.blt .abs (.cons (.idx (.idx (.m 0) (.c (.int 0))) (.idx (.m 0) (.c (.int 2)))) .nil)))) (.cons (.set 0 (.c (.int 2)) (.chk (.bin .Add (.idx (.m 0) (.c (.int 2))) (.c (.int 1))))) .nil)) .nil) (.cons (.asg (.n 2) (.chk (.bin .Mod (.blt .int (.cons (.idx (.m 0) (.c (.int 1))) .nil)) (.v 1)))) (.cons (.set 0 (.c (.int 1)) (.chk (.bin .FloorDiv (.idx (.m 0) (.c (.int 1))) (.v 1)))) (.cons (.ret (.v 2)) .nil)))))
def drawD : Def := { np := 2, n := 3, br := true, fresh := false, ms := [0], body := drawB }
def pickB (k : Nat) : Ss := (.cons (.ret (.idx (.v 1) (.callr k 0 (.cons (.blt .len (.cons (.v 1) .nil)) .nil)))) .nil)
def pickD (k : Nat) : Def := { np := 2, n := 2, br := true, fresh := false, ms := [0], body := pickB k }
def startB : Ss := (.cons (.asg (.n 1) (.c (.int 7))) (.cons (.for (.n 2) (.e (.v 0)) (.cons (.asg (.n 1) (.bin .Add (.bin .Mod (.blt .int (.cons (.bin .Add (.bin .Mult (.v 1) (.c (.int 48271))) (.v 2)) .nil)) (.c (.int 2147483629))) (.c (.int 1)))) .nil)) (.cons (.ret (.lst (.cons (.chk1 (.blt .list (.cons (.v 0) .nil))) (.cons (.c (.int 0)) (.cons (.c (.int 0)) (.cons (.chk (.v 1)) .nil)))))) .nil)))
def startD : Def := { np := 1, n := 3, br := false, fresh := true, ms := [], body := startB }
@[simp] theorem mul_48271 (i : Int) : binop .Mult (.int i) (.int 48271) = some (.int (i * 48271)) := by
  show (if mulOk i 48271 = true then some (PV.int (i * 48271)) else none) = _
  rw [if_pos]
  unfold mulOk
  simp
@[simp] theorem mod_c {i j : Int} (h : j ≠ 0) : binop .Mod (.int i) (.int j) = some (.int (i.fmod j)) := by
  show (if j ≠ 0 then some (PV.int (i.fmod j)) else none) = _
  rw [if_pos h]
theorem fdiv_c {i j : Int} (h0 : 0 < j) (h1 : j < 1073741824) : binop .FloorDiv (.int i) (.int j) = some (.int (i.fdiv j)) := by
  show (if fdivOk j = true then some (PV.int (i.fdiv j)) else none) = _
  rw [if_pos]
  unfold fdivOk
  simp
  omega
theorem ix_lst {l : List PV} {i : Nat} {x : PV} (h : l[i]? = some x) : index (.lst l) (.int (i : Nat)) = some x := by
  have hi : i < l.length := by
    rcases Nat.lt_or_ge i l.length with z | z
    · exact z
    · rw [List.getElem?_eq_none z] at h; cases h
  show atI l (i : Nat) = _
  unfold atI Ev.ixN
  rw [if_pos (by omega), if_pos (by omega)]
  simpa using h
theorem ix_tup {l : List PV} {i : Nat} {x : PV} (h : l[i]? = some x) : index (.tup l) (.int (i : Nat)) = some x := ix_lst h
@[simp] theorem ixL0 {a b c d : PV} : index (.lst [a, b, c, d]) (.int 0) = some a := rfl
@[simp] theorem ixL1 {a b c d : PV} : index (.lst [a, b, c, d]) (.int 1) = some b := rfl
@[simp] theorem ixL2 {a b c d : PV} : index (.lst [a, b, c, d]) (.int 2) = some c := rfl
@[simp] theorem ixL3 {a b c d : PV} : index (.lst [a, b, c, d]) (.int 3) = some d := rfl
@[simp] theorem setL1 {a b c d y : PV} : setP y (.int 1) [a, b, c, d] = some (.lst [a, y, c, d]) := rfl
@[simp] theorem setL2 {a b c d y : PV} : setP y (.int 2) [a, b, c, d] = some (.lst [a, b, y, d]) := rfl
@[simp] theorem setL3 {a b c d y : PV} : setP y (.int 3) [a, b, c, d] = some (.lst [a, b, c, y]) := rfl
@[simp] theorem lf_int {i : Int} : PV.lf (.int i) = true := rfl
@[simp] theorem getL_lst {l : List PV} {env : Env} : getL (.lst l :: env) 0 = .ok (l, .lst l :: env) := rfl
theorem fmod_lo {i j : Int} (h : 0 < j) : 0 ≤ i.fmod j := by
  rw [Int.fmod_eq_emod_of_nonneg i (by omega)]
  exact Int.emod_nonneg i (by omega)
theorem fmod_hi {i j : Int} (h : 0 < j) : i.fmod j < j := by
  rw [Int.fmod_eq_emod_of_nonneg i (by omega)]
  exact Int.emod_lt_of_pos i h
theorem c_draw {W n k : Nat} {P : List Def} (hk : P[k]? = some drawD) (sc : List Int) (a : Int) (i : Nat) (b m : Int) (h0 : 1 ≤ m) (h1 : m < 1073741824) :
    ∃ r a' i' b', callN W P (n + 1) k [stV sc a i b, .int m] = .ok (.int r) (stV sc a' i' b') ∧ 0 ≤ r ∧ r < m := by
  rw [callN_succ hk rfl]
  have m0 : m ≠ 0 := by omega
  have f13 : ∀ x : Int, binop .FloorDiv (.int x) (.int 13) = some (.int (x.fdiv 13)) := fun x => fdiv_c (by decide) (by decide)
  have fm : ∀ x : Int, binop .FloorDiv (.int x) (.int m) = some (.int (x.fdiv m)) := fun x => fdiv_c (by omega) h1
  by_cases ha : a = 0
  · by_cases hi : sc.length ≤ i
    · refine ⟨(((b * 48271 + 69621).fmod 2147483629).fdiv 13).fmod m, a, i, (b * 48271 + 69621).fmod 2147483629, ?_, fmod_lo (by omega), fmod_hi (by omega)⟩
      have hi' : (sc.length : Int) ≤ (i : Int) := by omega
      simp [Ev.finish, drawD, drawB, Ev.start, Ev.get, stV, ha, hi', f13, m0]
    · have hi' : ¬ (sc.length : Int) ≤ (i : Int) := by omega
      have ix : index (.lst (sc.map .int)) (.int (i : Nat)) = some (.int (sc.getD i 0)) := at_int (k := sc) (by omega)
      refine ⟨(if sc.getD i 0 < 0 then -(sc.getD i 0) else sc.getD i 0).fmod m, (if sc.getD i 0 < 0 then -(sc.getD i 0) else sc.getD i 0).fdiv m, i + 1, b, ?_, fmod_lo (by omega), fmod_hi (by omega)⟩
      · simp [Ev.finish, drawD, drawB, Ev.start, Ev.get, stV, ha, hi', ix, m0, fm]
  · refine ⟨a.fmod m, a.fdiv m, i, b, ?_, fmod_lo (by omega), fmod_hi (by omega)⟩
    simp [Ev.finish, drawD, drawB, Ev.start, Ev.get, stV, ha, m0, fm]
theorem forGo_inv {f : PV → Env → Out} : ∀ {l : List PV} {env0 : Env} (I : Nat → Env → Prop) (_ : I 0 env0) (_ : ∀ j x en, l[j]? = some x → I j en → ∃ en', (f x en = .nx en' ∨ f x en = .ct en') ∧ I (j + 1) en'), ∃ en', forGo f l env0 = .nx en' ∧ I l.length en'
  | [], env0, I, h0, _ => ⟨env0, rfl, h0⟩
  | x :: l, env0, I, h0, hs => by
    obtain ⟨en1, h1, i1⟩ := hs 0 x env0 rfl h0
    obtain ⟨en2, h2, i2⟩ := forGo_inv (l := l) (env0 := en1) (fun j => I (j + 1)) i1 fun j y en hy hI => hs (j + 1) y en (by simpa using hy) hI
    refine ⟨en2, ?_, i2⟩
    unfold forGo
    rcases h1 with h1 | h1 <;> rw [h1] <;> exact h2
theorem for_inv {C : Calls} {W : Nat} {t : T} {it : It} {b : Ss} {env env1 : Env} {l : List PV} (hi : evalI C it env = .ok (l, env1)) (I : Nat → Env → Prop) (h0 : I 0 env1)
    (hs : ∀ j x en, l[j]? = some x → I j en → ∃ en1 en', assign t x en = some en1 ∧ (evalSs C W b en1 = .nx en' ∨ evalSs C W b en1 = .ct en') ∧ I (j + 1) en') : ∃ en', evalS C W (.for t it b) env = .nx en' ∧ I l.length en' := by
  rw [eS_for, hi]
  refine forGo_inv I h0 fun j x en hx hI => ?_
  obtain ⟨en1, en', h1, h2, h3⟩ := hs j x en hx hI
  refine ⟨en', ?_, h3⟩
  rw [h1]
  exact h2
theorem c_start {W n k : Nat} {P : List Def} (hk : P[k]? = some startD) (sc : List Int) : ∃ b, callN W P (n + 1) k [.scr (sc.map .int)] = .ok (stV sc 0 0 b) .undef := by
  rw [callN_succ hk rfl]
  obtain ⟨en, h1, b, c, rfl⟩ := for_inv (C := callN W P n) (W := W) (t := .n 2) (it := .e (.v 0)) (b := (.cons (.asg (.n 1) (.bin .Add (.bin .Mod (.blt .int (.cons (.bin .Add (.bin .Mult (.v 1) (.c (.int 48271))) (.v 2)) .nil)) (.c (.int 2147483629))) (.c (.int 1)))) .nil))
    (env := [.scr (sc.map .int), .int 7, .undef]) (env1 := [.scr (sc.map .int), .int 7, .undef]) (l := sc.map .int) rfl (fun _ en => ∃ b c, en = [.scr (sc.map .int), .int b, c]) ⟨7, .undef, rfl⟩ fun j x en hx hI => by
      obtain ⟨b, c, rfl⟩ := hI
      rw [List.getElem?_map] at hx
      cases e : sc[j]? with
      | none => rw [e] at hx; cases hx
      | some z =>
        rw [e] at hx
        cases hx
        exact ⟨[.scr (sc.map .int), .int b, .int z], [.scr (sc.map .int), .int ((b * 48271 + z).fmod 2147483629 + 1), .int z], rfl, .inl (by simp [Ev.get]), _, _, rfl⟩
  refine ⟨b, ?_⟩
  have bl : evalB .list [.scr (sc.map .int)] = some (.lst (sc.map .int)) := rfl
  simp [Ev.finish, startD, startB, Ev.start, Ev.get, h1, bl, lfs_ints, stV]
theorem c_pick {W n k j : Nat} {P : List Def} (hk : P[k]? = some (pickD j)) (hj : P[j]? = some drawD) (sc : List Int) (a : Int) (i : Nat) (b : Int) (some_ : PV) (l : List PV) (hs : some_ = .lst l ∨ some_ = .tup l) (h0 : l ≠ []) (h1 : l.length < 1073741824) :
    ∃ x a' i' b', callN W P (n + 2) k [stV sc a i b, some_] = .ok x (stV sc a' i' b') ∧ x ∈ l := by
  have hl : 1 ≤ l.length := by
    cases l with
    | nil => exact absurd rfl h0
    | cons x l => simp
  obtain ⟨r, a', i', b', hc, r0, r1⟩ := c_draw (W := W) (n := n) hj sc a i b (l.length : Int) (by omega) (by omega)
  have er : ((r.toNat : Nat) : Int) = r := by omega
  have lt : r.toNat < l.length := by omega
  refine ⟨l[r.toNat], a', i', b', ?_, List.getElem_mem _⟩
  rw [callN_succ hk rfl]
  have i0 : index (.lst l) (.int ((r.toNat : Nat) : Int)) = some l[r.toNat] := ix_lst (by simp [lt])
  have i1 : index (.lst l) (.int r) = some l[r.toNat] := (congrArg (fun z => index (.lst l) (.int z)) er).symm.trans i0
  have i2 : index (.tup l) (.int r) = some l[r.toNat] := i1
  have st : ∀ a i b, Ev.get [stV sc a i b, some_] 0 = .ok (stV sc a i b, [stV sc a i b, some_]) := fun a i b => rfl
  rcases hs with rfl | rfl
  · have g1 : ∀ x, Ev.get [x, .lst l] 1 = .ok (.lst l, [x, .lst l]) := fun _ => rfl
    simp [Ev.finish, pickD, pickB, Ev.start, g1, st, hc, i1]
    rfl
  · have g1 : ∀ x, Ev.get [x, .tup l] 1 = .ok (.tup l, [x, .tup l]) := fun _ => rfl
    simp [Ev.finish, pickD, pickB, Ev.start, g1, st, hc, i2]
    rfl
@[simp] theorem get_st {sc : List Int} {a : Int} {i : Nat} {b : Int} {env : Env} : Ev.get (stV sc a i b :: env) 0 = .ok (stV sc a i b, stV sc a i b :: env) := rfl
@[simp] theorem get_int1 {x : PV} {i : Int} {env : Env} : Ev.get (x :: .int i :: env) 1 = .ok (.int i, x :: .int i :: env) := rfl
/-- a pick out of ints -/
theorem c_pickI {W n k j : Nat} {P : List Def} (hk : P[k]? = some (pickD j)) (hj : P[j]? = some drawD) (sc : List Int) (a : Int) (i : Nat) (b : Int) (L : List Int) (h0 : L ≠ []) (h1 : L.length < 1073741824) :
    ∃ z a' i' b', callN W P (n + 2) k [stV sc a i b, .lst (L.map .int)] = .ok (.int z) (stV sc a' i' b') ∧ z ∈ L := by
  obtain ⟨x, a', i', b', h, hx⟩ := c_pick (W := W) (n := n) hk hj sc a i b (.lst (L.map .int)) (L.map .int) (.inl rfl) (by simpa using h0) (by simpa using h1)
  obtain ⟨z, hz, rfl⟩ := List.mem_map.mp hx
  exact ⟨z, a', i', b', h, hz⟩
theorem fin_st {d : Def} {v : PV} {sc : List Int} {a : Int} {i : Nat} {b : Int} {env : Env} (h : d.br = true) : Ev.finish d (.rt v (stV sc a i b :: env)) = .ok v (stV sc a i b) := by
  show (if d.br = true then _ else _) = _
  rw [if_pos h]
  rfl
theorem fin_no {d : Def} {v : PV} {env : Env} (h : d.br = false) : Ev.finish d (.rt v env) = .ok v .undef := by
  show (if d.br = true then _ else _) = _
  rw [if_neg (by rw [h]; exact Bool.false_ne_true)]
theorem fin_nx {d : Def} {env : Env} (h : d.br = false) : Ev.finish d (.nx env) = .ok .non .undef := by
  show (if d.br = true then _ else _) = _
  rw [if_neg (by rw [h]; exact Bool.false_ne_true)]
theorem ix_last {L : List Int} (h : L ≠ []) : index (.lst (L.map .int)) (.int (-1)) = some (.int (L.getD (L.length - 1) 0)) := by
  have hl : 0 < L.length := List.length_pos_iff.mpr h
  show atI (L.map PV.int) (-1) = _
  unfold atI Ev.ixN
  rw [if_neg (by omega), if_pos (by rw [List.length_map]; omega)]
  rw [List.length_map]
  have e : ((-1 : Int) + (L.length : Nat)).toNat = L.length - 1 := by omega
  rw [e]
  simp [List.getD_eq_getElem?_getD, show L.length - 1 < L.length by omega]
theorem ix_first {L : List Int} (h : L ≠ []) : index (.lst (L.map .int)) (.int 0) = some (.int (L.getD 0 0)) := by
  have hl : 0 < L.length := List.length_pos_iff.mpr h
  have := at_int (k := L) (i := 0) hl
  exact this
theorem getD_mem {L : List Int} {i : Nat} (h : i < L.length) : L.getD i 0 ∈ L := by
  rw [List.getD_eq_getElem?_getD, List.getElem?_eq_getElem h]
  exact List.getElem_mem h
theorem sm62 {i : Int} (h0 : -1000000 ≤ i) (h1 : i ≤ 1000000) : small62 i = true := by
  rw [small62_iff]
  constructor <;> omega
theorem ranges1 {j : Int} (h : -1000000 ≤ j) (h1 : j ≤ 1000000) : ranges [.int j] = some (rng 0 j.toNat) := by
  show (if small62 j = true then some (rng 0 j.toNat) else none) = _
  rw [if_pos (sm62 h h1)]
theorem ranges2 {i j : Int} (h : -1000000 ≤ i) (h1 : i ≤ 1000000) (h2 : -1000000 ≤ j) (h3 : j ≤ 1000000) : ranges [.int i, .int j] = some (rng i (j - i).toNat) := by
  show (if (small62 i && small62 j) = true then some (rng i (j - i).toNat) else none) = _
  rw [if_pos (by rw [sm62 h h1, sm62 h2 h3]; rfl)]
theorem eI_rng2 {C : Calls} {a b : E} {env env1 env2 : Env} {i j : Int} {l : List PV} (ha : evalE C a env = .ok (.int i, env1)) (hb : evalE C b env1 = .ok (.int j, env2)) (hr : ranges [.int i, .int j] = some l) : evalI C (.rng (.cons a (.cons b .nil))) env = .ok (l, env2) := by
  rw [eI_rng, eA_cons, ha]
  show ((evalEs C (.cons b .nil) env1).bind _).bind _ = _
  rw [eA_cons, hb]
  show (ofO (ranges [.int i, .int j])).bind _ = _
  rw [hr]
  rfl
theorem eI_rng1 {C : Calls} {a : E} {env env1 : Env} {i : Int} {l : List PV} (ha : evalE C a env = .ok (.int i, env1)) (hr : ranges [.int i] = some l) : evalI C (.rng (.cons a .nil)) env = .ok (l, env1) := by
  rw [eI_rng, eA_cons, ha]
  show (ofO (ranges [.int i])).bind _ = _
  rw [hr]
  rfl
end Ev

/-! EvM4: the least of rows of digits. -/
namespace Ev
open PySem
theorem alike_ints : ∀ (a b : List Int), PySem.W.alikeAll (PV.pds (a.map .int)) (PV.pds (b.map .int)) = true
  | [], _ => by simp [PV.pds, PySem.W.alikeAll]
  | x :: a, [] => by simp [PV.pds, PySem.W.alikeAll]
  | x :: a, y :: b => by simp [PV.pds, PV.pd, PySem.W.alikeAll, PySem.W.alike, alike_ints a b]
theorem best_in {lt : PV → PV → Bool} : ∀ {x : PV} {l : List PV}, best lt x l = x ∨ best lt x l ∈ l
  | x, [] => .inl rfl
  | x, y :: l => by
    unfold best
    split
    · rcases best_in (lt := lt) (x := y) (l := l) with h | h
      · rw [h]; exact .inr (by simp)
      · exact .inr (by simp [h])
    · rcases best_in (lt := lt) (x := x) (l := l) with h | h
      · exact .inl h
      · exact .inr (by simp [h])
theorem datas_ints : ∀ (a : List Int), PV.datas (a.map .int) = true
  | [] => rfl
  | x :: a => by simp [PV.datas, PV.data, datas_ints a]
theorem depth_ints : ∀ (a : List Int), PyData.depthAll (PV.pds (a.map .int)) = 0
  | [] => rfl
  | x :: a => by simp [PV.pds, PV.pd, PyData.depthAll, PyData.depth, depth_ints a]
theorem lt_rows (a b : List Int) : ltOk (.tup (a.map .int)) (.tup (b.map .int)) = true := by
  unfold ltOk
  simp [PV.data, datas_ints, PV.pd, PySem.W.alike, alike_ints, PyData.depth, depth_ints]
theorem pmin_rows {l : List (List Int)} (h : l ≠ []) : ∃ m ∈ l, pmin (l.map fun k => PV.tup (k.map .int)) = some (.tup (m.map .int)) := by
  cases l with
  | nil => exact absurd rfl h
  | cons x l =>
    have ok : ordOk ((x :: l).map fun k => PV.tup (k.map .int)) = true := by
      unfold ordOk
      rw [List.all_eq_true]
      intro p hp
      rw [List.all_eq_true]
      intro q hq
      obtain ⟨a, _, rfl⟩ := List.mem_map.mp hp
      obtain ⟨b, _, rfl⟩ := List.mem_map.mp hq
      exact lt_rows a b
    have e : pmin ((x :: l).map fun k => PV.tup (k.map .int)) = some (best (fun a b => PySem.W.dataLt a.pd b.pd) (.tup (x.map .int)) (l.map fun k => PV.tup (k.map .int))) := if_pos ok
    rw [e]
    rcases best_in (lt := fun a b => PySem.W.dataLt a.pd b.pd) (x := .tup (x.map .int)) (l := l.map fun k => PV.tup (k.map .int)) with h | h
    · exact ⟨x, by simp, by rw [h]⟩
    · obtain ⟨m, hm, e2⟩ := List.mem_map.mp h
      exact ⟨m, by simp [hm], by rw [← e2]⟩
end Ev

namespace K03
open PySem PySem.Spec PyProof.Rows L2 Ev
def top (i : Nat) : Stmt := PySem.Challenge.pw_opensjust_k03_whole_ways.main.body.getD i (.Pass ⟨0, 0, 0, 0⟩)
def s_is_integer : Stmt := top 5
def b_is_integer : Ss := (.cons (.ret (.and (.isi (.v 0) .int) (.not (.isi (.v 0) .bool)))) .nil)
def d_is_integer : Ev.Def := { np := 1, n := 1, br := false, fresh := false, ms := [], body := b_is_integer }
def i_is_integer : DefI := ⟨⟨("is_integer", none), "is_integer", "is_integer", defArgs s_is_integer, defBody s_is_integer, defScope s_is_integer, [], []⟩, d_is_integer, ["value"], ["value"]⟩
def s_check_system : Stmt := top 10
def b_check_system : Ss := (.cons (.ite (.or (.not (.isi (.v 0) .tuple)) (.or (.cmp .NotEq (.blt .len (.cons (.v 0) .nil)) (.c (.int 3))) (.not (.blt .all (.cons (.comp [4] (.n 4) (.e (.v 0)) .no (.call 0 (.cons (.v 4) .nil))) .nil))))) (.cons .bad .nil) .nil) (.cons (.asg (.cons (.n 1) (.cons (.n 2) (.cons (.n 3) .nil))) (.v 0)) (.cons (.ite (.or (.not (.cmp2 .LtE .LtE (.c (.int 1)) (.v 1) (.g "MAX_PINS" (.int (7))))) (.or (.not (.cmp2 .LtE .LtE (.c (.int 2)) (.v 2) (.g "MAX_DEPTHS" (.int (10))))) (.not (.cmp2 .LtE .LtE (.c (.int 0)) (.v 3) (.g "MAX_STEP" (.int (9))))))) (.cons .bad .nil) .nil) .nil)))
def d_check_system : Ev.Def := { np := 1, n := 5, br := false, fresh := false, ms := [], body := b_check_system }
def i_check_system : DefI := ⟨⟨("check_system", none), "check_system", "check_system", defArgs s_check_system, defBody s_check_system, defScope s_check_system, [], []⟩, d_check_system, ["system", "pins", "depths", "step", "part"], ["system"]⟩
def s_key_reason : Stmt := top 11
def b_key_reason : Ss := (.cons (.asg (.cons (.n 2) (.cons (.n 3) (.cons (.n 4) .nil))) (.v 0)) (.cons (.ite (.or (.not (.isi (.v 1) .tuple)) (.or (.cmp .NotEq (.blt .len (.cons (.v 1) .nil)) (.v 2)) (.not (.blt .all (.cons (.comp [5] (.n 5) (.e (.v 1)) .no (.call 0 (.cons (.v 5) .nil))) .nil))))) (.cons (.ret (.c (.str "form"))) .nil) .nil) (.cons (.ite (.not (.blt .all (.cons (.comp [5] (.n 5) (.e (.v 1)) .no (.cmp2 .LtE .Lt (.c (.int 0)) (.v 5) (.v 3))) .nil))) (.cons (.ret (.c (.str "cut"))) .nil) .nil) (.cons (.ite (.not (.blt .all (.cons (.comp [6] (.n 6) (.rng (.cons (.bin .Sub (.v 2) (.c (.int 1))) .nil)) .no (.cmp .LtE (.blt .abs (.cons (.bin .Sub (.idx (.v 1) (.v 6)) (.idx (.v 1) (.bin .Add (.v 6) (.c (.int 1))))) .nil)) (.v 4))) .nil))) (.cons (.ret (.c (.str "step"))) .nil) .nil) (.cons (.ret (.c .non)) .nil)))))
def d_key_reason : Ev.Def := { np := 2, n := 7, br := false, fresh := false, ms := [], body := b_key_reason }
def i_key_reason : DefI := ⟨⟨("key_reason", none), "key_reason", "key_reason", defArgs s_key_reason, defBody s_key_reason, defScope s_key_reason, [], []⟩, d_key_reason, ["system", "key", "pins", "depths", "step", "cut", "at"], ["system", "key"]⟩
def s_check_key : Stmt := top 12
def b_check_key : Ss := (.cons (.ex (.call 1 (.cons (.v 0) .nil))) (.cons (.asg (.n 2) (.call 2 (.cons (.v 0) (.cons (.v 1) .nil)))) (.cons (.ite (.cmp .IsNot (.v 2) (.c .non)) (.cons .bad .nil) .nil) .nil)))
def d_check_key : Ev.Def := { np := 2, n := 3, br := false, fresh := false, ms := [], body := b_check_key }
def i_check_key : DefI := ⟨⟨("check_key", none), "check_key", "check_key", defArgs s_check_key, defBody s_check_key, defScope s_check_key, [], []⟩, d_check_key, ["system", "key", "reason"], ["system", "key"]⟩
def s_way_between : Stmt := top 13
def b_way_between : Ss := (.cons (.ex (.call 3 (.cons (.v 0) (.cons (.v 1) .nil)))) (.cons (.ex (.call 3 (.cons (.v 0) (.cons (.v 2) .nil)))) (.cons (.asg (.n 3) (.v 1)) (.cons (.masg 4 (.lst (.cons (.chk (.v 1)) .nil))) (.cons (.whl (.cmp .NotEq (.v 3) (.v 2)) (.cons (.asg (.n 5) (.call 6 (.cons (.v 3) (.cons (.v 2) .nil)))) (.cons (.asg (.n 6) (.comp [7] (.n 7) (.e (.call 5 (.cons (.v 0) (.cons (.v 3) .nil)))) (.so (.cmp .Lt (.call 6 (.cons (.v 7) (.cons (.v 2) .nil))) (.v 5))) (.v 7))) (.cons (.ite (.not (.v 6)) (.cons (.ret (.c .non)) .nil) .nil) (.cons (.asg (.n 3) (.blt .min (.cons (.v 6) .nil))) (.cons (.app 4 (.chk (.v 3))) .nil)))))) (.cons (.ret (.chk (.blt .tuple (.cons (.m 4) .nil)))) .nil))))))
def d_way_between : Ev.Def := { np := 3, n := 8, br := false, fresh := false, ms := [4], body := b_way_between }
def i_way_between : DefI := ⟨⟨("way_between", none), "way_between", "way_between", defArgs s_way_between, defBody s_way_between, defScope s_way_between, [], []⟩, d_way_between, ["system", "first", "second", "key", "row", "far", "rows", "other"], ["system", "first", "second"]⟩
def s_neighbours : Stmt := top 14
def b_neighbours : Ss := (.cons (.masg 2 (.lst .nil)) (.cons (.for (.n 3) (.rng (.cons (.idx (.v 0) (.c (.int 0))) .nil)) (.cons (.for (.n 4) (.e (.tup (.cons (.bin .Sub (.idx (.v 1) (.v 3)) (.c (.int 1))) (.cons (.bin .Add (.idx (.v 1) (.v 3)) (.c (.int 1))) .nil)))) (.cons (.asg (.n 5) (.bin .Add (.bin .Add (.sl (.v 1) .no (.so (.v 3))) (.tup (.cons (.v 4) .nil))) (.sl (.v 1) (.so (.bin .Add (.v 3) (.c (.int 1)))) .no))) (.cons (.ite (.cmp .Is (.call 2 (.cons (.v 0) (.cons (.v 5) .nil))) (.c .non)) (.cons (.app 2 (.chk (.v 5))) .nil) .nil) .nil))) .nil)) (.cons (.ret (.mv 2)) .nil)))
def d_neighbours : Ev.Def := { np := 2, n := 6, br := false, fresh := true, ms := [2], body := b_neighbours }
def i_neighbours : DefI := ⟨⟨("neighbours", none), "neighbours", "neighbours", defArgs s_neighbours, defBody s_neighbours, defScope s_neighbours, [], []⟩, d_neighbours, ["system", "key", "found", "pin", "cut", "other"], ["system", "key"]⟩
def s_distance : Stmt := top 15
def b_distance : Ss := (.cons (.ret (.blt .sum (.cons (.comp [2, 3] (.cons (.n 2) (.cons (.n 3) .nil)) (.zip (.cons (.v 0) (.cons (.v 1) .nil))) .no (.blt .abs (.cons (.bin .Sub (.v 2) (.v 3)) .nil))) .nil))) .nil)
def d_distance : Ev.Def := { np := 2, n := 4, br := false, fresh := false, ms := [], body := b_distance }
def i_distance : DefI := ⟨⟨("distance", none), "distance", "distance", defArgs s_distance, defBody s_distance, defScope s_distance, [], []⟩, d_distance, ["first", "second", "one", "other"], ["first", "second"]⟩
def s_law_start : Stmt := top 17
def b_law_start : Ss := (.cons (.asg (.n 1) (.c (.int 7))) (.cons (.for (.n 2) (.e (.v 0)) (.cons (.asg (.n 1) (.bin .Add (.bin .Mod (.blt .int (.cons (.bin .Add (.bin .Mult (.v 1) (.c (.int 48271))) (.v 2)) .nil)) (.c (.int 2147483629))) (.c (.int 1)))) .nil)) (.cons (.ret (.lst (.cons (.chk1 (.blt .list (.cons (.v 0) .nil))) (.cons (.c (.int 0)) (.cons (.c (.int 0)) (.cons (.chk (.v 1)) .nil)))))) .nil)))
def d_law_start : Ev.Def := { np := 1, n := 3, br := false, fresh := true, ms := [], body := b_law_start }
def i_law_start : DefI := ⟨⟨("_law_start", none), "_law_start", "_law_start", defArgs s_law_start, defBody s_law_start, defScope s_law_start, [], []⟩, d_law_start, ["script", "seed", "cell"], ["script"]⟩
def s_law_draw : Stmt := top 18
def b_law_draw : Ss := (.cons (.ite (.and (.cmp .Eq (.idx (.m 0) (.c (.int 1))) (.c (.int 0))) (.cmp .GtE (.idx (.m 0) (.c (.int 2))) (.blt .len (.cons (.idx (.m 0) (.c (.int 0))) .nil)))) (.cons (.set 0 (.c (.int 3)) (.chk (.bin .Mod (.blt .int (.cons (.bin .Add (.bin .Mult (.idx (.m 0) (.c (.int 3))) (.c (.int 48271))) (.c (.int 69621))) .nil)) (.c (.int 2147483629))))) (.cons (.ret (.chk (.bin .Mod (.blt .int (.cons (.bin .FloorDiv (.idx (.m 0) (.c (.int 3))) (.c (.int 13))) .nil)) (.v 1)))) .nil)) .nil) (.cons (.ite (.cmp .Eq (.idx (.m 0) (.c (.int 1))) (.c (.int 0))) (.cons (.set 0 (.c (.int 1)) (.chk (.blt .abs (.cons (.idx (.idx (.m 0) (.c (.int 0))) (.idx (.m 0) (.c (.int 2)))) .nil)))) (.cons (.set 0 (.c (.int 2)) (.chk (.bin .Add (.idx (.m 0) (.c (.int 2))) (.c (.int 1))))) .nil)) .nil) (.cons (.asg (.n 2) (.chk (.bin .Mod (.blt .int (.cons (.idx (.m 0) (.c (.int 1))) .nil)) (.v 1)))) (.cons (.set 0 (.c (.int 1)) (.chk (.bin .FloorDiv (.idx (.m 0) (.c (.int 1))) (.v 1)))) (.cons (.ret (.v 2)) .nil)))))
def d_law_draw : Ev.Def := { np := 2, n := 3, br := true, fresh := false, ms := [0], body := b_law_draw }
def i_law_draw : DefI := ⟨⟨("_law_draw", none), "_law_draw", "_law_draw", defArgs s_law_draw, defBody s_law_draw, defScope s_law_draw, [], []⟩, d_law_draw, ["state", "many", "value"], ["state", "many"]⟩
def s_law_pick : Stmt := top 19
def b_law_pick : Ss := (.cons (.ret (.idx (.v 1) (.callr 8 0 (.cons (.blt .len (.cons (.v 1) .nil)) .nil)))) .nil)
def d_law_pick : Ev.Def := { np := 2, n := 2, br := true, fresh := false, ms := [0], body := b_law_pick }
def i_law_pick : DefI := ⟨⟨("_law_pick", none), "_law_pick", "_law_pick", defArgs s_law_pick, defBody s_law_pick, defScope s_law_pick, [], []⟩, d_law_pick, ["state", "some"], ["state", "some"]⟩
def s_law_same : Stmt := top 20
def b_law_same : Ss := (.cons (.ret (.and (.cmp .Eq (.v 0) (.v 1)) (.cmp .Eq (.blt .repr (.cons (.v 0) .nil)) (.blt .repr (.cons (.v 1) .nil))))) .nil)
def d_law_same : Ev.Def := { np := 2, n := 2, br := false, fresh := false, ms := [], body := b_law_same }
def i_law_same : DefI := ⟨⟨("_law_same", none), "_law_same", "_law_same", defArgs s_law_same, defBody s_law_same, defScope s_law_same, [], []⟩, d_law_same, ["actual", "due"], ["actual", "due"]⟩
def s_law_system : Stmt := top 21
def b_law_system : Ss := (.cons (.asg (.cons (.n 1) (.cons (.n 2) .nil)) (.tup (.cons (.callr 9 0 (.cons (.lst (.cons (.c (.int 1)) (.cons (.c (.int 2)) (.cons (.c (.int 3)) (.cons (.c (.int 3)) (.cons (.c (.int 4)) (.cons (.c (.int 5)) (.cons (.c (.int 6)) (.cons (.c (.int 7)) .nil))))))))) .nil)) (.cons (.callr 9 0 (.cons (.lst (.cons (.c (.int 2)) (.cons (.c (.int 3)) (.cons (.c (.int 4)) (.cons (.c (.int 5)) (.cons (.c (.int 7)) (.cons (.c (.int 10)) .nil))))))) .nil)) .nil)))) (.cons (.ret (.tup (.cons (.v 1) (.cons (.v 2) (.cons (.callr 9 0 (.cons (.lst (.cons (.c (.int 0)) (.cons (.c (.int 1)) (.cons (.c (.int 1)) (.cons (.c (.int 2)) (.cons (.c (.int 3)) (.cons (.bin .Sub (.v 2) (.c (.int 1))) (.cons (.c (.int 9)) .nil)))))))) .nil)) .nil))))) .nil))
def d_law_system : Ev.Def := { np := 1, n := 3, br := true, fresh := false, ms := [0], body := b_law_system }
def i_law_system : DefI := ⟨⟨("_law_system", none), "_law_system", "_law_system", defArgs s_law_system, defBody s_law_system, defScope s_law_system, [], []⟩, d_law_system, ["state", "pins", "depths"], ["state"]⟩
def s_law_key : Stmt := top 22
def b_law_key : Ss := (.cons (.asg (.cons (.n 4) (.cons (.n 5) (.cons (.n 6) .nil))) (.v 1)) (.cons (.masg 2 (.lst (.cons (.chk (.callr 9 0 (.cons (.lst (.cons (.chk (.callr 8 0 (.cons (.v 5) .nil))) (.cons (.c (.int 0)) (.cons (.chk (.bin .Sub (.v 5) (.c (.int 1)))) .nil)))) .nil))) .nil))) (.cons (.for (.n 3) (.rng (.cons (.c (.int 1)) (.cons (.v 4) .nil))) (.cons (.asg (.n 7) (.comp [8] (.n 8) (.rng (.cons (.v 5) .nil)) (.so (.cmp .LtE (.blt .abs (.cons (.bin .Sub (.v 8) (.idx (.m 2) (.neg (.c (.int 1))))) .nil)) (.v 6))) (.v 8))) (.cons (.app 2 (.chk (.callr 9 0 (.cons (.lst (.cons (.chk (.idx (.v 7) (.c (.int 0)))) (.cons (.chk (.idx (.v 7) (.neg (.c (.int 1))))) (.cons (.chk (.callr 9 0 (.cons (.v 7) .nil))) (.cons (.chk (.callr 9 0 (.cons (.v 7) .nil))) .nil))))) .nil)))) .nil))) (.cons (.ret (.chk (.blt .tuple (.cons (.m 2) .nil)))) .nil))))
def d_law_key : Ev.Def := { np := 2, n := 9, br := true, fresh := false, ms := [0, 2], body := b_law_key }
def i_law_key : DefI := ⟨⟨("_law_key", none), "_law_key", "_law_key", defArgs s_law_key, defBody s_law_key, defScope s_law_key, [], []⟩, d_law_key, ["state", "system", "key", "pin", "pins", "depths", "step", "near", "cut"], ["state", "system"]⟩
def s_law_far : Stmt := top 23
def b_law_far : Ss := (.cons (.ret (.blt .sum (.cons (.comp [2] (.n 2) (.rng (.cons (.blt .len (.cons (.v 0) .nil)) .nil)) .no (.blt .abs (.cons (.bin .Sub (.idx (.v 0) (.v 2)) (.idx (.v 1) (.v 2))) .nil))) .nil))) .nil)
def d_law_far : Ev.Def := { np := 2, n := 3, br := false, fresh := false, ms := [], body := b_law_far }
def i_law_far : DefI := ⟨⟨("_law_far", none), "_law_far", "_law_far", defArgs s_law_far, defBody s_law_far, defScope s_law_far, [], []⟩, d_law_far, ["first", "second", "k"], ["first", "second"]⟩
def s_law_is_key : Stmt := top 24
def b_law_is_key : Ss := (.cons (.ite (.comp [2] (.n 2) (.e (.v 1)) (.so (.not (.cmp2 .LtE .Lt (.c (.int 0)) (.v 2) (.idx (.v 0) (.c (.int 1)))))) (.v 2)) (.cons (.ret (.c (.bl false))) .nil) .nil) (.cons (.ret (.not (.comp [3] (.n 3) (.rng (.cons (.c (.int 1)) (.cons (.blt .len (.cons (.v 1) .nil)) .nil))) (.so (.cmp .Gt (.blt .abs (.cons (.bin .Sub (.idx (.v 1) (.v 3)) (.idx (.v 1) (.bin .Sub (.v 3) (.c (.int 1))))) .nil)) (.idx (.v 0) (.c (.int 2))))) (.v 3)))) .nil))
def d_law_is_key : Ev.Def := { np := 2, n := 4, br := false, fresh := false, ms := [], body := b_law_is_key }
def i_law_is_key : DefI := ⟨⟨("_law_is_key", none), "_law_is_key", "_law_is_key", defArgs s_law_is_key, defBody s_law_is_key, defScope s_law_is_key, [], []⟩, d_law_is_key, ["system", "key", "cut", "k"], ["system", "key"]⟩
def s_law_following : Stmt := top 25
def b_law_following : Ss := (.cons (.masg 3 (.lst .nil)) (.cons (.for (.n 4) (.rng (.cons (.idx (.v 0) (.c (.int 0))) .nil)) (.cons (.ite (.cmp .NotEq (.idx (.v 1) (.v 4)) (.idx (.v 2) (.v 4))) (.cons (.asg (.n 5) (.ife (.cmp .Lt (.idx (.v 1) (.v 4)) (.idx (.v 2) (.v 4))) (.c (.int 1)) (.neg (.c (.int 1))))) (.cons (.asg (.n 6) (.bin .Add (.bin .Add (.sl (.v 1) .no (.so (.v 4))) (.tup (.cons (.bin .Add (.idx (.v 1) (.v 4)) (.v 5)) .nil))) (.sl (.v 1) (.so (.bin .Add (.v 4) (.c (.int 1)))) .no))) (.cons (.ite (.call 14 (.cons (.v 0) (.cons (.v 6) .nil))) (.cons (.app 3 (.chk (.v 6))) .nil) .nil) .nil))) .nil) .nil)) (.cons (.ret (.chk (.ife (.m 3) (.blt .min (.cons (.m 3) .nil)) (.c .non)))) .nil)))
def d_law_following : Ev.Def := { np := 3, n := 7, br := false, fresh := false, ms := [3], body := b_law_following }
def i_law_following : DefI := ⟨⟨("_law_following", none), "_law_following", "_law_following", defArgs s_law_following, defBody s_law_following, defScope s_law_following, [], []⟩, d_law_following, ["system", "key", "goal", "found", "pin", "step", "other"], ["system", "key", "goal"]⟩
def s_law : Stmt := top 26
def b_law : Ss := (.cons (.masg 1 (.call 7 (.cons (.v 0) .nil))) (.cons (.for (.n 2) (.rng (.cons (.c (.int 12)) .nil)) (.cons (.asg (.n 3) (.callr 11 1 .nil)) (.cons (.asg (.cons (.n 7) (.cons (.n 8) .nil)) (.tup (.cons (.callr 12 1 (.cons (.v 3) .nil)) (.cons (.callr 12 1 (.cons (.v 3) .nil)) .nil)))) (.cons (.ite (.cmp .Eq (.callr 8 1 (.cons (.c (.int 9)) .nil)) (.c (.int 0))) (.cons (.asg (.n 8) (.v 7)) .nil) .nil) (.cons (.asg (.n 4) (.call 4 (.cons (.v 3) (.cons (.v 7) (.cons (.v 8) .nil))))) (.cons (.ite (.and (.cmp .Eq (.idx (.v 3) (.c (.int 2))) (.c (.int 0))) (.and (.cmp .Gt (.idx (.v 3) (.c (.int 0))) (.c (.int 1))) (.cmp .NotEq (.v 7) (.v 8)))) (.cons (.ite (.cmp .IsNot (.v 4) (.c .non)) (.cons (.ret (.c (.bl false))) .nil) .nil) (.cons .cont .nil)) .nil) (.cons (.masg 5 (.lst (.cons (.chk (.v 7)) .nil))) (.cons (.for (.n 6) (.rng (.cons (.call 13 (.cons (.v 7) (.cons (.v 8) .nil))) .nil)) (.cons (.app 5 (.chk (.call 15 (.cons (.v 3) (.cons (.idx (.m 5) (.neg (.c (.int 1)))) (.cons (.v 8) .nil)))))) .nil)) (.cons (.ite (.or (.not (.call 10 (.cons (.v 4) (.cons (.blt .tuple (.cons (.m 5) .nil)) .nil)))) (.or (.cmp .NotEq (.idx (.m 5) (.neg (.c (.int 1)))) (.v 8)) (.comp [9] (.n 9) (.e (.v 4)) (.so (.cmp .IsNot (.call 3 (.cons (.v 3) (.cons (.v 9) .nil))) (.c .non))) (.c (.int 1))))) (.cons (.ret (.c (.bl false))) .nil) .nil) .nil))))))))) (.cons (.ret (.c (.bl true))) .nil)))
def d_law : Ev.Def := { np := 1, n := 10, br := false, fresh := false, ms := [1, 5], body := b_law }
def i_law : DefI := ⟨⟨("law", none), "law", "law", defArgs s_law, defBody s_law, defScope s_law, [], []⟩, d_law, ["script", "state", "turn", "system", "told", "due", "k", "first", "second", "key"], ["script"]⟩
def DI : List DefI := [i_is_integer, i_check_system, i_key_reason, i_check_key, i_way_between, i_neighbours, i_distance, i_law_start, i_law_draw, i_law_pick, i_law_same, i_law_system, i_law_key, i_law_far, i_law_is_key, i_law_following, i_law]
def cs : List (Str × PV) := [("MAX_PINS", .int (7)), ("MAX_DEPTHS", .int (10)), ("MAX_STEP", .int (9))]
def lawAt : Nat := 26
def lawNo : Nat := 16
def loose : List Str := ["LockError", "CutError", "ArgumentError", "is_integer", "MAX_PINS", "MAX_DEPTHS", "MAX_STEP", "check_system", "key_reason", "check_key", "way_between", "neighbours", "distance", "_law_start", "_law_draw", "_law_pick", "_law_same", "_law_system", "_law_key", "_law_far", "_law_is_key", "_law_following"]
theorem bi_is_integer {K : PySem.W.Frag} {f : Addr} {fd : FuncData} (F : FunD K i_is_integer.he.name i_is_integer.he.qual i_is_integer.he.params i_is_integer.he.body i_is_integer.he.scope [] [] f fd) : Binds K fd i_is_integer.ps [] :=
  FunD.bindsN (ps := ["value"]) F fun _ _ _ _ _ _ us hl => match us, hl with | [_], _ => rfl
theorem bi_check_system {K : PySem.W.Frag} {f : Addr} {fd : FuncData} (F : FunD K i_check_system.he.name i_check_system.he.qual i_check_system.he.params i_check_system.he.body i_check_system.he.scope [] [] f fd) : Binds K fd i_check_system.ps [] :=
  FunD.bindsN (ps := ["system"]) F fun _ _ _ _ _ _ us hl => match us, hl with | [_], _ => rfl
theorem bi_key_reason {K : PySem.W.Frag} {f : Addr} {fd : FuncData} (F : FunD K i_key_reason.he.name i_key_reason.he.qual i_key_reason.he.params i_key_reason.he.body i_key_reason.he.scope [] [] f fd) : Binds K fd i_key_reason.ps [] :=
  FunD.bindsN (ps := ["system", "key"]) F fun _ _ _ _ _ _ us hl => match us, hl with | [_, _], _ => rfl
theorem bi_check_key {K : PySem.W.Frag} {f : Addr} {fd : FuncData} (F : FunD K i_check_key.he.name i_check_key.he.qual i_check_key.he.params i_check_key.he.body i_check_key.he.scope [] [] f fd) : Binds K fd i_check_key.ps [] :=
  FunD.bindsN (ps := ["system", "key"]) F fun _ _ _ _ _ _ us hl => match us, hl with | [_, _], _ => rfl
theorem bi_way_between {K : PySem.W.Frag} {f : Addr} {fd : FuncData} (F : FunD K i_way_between.he.name i_way_between.he.qual i_way_between.he.params i_way_between.he.body i_way_between.he.scope [] [] f fd) : Binds K fd i_way_between.ps [] :=
  FunD.bindsN (ps := ["system", "first", "second"]) F fun _ _ _ _ _ _ us hl => match us, hl with | [_, _, _], _ => rfl
theorem bi_neighbours {K : PySem.W.Frag} {f : Addr} {fd : FuncData} (F : FunD K i_neighbours.he.name i_neighbours.he.qual i_neighbours.he.params i_neighbours.he.body i_neighbours.he.scope [] [] f fd) : Binds K fd i_neighbours.ps [] :=
  FunD.bindsN (ps := ["system", "key"]) F fun _ _ _ _ _ _ us hl => match us, hl with | [_, _], _ => rfl
theorem bi_distance {K : PySem.W.Frag} {f : Addr} {fd : FuncData} (F : FunD K i_distance.he.name i_distance.he.qual i_distance.he.params i_distance.he.body i_distance.he.scope [] [] f fd) : Binds K fd i_distance.ps [] :=
  FunD.bindsN (ps := ["first", "second"]) F fun _ _ _ _ _ _ us hl => match us, hl with | [_, _], _ => rfl
theorem bi_law_start {K : PySem.W.Frag} {f : Addr} {fd : FuncData} (F : FunD K i_law_start.he.name i_law_start.he.qual i_law_start.he.params i_law_start.he.body i_law_start.he.scope [] [] f fd) : Binds K fd i_law_start.ps [] :=
  FunD.bindsN (ps := ["script"]) F fun _ _ _ _ _ _ us hl => match us, hl with | [_], _ => rfl
theorem bi_law_draw {K : PySem.W.Frag} {f : Addr} {fd : FuncData} (F : FunD K i_law_draw.he.name i_law_draw.he.qual i_law_draw.he.params i_law_draw.he.body i_law_draw.he.scope [] [] f fd) : Binds K fd i_law_draw.ps [] :=
  FunD.bindsN (ps := ["state", "many"]) F fun _ _ _ _ _ _ us hl => match us, hl with | [_, _], _ => rfl
theorem bi_law_pick {K : PySem.W.Frag} {f : Addr} {fd : FuncData} (F : FunD K i_law_pick.he.name i_law_pick.he.qual i_law_pick.he.params i_law_pick.he.body i_law_pick.he.scope [] [] f fd) : Binds K fd i_law_pick.ps [] :=
  FunD.bindsN (ps := ["state", "some"]) F fun _ _ _ _ _ _ us hl => match us, hl with | [_, _], _ => rfl
theorem bi_law_same {K : PySem.W.Frag} {f : Addr} {fd : FuncData} (F : FunD K i_law_same.he.name i_law_same.he.qual i_law_same.he.params i_law_same.he.body i_law_same.he.scope [] [] f fd) : Binds K fd i_law_same.ps [] :=
  FunD.bindsN (ps := ["actual", "due"]) F fun _ _ _ _ _ _ us hl => match us, hl with | [_, _], _ => rfl
theorem bi_law_system {K : PySem.W.Frag} {f : Addr} {fd : FuncData} (F : FunD K i_law_system.he.name i_law_system.he.qual i_law_system.he.params i_law_system.he.body i_law_system.he.scope [] [] f fd) : Binds K fd i_law_system.ps [] :=
  FunD.bindsN (ps := ["state"]) F fun _ _ _ _ _ _ us hl => match us, hl with | [_], _ => rfl
theorem bi_law_key {K : PySem.W.Frag} {f : Addr} {fd : FuncData} (F : FunD K i_law_key.he.name i_law_key.he.qual i_law_key.he.params i_law_key.he.body i_law_key.he.scope [] [] f fd) : Binds K fd i_law_key.ps [] :=
  FunD.bindsN (ps := ["state", "system"]) F fun _ _ _ _ _ _ us hl => match us, hl with | [_, _], _ => rfl
theorem bi_law_far {K : PySem.W.Frag} {f : Addr} {fd : FuncData} (F : FunD K i_law_far.he.name i_law_far.he.qual i_law_far.he.params i_law_far.he.body i_law_far.he.scope [] [] f fd) : Binds K fd i_law_far.ps [] :=
  FunD.bindsN (ps := ["first", "second"]) F fun _ _ _ _ _ _ us hl => match us, hl with | [_, _], _ => rfl
theorem bi_law_is_key {K : PySem.W.Frag} {f : Addr} {fd : FuncData} (F : FunD K i_law_is_key.he.name i_law_is_key.he.qual i_law_is_key.he.params i_law_is_key.he.body i_law_is_key.he.scope [] [] f fd) : Binds K fd i_law_is_key.ps [] :=
  FunD.bindsN (ps := ["system", "key"]) F fun _ _ _ _ _ _ us hl => match us, hl with | [_, _], _ => rfl
theorem bi_law_following {K : PySem.W.Frag} {f : Addr} {fd : FuncData} (F : FunD K i_law_following.he.name i_law_following.he.qual i_law_following.he.params i_law_following.he.body i_law_following.he.scope [] [] f fd) : Binds K fd i_law_following.ps [] :=
  FunD.bindsN (ps := ["system", "key", "goal"]) F fun _ _ _ _ _ _ us hl => match us, hl with | [_, _, _], _ => rfl
theorem bi_law {K : PySem.W.Frag} {f : Addr} {fd : FuncData} (F : FunD K i_law.he.name i_law.he.qual i_law.he.params i_law.he.body i_law.he.scope [] [] f fd) : Binds K fd i_law.ps [] :=
  FunD.bindsN (ps := ["script"]) F fun _ _ _ _ _ _ us hl => match us, hl with | [_], _ => rfl
theorem bind (k : Nat) (D : DefI) (K : PySem.W.Frag) (f : Addr) (fd : FuncData) (h : DI[k]? = some D) (F : FunD K D.he.name D.he.qual D.he.params D.he.body D.he.scope [] [] f fd) : Binds K fd D.ps [] :=
  match k, h with
  | 0, rfl => bi_is_integer F
  | 1, rfl => bi_check_system F
  | 2, rfl => bi_key_reason F
  | 3, rfl => bi_check_key F
  | 4, rfl => bi_way_between F
  | 5, rfl => bi_neighbours F
  | 6, rfl => bi_distance F
  | 7, rfl => bi_law_start F
  | 8, rfl => bi_law_draw F
  | 9, rfl => bi_law_pick F
  | 10, rfl => bi_law_same F
  | 11, rfl => bi_law_system F
  | 12, rfl => bi_law_key F
  | 13, rfl => bi_law_far F
  | 14, rfl => bi_law_is_key F
  | 15, rfl => bi_law_following F
  | 16, rfl => bi_law F
end K03

namespace K03
open PySem Ev
abbrev P : List Ev.Def := DI.map DefI.d
variable {W n : Nat}
theorem c_is_integer (i : Int) : callN W P (n + 1) 0 [.int i] = .ok (.bl true) .undef := by
  rw [callN_succ (d := d_is_integer) rfl rfl]
  simp [Ev.finish, d_is_integer, b_is_integer, Ev.start, Ev.get]
def far (a b : List Int) : Int := ((a.zip b).map fun p => if p.1 - p.2 < 0 then -(p.1 - p.2) else p.1 - p.2).sum
theorem c_distance (a b : List Int) (h : a.length ≤ 1000) : callN W P (n + 1) 6 [.tup (a.map .int), .tup (b.map .int)] = .ok (.int (far a b)) .undef := by
  rw [callN_succ (d := d_distance) rfl rfl]
  have hc : evalE (callN W P n) (.comp [2, 3] (.cons (.n 2) (.cons (.n 3) .nil)) (.zip (.cons (.v 0) (.cons (.v 1) .nil))) .no (.blt .abs (.cons (.bin .Sub (.v 2) (.v 3)) .nil))) [.tup (a.map .int), .tup (b.map .int), .undef, .undef] = .ok (.lst ((a.zip b).map fun p => PV.int (if p.1 - p.2 < 0 then -(p.1 - p.2) else p.1 - p.2)), [.tup (a.map .int), .tup (b.map .int), .undef, .undef]) := by
    refine comp_map (l := a.zip b) (i := fun p => .tup [.int p.1, .int p.2]) ?_ (sl_le (by rw [List.length_zip]; omega)) fun x _ => ?_
    · simp [Ev.get, zip2, zips_map]
    · exact ⟨_, _, by simp [wipe]; rfl, by simp [Ev.get]; rfl, by simp [wipe]⟩
  simp [Ev.finish, d_distance, b_distance, Ev.start, Ev.get, hc, far]
/-- all in 0 .. d - 1 -/
def inR (d : Int) (k : List Int) : Bool := k.all fun c => decide (0 ≤ c) && decide (c < d)
def dif (k : List Int) (i : Nat) : Int := let x := k.getD i 0 - k.getD (i + 1) 0; if x < 0 then -x else x
def stp (s : Int) (p : Nat) (k : List Int) : Bool := (List.range (p - 1)).all fun i => decide (dif k i ≤ s)
def reason (p : Nat) (d s : Int) (k : List Int) : PV := if inR d k = true then (if stp s p k = true then .non else .str "step") else .str "cut"
theorem c_key_reason (p : Nat) (d s : Int) (k : List Int) (hp : k.length = p) (h1 : p ≤ 1000) (h0 : 1 ≤ p) : callN W P (n + 2) 2 [.tup [.int p, .int d, .int s], .tup (k.map .int)] = .ok (reason p d s k) .undef := by
  rw [callN_succ (d := d_key_reason) rfl rfl]
  have c1 : ∀ env : Ev.Env, env = [.tup [.int p, .int d, .int s], .tup (k.map .int), .int p, .int d, .int s, .undef, .undef] → evalE (callN W P (n + 1)) (.comp [5] (.n 5) (.e (.v 1)) .no (.call 0 (.cons (.v 5) .nil))) env = .ok (.lst (k.map fun _ => PV.bl true), env) := by
    intro env he
    subst he
    refine comp_map (l := k) (i := fun c => .int c) ?_ (sl_le (by omega)) fun x _ => ?_
    · simp [Ev.get]
    · exact ⟨_, _, by simp [wipe]; rfl, by simp [Ev.get, c_is_integer]; rfl, by simp [wipe]⟩
  have c2 : ∀ env : Ev.Env, env = [.tup [.int p, .int d, .int s], .tup (k.map .int), .int p, .int d, .int s, .undef, .undef] → evalE (callN W P (n + 1)) (.comp [5] (.n 5) (.e (.v 1)) .no (.cmp2 .LtE .Lt (.c (.int 0)) (.v 5) (.v 3))) env = .ok (.lst (k.map fun c => PV.bl (decide (0 ≤ c) && decide (c < d))), env) := by
    intro env he
    subst he
    refine comp_map (l := k) (i := fun c => .int c) ?_ (sl_le (by omega)) fun x _ => ?_
    · simp [Ev.get]
    · by_cases hx : 0 ≤ x
      · exact ⟨_, _, by simp [wipe]; rfl, by simp [Ev.get, hx]; rfl, by simp [wipe]⟩
      · exact ⟨_, _, by simp [wipe]; rfl, by simp [Ev.get, hx]; rfl, by simp [wipe]⟩
  have c3 : ∀ env : Ev.Env, env = [.tup [.int p, .int d, .int s], .tup (k.map .int), .int p, .int d, .int s, .undef, .undef] → evalE (callN W P (n + 1)) (.comp [6] (.n 6) (.rng (.cons (.bin .Sub (.v 2) (.c (.int 1))) .nil)) .no (.cmp .LtE (.blt .abs (.cons (.bin .Sub (.idx (.v 1) (.v 6)) (.idx (.v 1) (.bin .Add (.v 6) (.c (.int 1))))) .nil)) (.v 4))) env = .ok (.lst ((List.range (p - 1)).map fun i => PV.bl (decide (dif k i ≤ s))), env) := by
    intro env he
    subst he
    refine comp_map (l := List.range (p - 1)) (i := fun i => .int i) ?_ (sl_le (by simp; omega)) fun x hx => ?_
    · have e : ((p : Int) - 1).toNat = p - 1 := by omega
      have sm : small62 ((p : Int) - 1) = true := by unfold small62; simp; omega
      simp [Ev.get, ranges, sm, e, rng0]
    · have hx : x < p - 1 := by simpa using hx
      have i1 := at_int (k := k) (i := x) (by omega)
      have i2 := at_int (k := k) (i := x + 1) (by omega)
      have e : ((x + 1 : Nat) : Int) = (x : Int) + 1 := by omega
      rw [e] at i2
      exact ⟨_, _, by simp [wipe]; rfl, by simp [Ev.get, i1, i2, dif]; rfl, by simp [wipe]⟩
  have a1 : evalB .all [.lst (k.map fun _ => PV.bl true)] = some (.bl true) := by rw [blt_all_f]; simp
  have a2 : evalB .all [.lst (k.map fun c => PV.bl (decide (0 ≤ c) && decide (c < d)))] = some (.bl (inR d k)) := blt_all_f _ _
  have a3 : evalB .all [.lst ((List.range (p - 1)).map fun i => PV.bl (decide (dif k i ≤ s)))] = some (.bl (stp s p k)) := blt_all_f _ _
  unfold reason
  cases e1 : inR d k <;> cases e2 : stp s p k <;> simp [Ev.finish, d_key_reason, b_key_reason, Ev.start, Ev.get, c1, c2, c3, a1, a2, a3, hp, e1, e2]
/-- a system -/
def sysOk (p : Nat) (d s : Int) : Prop := 1 ≤ p ∧ p ≤ 7 ∧ 2 ≤ d ∧ d ≤ 10 ∧ 0 ≤ s ∧ s ≤ 9
def keyOk (p : Nat) (d s : Int) (k : List Int) : Prop := k.length = p ∧ inR d k = true ∧ stp s p k = true
def sysV (p : Nat) (d s : Int) : PV := .tup [.int p, .int d, .int s]
def keyV (k : List Int) : PV := .tup (k.map .int)
theorem c_check_system {p : Nat} {d s : Int} (h : sysOk p d s) : callN W P (n + 2) 1 [sysV p d s] = .ok .non .undef := by
  obtain ⟨h1, h2, h3, h4, h5, h6⟩ := h
  rw [callN_succ (d := d_check_system) rfl rfl]
  have c1 : ∀ env : Ev.Env, env = [sysV p d s, .undef, .undef, .undef, .undef] → evalE (callN W P (n + 1)) (.comp [4] (.n 4) (.e (.v 0)) .no (.call 0 (.cons (.v 4) .nil))) env = .ok (.lst ([(p : Int), d, s].map fun _ => PV.bl true), env) := by
    intro env he
    subst he
    refine comp_map (l := [(p : Int), d, s]) (i := fun c => .int c) ?_ (sl_le (by simp)) fun x _ => ?_
    · simp [Ev.get, sysV]
    · exact ⟨_, _, by simp [wipe]; rfl, by simp [Ev.get, c_is_integer]; rfl, by simp [wipe]⟩
  have a1 : evalB .all [.lst ([(p : Int), d, s].map fun _ => PV.bl true)] = some (.bl true) := by rw [blt_all_f]; simp
  have e1 : (1 : Int) ≤ p := by omega
  have e2 : (p : Int) ≤ 7 := by omega
  simp only [sysV] at c1 ⊢
  simp [Ev.finish, d_check_system, b_check_system, Ev.start, Ev.get, c1, a1, e1, e2, h3, h4, h5, h6, -List.map_cons]
theorem c_check_key {p : Nat} {d s : Int} {k : List Int} (h : sysOk p d s) (hk : keyOk p d s k) : callN W P (n + 3) 3 [sysV p d s, keyV k] = .ok .non .undef := by
  rw [callN_succ (d := d_check_key) rfl rfl]
  have c1 := c_check_system (W := W) (n := n) h
  have c2 := c_key_reason (W := W) (n := n) p d s k hk.1 (by have := h.2.1; omega) h.1
  have er : reason p d s k = .non := by unfold reason; rw [hk.2.1, hk.2.2]; rfl
  rw [er] at c2
  have is_ : cmpop .IsNot .non .non = some false := rfl
  simp only [sysV, keyV] at c1 c2 ⊢
  simp [Ev.finish, d_check_key, b_check_key, Ev.start, Ev.get, c1, c2, is_]
theorem pk : P[9]? = some (pickD 8) := rfl
theorem dr : P[8]? = some drawD := rfl
theorem c_system (sc : List Int) (a : Int) (i : Nat) (b : Int) : ∃ p d s a' i' b', callN W P (n + 3) 11 [stV sc a i b] = .ok (sysV p d s) (stV sc a' i' b') ∧ sysOk p d s := by
  obtain ⟨p, a1, i1, b1, h1, m1⟩ := c_pickI (W := W) (n := n) pk dr sc a i b [1, 2, 3, 3, 4, 5, 6, 7] (by simp) (by simp)
  obtain ⟨d, a2, i2, b2, h2, m2⟩ := c_pickI (W := W) (n := n) pk dr sc a1 i1 b1 [2, 3, 4, 5, 7, 10] (by simp) (by simp)
  obtain ⟨s, a3, i3, b3, h3, m3⟩ := c_pickI (W := W) (n := n) pk dr sc a2 i2 b2 [0, 1, 1, 2, 3, d - 1, 9] (by simp) (by simp)
  simp only [List.map_cons, List.map_nil] at h1 h2 h3
  simp only [List.mem_cons, List.not_mem_nil, or_false] at m1 m2 m3
  have ep : ((p.toNat : Nat) : Int) = p := by omega
  refine ⟨p.toNat, d, s, a3, i3, b3, ?_, by omega, by omega, by omega, by omega, by omega, by omega⟩
  rw [callN_succ (d := d_law_system) rfl rfl]
  have g1 : ∀ x : PV, Ev.get [x, .int p, .int d] 2 = .ok (.int d, [x, .int p, .int d]) := fun _ => rfl
  have e1 : evalSs (callN W P (n + 2)) W d_law_system.body (Ev.start d_law_system [stV sc a i b]) = .rt (sysV p.toNat d s) [stV sc a3 i3 b3, .int p, .int d] := by
    simp only [d_law_system, b_law_system, Ev.start, List.length_cons, List.length_nil, Nat.sub, List.replicate, List.cons_append, List.nil_append]
    simp [h1, h2, h3, g1, sysV, ep]
  rw [e1, fin_st rfl]
def ab (x : Int) : Int := if x < 0 then -x else x
theorem ab_sym (x y : Int) : ab (x - y) = ab (y - x) := by unfold ab; split <;> split <;> omega
theorem dif_eq (k : List Int) (i : Nat) : dif k i = ab (k.getD i 0 - k.getD (i + 1) 0) := rfl
theorem getD_l {k l : List Int} {i : Nat} (h : i < k.length) : (k ++ l).getD i 0 = k.getD i 0 := by
  rw [List.getD_eq_getElem?_getD, List.getD_eq_getElem?_getD, List.getElem?_append_left h]
theorem getD_r {k l : List Int} {i : Nat} (h : k.length ≤ i) : (k ++ l).getD i 0 = l.getD (i - k.length) 0 := by
  rw [List.getD_eq_getElem?_getD, List.getD_eq_getElem?_getD, List.getElem?_append_right h]
theorem stp_app {s : Int} {m : Nat} {k : List Int} {z : Int} (hl : k.length = m + 1) (h : stp s (m + 1) k = true) (hz : ab (z - k.getD m 0) ≤ s) : stp s (m + 2) (k ++ [z]) = true := by
  unfold stp at h ⊢
  rw [show m + 2 - 1 = m + 1 from rfl, List.range_succ, List.all_append]
  rw [show m + 1 - 1 = m from rfl] at h
  simp only [List.all_cons, List.all_nil, Bool.and_true, Bool.and_eq_true, List.all_eq_true, decide_eq_true_eq, List.mem_range] at h ⊢
  refine ⟨fun i hi => ?_, ?_⟩
  · have := h i hi
    rw [dif_eq] at this ⊢
    rwa [getD_l (by omega), getD_l (by omega)]
  · rw [dif_eq, getD_l (by omega), getD_r (by omega), ab_sym]
    rw [show m + 1 - k.length = 0 by omega]
    exact hz
theorem inR_app {d : Int} {k : List Int} {z : Int} (h : inR d k = true) (h0 : 0 ≤ z) (h1 : z < d) : inR d (k ++ [z]) = true := by
  unfold inR at h ⊢
  rw [List.all_append, h]
  simp [h0, h1]
def nearL (d s l : Int) : List Int := ((List.range d.toNat).map fun i : Nat => (i : Int)).filter fun c => decide (ab (c - l) ≤ s)
theorem mem_near {d s l c : Int} : c ∈ nearL d s l ↔ 0 ≤ c ∧ c < d ∧ ab (c - l) ≤ s := by
  unfold nearL
  rw [List.mem_filter, List.mem_map]
  constructor
  · rintro ⟨⟨i, hi, rfl⟩, h⟩
    rw [List.mem_range] at hi
    exact ⟨by omega, by omega, of_decide_eq_true h⟩
  · rintro ⟨h0, h1, h2⟩
    exact ⟨⟨c.toNat, List.mem_range.mpr (by omega), by omega⟩, by simpa using h2⟩
theorem near_ne {d s l : Int} (h0 : 0 ≤ l) (h1 : l < d) (hs : 0 ≤ s) : nearL d s l ≠ [] := by
  have : l ∈ nearL d s l := mem_near.mpr ⟨h0, h1, by unfold ab; split <;> omega⟩
  intro e
  rw [e] at this
  cases this
theorem near_len {d s l : Int} (h : d ≤ 10) : (nearL d s l).length ≤ 10 := by
  unfold nearL
  refine Nat.le_trans (List.length_filter_le _ _) ?_
  rw [List.length_map, List.length_range]
  omega
theorem fm_filter {α : Type} {l : List α} {p : α → Bool} {g : α → PV} : l.filterMap (fun x => if p x = true then some (g x) else none) = (l.filter p).map g := by
  induction l with
  | nil => rfl
  | cons x l ih =>
    rw [List.filterMap_cons, List.filter_cons]
    by_cases h : p x = true
    · rw [if_pos h, if_pos h, ih]; rfl
    · rw [if_neg h, if_neg h, ih]
/-- near = [..] -/
theorem e_near {C : Calls} {st : PV} {p d s l : Int} {K : List Int} {x0 x1 x3 x7 : PV} (hd : 0 ≤ d) (hd1 : d ≤ 10) (hK : K ≠ []) (hl : K.getD (K.length - 1) 0 = l) :
    evalE C (.comp [8] (.n 8) (.rng (.cons (.v 5) .nil)) (.so (.cmp .LtE (.blt .abs (.cons (.bin .Sub (.v 8) (.idx (.m 2) (.neg (.c (.int 1))))) .nil)) (.v 6))) (.v 8)) [x0, x1, .lst (K.map .int), x3, .int p, .int d, .int s, x7, .undef] =
      .ok (.lst ((nearL d s l).map .int), [x0, x1, .lst (K.map .int), x3, .int p, .int d, .int s, x7, .undef]) := by
  have e := comp_filter (C := C) (own := [8]) (tg := .n 8) (it := .rng (.cons (.v 5) .nil)) (c := .cmp .LtE (.blt .abs (.cons (.bin .Sub (.v 8) (.idx (.m 2) (.neg (.c (.int 1))))) .nil)) (.v 6)) (e := .v 8) (env := [x0, x1, .lst (K.map .int), x3, .int p, .int d, .int s, x7, .undef])
    (l := (List.range d.toNat).map fun i : Nat => (i : Int)) (i := PV.int) (g := fun c => if (decide (ab (c - l) ≤ s)) = true then some (.int c) else none) ?_ (sl_le (by simp; omega)) fun c hc => ?_
  · rw [e, fm_filter]; rfl
  · have sm : small62 d = true := by unfold small62; simp; omega
    simp [Ev.get, ranges, sm, rng0]
  · have il := ix_last hK
    rw [hl] at il
    refine ⟨[x0, x1, .lst (K.map .int), x3, .int p, .int d, .int s, x7, .int c], [x0, x1, .lst (K.map .int), x3, .int p, .int d, .int s, x7, .int c], .bl (decide (ab (c - l) ≤ s)), decide (ab (c - l) ≤ s), rfl, ?_, rfl, ?_⟩
    · simp [Ev.get, il]
      rfl
    · by_cases h : ab (c - l) ≤ s
      · rw [if_pos (by simpa using h)]
        refine ⟨.int c, [x0, x1, .lst (K.map .int), x3, .int p, .int d, .int s, x7, .int c], rfl, ?_, rfl⟩
        show (if decide (ab (c - l) ≤ s) = true then _ else _) = _
        rw [if_pos (by simpa using h)]
      · rw [if_neg (by simpa using h)]
        refine ⟨?_, rfl⟩
        show (if decide (ab (c - l) ≤ s) = true then _ else _) = _
        rw [if_neg (by simpa using h)]
def keyBody : Ss := (.cons (.asg (.n 7) (.comp [8] (.n 8) (.rng (.cons (.v 5) .nil)) (.so (.cmp .LtE (.blt .abs (.cons (.bin .Sub (.v 8) (.idx (.m 2) (.neg (.c (.int 1))))) .nil)) (.v 6))) (.v 8))) (.cons (.app 2 (.chk (.callr 9 0 (.cons (.lst (.cons (.chk (.idx (.v 7) (.c (.int 0)))) (.cons (.chk (.idx (.v 7) (.neg (.c (.int 1))))) (.cons (.chk (.callr 9 0 (.cons (.v 7) .nil))) (.cons (.chk (.callr 9 0 (.cons (.v 7) .nil))) .nil))))) .nil)))) .nil))
/-- one more cut -/
theorem key_turn (sc : List Int) (a3 : Int) (i3 : Nat) (b3 : Int) {p d s l : Int} {K : List Int} {sy x x7 : PV} (hd : 0 ≤ d) (hd1 : d ≤ 10) (hs : 0 ≤ s) (kn : K ≠ []) (hl : K.getD (K.length - 1) 0 = l) (lr : 0 ≤ l ∧ l < d) (kz : K.length < sizeLine) :
    ∃ a6 i6 b6 q3, evalSs (callN W P (n + 2)) W keyBody [stV sc a3 i3 b3, sy, .lst (K.map .int), x, .int p, .int d, .int s, x7, .undef] = .nx [stV sc a6 i6 b6, sy, .lst ((K ++ [q3]).map .int), x, .int p, .int d, .int s, .lst ((nearL d s l).map .int), .undef] ∧ 0 ≤ q3 ∧ q3 < d ∧ ab (q3 - l) ≤ s := by
  have nn := near_ne (d := d) (s := s) lr.1 lr.2 hs
  have nl := near_len (d := d) (s := s) (l := l) hd1
  have ne := e_near (C := callN W P (n + 2)) (st := .non) (p := p) (d := d) (s := s) (l := l) (K := K) (x0 := stV sc a3 i3 b3) (x1 := sy) (x3 := x) (x7 := x7) hd hd1 kn hl
  have np : 0 < (nearL d s l).length := List.length_pos_iff.mpr nn
  have f0 := ix_first nn
  have f1 := ix_last nn
  have e0 : (nearL d s l).getD 0 0 ∈ nearL d s l := Ev.getD_mem np
  have e1 : (nearL d s l).getD ((nearL d s l).length - 1) 0 ∈ nearL d s l := Ev.getD_mem (by omega)
  generalize (nearL d s l).getD 0 0 = u0 at f0 e0
  generalize (nearL d s l).getD ((nearL d s l).length - 1) 0 = u1 at f1 e1
  obtain ⟨q1, a4, i4, b4, g1, m1⟩ := c_pickI (W := W) (n := n) pk dr sc a3 i3 b3 (nearL d s l) nn (by omega)
  obtain ⟨q2, a5, i5, b5, g2, m2⟩ := c_pickI (W := W) (n := n) pk dr sc a4 i4 b4 (nearL d s l) nn (by omega)
  obtain ⟨q3, a6, i6, b6, g3, m3⟩ := c_pickI (W := W) (n := n) pk dr sc a5 i5 b5 [u0, u1, q1, q2] (by simp) (by simp)
  simp only [List.map_cons, List.map_nil] at g3
  have q3m : q3 ∈ nearL d s l := by
    simp only [List.mem_cons, List.not_mem_nil, or_false] at m3
    rcases m3 with rfl | rfl | rfl | rfl <;> assumption
  obtain ⟨w0, w1, w2⟩ := mem_near.mp q3m
  have pu : pushP (.int q3) (K.map .int) = some (.lst ((K ++ [q3]).map .int)) := by
    unfold pushP
    rw [if_pos (by rw [List.length_map]; exact kz), List.map_append]
    rfl
  refine ⟨a6, i6, b6, q3, ?_, w0, w1, w2⟩
  generalize (K ++ [q3]).map PV.int = KQ at pu ⊢
  generalize K.map PV.int = KM at *
  generalize (nearL d s l).map PV.int = NM at *
  have v7 : ∀ y : PV, Ev.get [y, sy, .lst KM, x, .int p, .int d, .int s, .lst NM, .undef] 7 = .ok (.lst NM, [y, sy, .lst KM, x, .int p, .int d, .int s, .lst NM, .undef]) := fun _ => rfl
  have gl : ∀ y : PV, getL [y, sy, .lst KM, x, .int p, .int d, .int s, .lst NM, .undef] 2 = .ok (KM, [y, sy, .lst KM, x, .int p, .int d, .int s, .lst NM, .undef]) := fun _ => rfl
  unfold keyBody
  simp [ne, v7, gl, f0, f1, g1, g2, g3, pu]
theorem key_loop (sc : List Int) (a2 : Int) (i2 : Nat) (b2 z : Int) {p : Nat} {d s : Int} {sy : PV} (h : sysOk p d s) (z0 : 0 ≤ z ∧ z < d) :
    ∃ a3 i3 b3 K x3 x7, evalS (callN W P (n + 2)) W (.for (.n 3) (.rng (.cons (.c (.int 1)) (.cons (.v 4) .nil))) keyBody) [stV sc a2 i2 b2, sy, .lst [.int z], .undef, .int p, .int d, .int s, .undef, .undef] =
      .nx [stV sc a3 i3 b3, sy, .lst (K.map .int), x3, .int p, .int d, .int s, x7, .undef] ∧ keyOk p d s K := by
  obtain ⟨p1, p2, d1, d2, s1, s2⟩ := h
  have hi : evalI (callN W P (n + 2)) (.rng (.cons (.c (.int 1)) (.cons (.v 4) .nil))) [stV sc a2 i2 b2, sy, .lst [.int z], .undef, .int p, .int d, .int s, .undef, .undef] = .ok (rng 1 (p - 1), [stV sc a2 i2 b2, sy, .lst [.int z], .undef, .int p, .int d, .int s, .undef, .undef]) := by
    have et : ((p : Int) - 1).toNat = p - 1 := by omega
    have er := ranges2 (i := 1) (j := (p : Int)) (by omega) (by omega) (by omega) (by omega)
    rw [et] at er
    have v4 : ∀ y : PV, Ev.get [y, sy, .lst [.int z], .undef, .int p, .int d, .int s, .undef, .undef] 4 = .ok (.int p, [y, sy, .lst [.int z], .undef, .int p, .int d, .int s, .undef, .undef]) := fun _ => rfl
    exact eI_rng2 rfl (v4 _) er
  obtain ⟨en, e1, a3, i3, b3, K, x3, x7, rfl, kl, kr, ks⟩ := for_inv (C := callN W P (n + 2)) (W := W) (t := .n 3) (b := keyBody) hi
    (fun j en => ∃ a i b K x3 x7, en = [stV sc a i b, sy, .lst (K.map .int), x3, .int p, .int d, .int s, x7, .undef] ∧ K.length = j + 1 ∧ inR d K = true ∧ stp s (j + 1) K = true)
    ⟨a2, i2, b2, [z], .undef, .undef, rfl, rfl, by simp [inR, z0.1, z0.2], by simp [stp]⟩
    (fun j x en hx hI => by
      obtain ⟨a3, i3, b3, K, x3, x7, rfl, kl, kr, ks⟩ := hI
      have kn : K ≠ [] := by intro e; rw [e] at kl; cases kl
      have hj : j < p - 1 := by
        rcases Nat.lt_or_ge j (p - 1) with h | h
        · exact h
        · rw [List.getElem?_eq_none (by rw [rng_len]; exact h)] at hx; cases hx
      have lm : K.getD (K.length - 1) 0 ∈ K := Ev.getD_mem (by omega)
      have lr : 0 ≤ K.getD (K.length - 1) 0 ∧ K.getD (K.length - 1) 0 < d := by
        have := List.all_eq_true.mp kr _ lm
        simpa using this
      obtain ⟨a6, i6, b6, q3, e, w0, w1, w2⟩ := key_turn (W := W) (n := n) sc a3 i3 b3 (p := p) (d := d) (s := s) (K := K) (sy := sy) (x := x) (x7 := x7) (by omega) (by omega) s1 kn rfl lr (by rw [sizeLine_eq]; omega)
      refine ⟨_, _, rfl, .inl e, a6, i6, b6, K ++ [q3], x, _, rfl, by rw [List.length_append, kl]; rfl, inR_app kr w0 w1, stp_app kl ks ?_⟩
      rw [show K.length - 1 = j by omega] at w2
      exact w2)
  rw [rng_len] at kl ks
  have ep : p - 1 + 1 = p := by omega
  rw [ep] at kl ks
  exact ⟨a3, i3, b3, K, x3, x7, e1, kl, kr, ks⟩
theorem key_body {C : Calls} {sc : List Int} {a a1 a2 a3 : Int} {i i1 i2 i3 : Nat} {b b1 b2 b3 r z : Int} {p : Int} {d s : Int} {K : List Int} {x3 x7 : PV} {FF : S}
    (h1 : C 8 [stV sc a i b, .int d] = .ok (.int r) (stV sc a1 i1 b1)) (h2 : C 9 [stV sc a1 i1 b1, .lst [.int r, .int 0, .int (d - 1)]] = .ok (.int z) (stV sc a2 i2 b2))
    (e1 : evalS C W FF [stV sc a2 i2 b2, .tup [.int p, .int d, .int s], .lst [.int z], .undef, .int p, .int d, .int s, .undef, .undef] = .nx [stV sc a3 i3 b3, .tup [.int p, .int d, .int s], .lst (K.map .int), x3, .int p, .int d, .int s, x7, .undef]) :
    evalSs C W (.cons (.asg (.cons (.n 4) (.cons (.n 5) (.cons (.n 6) .nil))) (.v 1)) (.cons (.masg 2 (.lst (.cons (.chk (.callr 9 0 (.cons (.lst (.cons (.chk (.callr 8 0 (.cons (.v 5) .nil))) (.cons (.c (.int 0)) (.cons (.chk (.bin .Sub (.v 5) (.c (.int 1)))) .nil)))) .nil))) .nil))) (.cons FF (.cons (.ret (.chk (.blt .tuple (.cons (.m 2) .nil)))) .nil))))
      [stV sc a i b, .tup [.int p, .int d, .int s], .undef, .undef, .undef, .undef, .undef, .undef, .undef] = .rt (keyV K) [stV sc a3 i3 b3, .tup [.int p, .int d, .int s], .lst (K.map .int), x3, .int p, .int d, .int s, x7, .undef] := by
  have lfk : PV.lf (.tup (K.map .int)) = true := by simp [PV.lf, lfs_ints]
  have v1 : Ev.get [stV sc a i b, .tup [.int p, .int d, .int s], .undef, .undef, .undef, .undef, .undef, .undef, .undef] 1 = .ok (.tup [.int p, .int d, .int s], [stV sc a i b, .tup [.int p, .int d, .int s], .undef, .undef, .undef, .undef, .undef, .undef, .undef]) := rfl
  have v5 : ∀ y : PV, Ev.get [y, .tup [.int p, .int d, .int s], .undef, .undef, .int p, .int d, .int s, .undef, .undef] 5 = .ok (.int d, [y, .tup [.int p, .int d, .int s], .undef, .undef, .int p, .int d, .int s, .undef, .undef]) := fun _ => rfl
  have m2' : ∀ y : PV, Ev.get [y, .tup [.int p, .int d, .int s], .lst (K.map .int), x3, .int p, .int d, .int s, x7, .undef] 2 = .ok (.lst (K.map .int), [y, .tup [.int p, .int d, .int s], .lst (K.map .int), x3, .int p, .int d, .int s, x7, .undef]) := fun _ => rfl
  simp [v1, v5, h1, h2, e1, m2', lfk, keyV]
theorem c_key (sc : List Int) (a : Int) (i : Nat) (b : Int) {p : Nat} {d s : Int} (h : sysOk p d s) : ∃ k a' i' b', callN W P (n + 3) 12 [stV sc a i b, sysV p d s] = .ok (keyV k) (stV sc a' i' b') ∧ keyOk p d s k := by
  have h' := h
  obtain ⟨p1, p2, d1, d2, s1, s2⟩ := h'
  obtain ⟨r, a1, i1, b1, h1, r0, r1⟩ := c_draw (W := W) (n := n + 1) dr sc a i b d (by omega) (by omega)
  obtain ⟨z, a2, i2, b2, h2, m2⟩ := c_pickI (W := W) (n := n) pk dr sc a1 i1 b1 [r, 0, d - 1] (by simp) (by simp)
  simp only [List.map_cons, List.map_nil] at h2
  simp only [List.mem_cons, List.not_mem_nil, or_false] at m2
  have z0 : 0 ≤ z ∧ z < d := by omega
  obtain ⟨a3, i3, b3, K, x3, x7, e1, ok⟩ := key_loop (W := W) (n := n) sc a2 i2 b2 z (sy := sysV p d s) h z0
  refine ⟨K, a3, i3, b3, ?_, ok⟩
  rw [callN_succ (d := d_law_key) rfl rfl]
  exact (congrArg (Ev.finish d_law_key) (key_body (C := callN W P (n + 2)) h1 h2 e1)).trans (fin_st rfl)
theorem range_zip (a b : List Int) (h : a.length = b.length) : (List.range a.length).map (fun k => ab (a.getD k 0 - b.getD k 0)) = (a.zip b).map fun p => ab (p.1 - p.2) := by
  apply List.ext_getElem
  · simp [h]
  · intro i h1 h2
    have i1 : i < a.length := by simpa using h1
    have i2 : i < b.length := by omega
    simp [List.getD_eq_getElem?_getD, i1, i2]
theorem far_body {C : Calls} {a b : List Int} (h : a.length = b.length) (hl : a.length ≤ 1000) : evalE C (.comp [2] (.n 2) (.rng (.cons (.blt .len (.cons (.v 0) .nil)) .nil)) .no (.blt .abs (.cons (.bin .Sub (.idx (.v 0) (.v 2)) (.idx (.v 1) (.v 2))) .nil))) [keyV a, keyV b, .undef] = .ok (.lst ((List.range a.length).map fun k => PV.int (ab (a.getD k 0 - b.getD k 0))), [keyV a, keyV b, .undef]) := by
  refine comp_map (l := List.range a.length) (i := fun k : Nat => PV.int k) (g := fun k => PV.int (ab (a.getD k 0 - b.getD k 0))) ?_ (sl_le (by simp; omega)) fun k hk => ?_
  · have r1 := ranges1 (j := (a.length : Int)) (by omega) (by omega)
    have e0 : Ev.get [keyV a, keyV b, .undef] 0 = .ok (.tup (a.map .int), [keyV a, keyV b, .undef]) := rfl
    have r2 : ranges [.int (a.length : Int)] = some ((List.range a.length).map fun k : Nat => PV.int k) := by rw [r1, ← rng0]; rfl
    exact eI_rng1 (by simp [e0]) r2
  · have hk : k < a.length := by simpa using hk
    have i1 := at_int (k := a) (i := k) hk
    have i2 := at_int (k := b) (i := k) (by omega)
    refine ⟨[keyV a, keyV b, .int k], [keyV a, keyV b, .int k], rfl, ?_, rfl⟩
    have e0 : Ev.get [keyV a, keyV b, .int k] 0 = .ok (.tup (a.map .int), [keyV a, keyV b, .int k]) := rfl
    have e1 : Ev.get [keyV a, keyV b, .int k] 1 = .ok (.tup (b.map .int), [keyV a, keyV b, .int k]) := rfl
    have e2 : Ev.get [keyV a, keyV b, .int k] 2 = .ok (.int k, [keyV a, keyV b, .int k]) := rfl
    simp [e0, e1, e2, i1, i2]
    rfl
theorem c_far (a b : List Int) (h : a.length = b.length) (hl : a.length ≤ 1000) : callN W P (n + 1) 13 [keyV a, keyV b] = .ok (.int (far a b)) .undef := by
  rw [callN_succ (d := d_law_far) rfl rfl]
  have e := far_body (C := callN W P n) h hl
  have fe : ((List.range a.length).map fun k => ab (a.getD k 0 - b.getD k 0)).sum = far a b := by rw [range_zip a b h]; rfl
  have e2 : evalSs (callN W P n) W d_law_far.body [keyV a, keyV b, .undef] = .rt (.int (far a b)) [keyV a, keyV b, .undef] := by
    unfold d_law_far b_law_far
    simp only [eSs_cons, eS_ret, eE_blt, eA_cons, eA_nil, e, Res.bind_ok', blt_sum_f, ofO_some, Res.out_ok, Out.seq_rt, fe]
  exact (congrArg (Ev.finish d_law_far) e2).trans (fin_no rfl)
theorem filter_empty {α : Type} {l : List α} {q : α → Bool} : (l.filter fun x => !q x).isEmpty = l.all q := by
  induction l with
  | nil => rfl
  | cons x l ih =>
    rw [List.filter_cons, List.all_cons]
    cases q x with
    | true => simpa using ih
    | false => rfl
theorem rng1 (m : Nat) : rng 1 m = (List.range m).map fun i : Nat => PV.int (1 + i) := by
  apply List.ext_getElem?
  intro j
  by_cases h : j < m
  · rw [rng_get h]; simp [h]
  · rw [List.getElem?_eq_none (by rw [rng_len]; omega), List.getElem?_eq_none (by simp; omega)]
theorem isk1 {C : Calls} {p : Nat} {d s : Int} {k : List Int} (hl : k.length ≤ 1000) : evalE C (.comp [2] (.n 2) (.e (.v 1)) (.so (.not (.cmp2 .LtE .Lt (.c (.int 0)) (.v 2) (.idx (.v 0) (.c (.int 1)))))) (.v 2)) [sysV p d s, keyV k, .undef, .undef] =
    .ok (.lst ((k.filter fun c => !(decide (0 ≤ c) && decide (c < d))).map .int), [sysV p d s, keyV k, .undef, .undef]) := by
  have e := comp_filter (C := C) (own := [2]) (tg := .n 2) (it := .e (.v 1)) (c := .not (.cmp2 .LtE .Lt (.c (.int 0)) (.v 2) (.idx (.v 0) (.c (.int 1))))) (e := .v 2) (env := [sysV p d s, keyV k, .undef, .undef])
    (l := k) (i := PV.int) (g := fun c => if (!(decide (0 ≤ c) && decide (c < d))) = true then some (.int c) else none) rfl (sl_le (by omega)) fun c hc => ?_
  · rw [e, fm_filter]
  · refine ⟨[sysV p d s, keyV k, .int c, .undef], [sysV p d s, keyV k, .int c, .undef], .bl (!(decide (0 ≤ c) && decide (c < d))), !(decide (0 ≤ c) && decide (c < d)), rfl, ?_, rfl, ?_⟩
    · have e0 : Ev.get [sysV p d s, keyV k, .int c, .undef] 0 = .ok (sysV p d s, [sysV p d s, keyV k, .int c, .undef]) := rfl
      have e2 : Ev.get [sysV p d s, keyV k, .int c, .undef] 2 = .ok (.int c, [sysV p d s, keyV k, .int c, .undef]) := rfl
      have i1 : index (sysV p d s) (.int 1) = some (.int d) := rfl
      by_cases h : 0 ≤ c <;> simp [e0, e2, i1, h]
    · generalize (!(decide (0 ≤ c) && decide (c < d))) = bb
      cases bb with
      | true => exact ⟨.int c, _, rfl, rfl, rfl⟩
      | false => exact ⟨rfl, rfl⟩
theorem isk2 {C : Calls} {p : Nat} {d s : Int} {k : List Int} (hk : k.length = p) (hp : p ≤ 1000) (h1 : 1 ≤ p) : evalE C (.comp [3] (.n 3) (.rng (.cons (.c (.int 1)) (.cons (.blt .len (.cons (.v 1) .nil)) .nil))) (.so (.cmp .Gt (.blt .abs (.cons (.bin .Sub (.idx (.v 1) (.v 3)) (.idx (.v 1) (.bin .Sub (.v 3) (.c (.int 1))))) .nil)) (.idx (.v 0) (.c (.int 2))))) (.v 3)) [sysV p d s, keyV k, .undef, .undef] =
    .ok (.lst (((List.range (p - 1)).filter fun i => !decide (dif k i ≤ s)).map fun i : Nat => PV.int (1 + i)), [sysV p d s, keyV k, .undef, .undef]) := by
  have e := comp_filter (C := C) (own := [3]) (tg := .n 3) (it := .rng (.cons (.c (.int 1)) (.cons (.blt .len (.cons (.v 1) .nil)) .nil))) (c := .cmp .Gt (.blt .abs (.cons (.bin .Sub (.idx (.v 1) (.v 3)) (.idx (.v 1) (.bin .Sub (.v 3) (.c (.int 1))))) .nil)) (.idx (.v 0) (.c (.int 2)))) (e := .v 3) (env := [sysV p d s, keyV k, .undef, .undef])
    (l := List.range (p - 1)) (i := fun i : Nat => PV.int (1 + i)) (g := fun i => if (!decide (dif k i ≤ s)) = true then some (.int (1 + i)) else none) ?_ (sl_le (by simp; omega)) fun i hi => ?_
  · rw [e, fm_filter]
  · have r := ranges2 (i := 1) (j := (k.length : Int)) (by omega) (by omega) (by omega) (by omega)
    have r2 : ranges [.int 1, .int (k.length : Int)] = some ((List.range (p - 1)).map fun i : Nat => PV.int (1 + i)) := by
      rw [r, show ((k.length : Int) - 1).toNat = p - 1 by omega, rng1]
    have e1 : Ev.get [sysV p d s, keyV k, .undef, .undef] 1 = .ok (.tup (k.map .int), [sysV p d s, keyV k, .undef, .undef]) := rfl
    exact eI_rng2 rfl (by simp [e1]) r2
  · have hi : i < p - 1 := by simpa using hi
    have a1 := at_int (k := k) (i := i) (by omega)
    have a2 := at_int (k := k) (i := i + 1) (by omega)
    rw [show ((i + 1 : Nat) : Int) = 1 + (i : Int) by omega] at a2
    have ei : (1 + (i : Int)) - 1 = (i : Int) := by omega
    refine ⟨[sysV p d s, keyV k, .undef, .int (1 + i)], [sysV p d s, keyV k, .undef, .int (1 + i)], .bl (!decide (dif k i ≤ s)), !decide (dif k i ≤ s), rfl, ?_, rfl, ?_⟩
    · have e0 : Ev.get [sysV p d s, keyV k, .undef, .int (1 + i)] 0 = .ok (sysV p d s, [sysV p d s, keyV k, .undef, .int (1 + i)]) := rfl
      have e1 : Ev.get [sysV p d s, keyV k, .undef, .int (1 + i)] 1 = .ok (.tup (k.map .int), [sysV p d s, keyV k, .undef, .int (1 + i)]) := rfl
      have e3 : Ev.get [sysV p d s, keyV k, .undef, .int (1 + i)] 3 = .ok (.int (1 + i), [sysV p d s, keyV k, .undef, .int (1 + i)]) := rfl
      have i2 : index (sysV p d s) (.int 2) = some (.int s) := rfl
      have sy : (if k.getD (i + 1) 0 - k.getD i 0 < 0 then -(k.getD (i + 1) 0 - k.getD i 0) else k.getD (i + 1) 0 - k.getD i 0) = dif k i := ab_sym _ _
      simp only [eE_cmp, eE_blt, eA_cons, eA_nil, eE_bin, eE_idx, eE_v, eE_c, e0, e1, e3, i2, a1, a2, ei, Res.bind_ok', ofO_some, bin_subi, blt_abs_int, cmp_gti, sy]
      congr 3
      by_cases h : dif k i ≤ s
      · have h' : ¬ s < dif k i := by omega
        simp [h, h']
      · have h' : s < dif k i := by omega
        simp [h, h']
    · generalize (!decide (dif k i ≤ s)) = bb
      cases bb with
      | true => exact ⟨.int (1 + i), _, rfl, rfl, rfl⟩
      | false => exact ⟨rfl, rfl⟩
def okK (p : Nat) (d s : Int) (k : List Int) : Bool := inR d k && stp s p k
theorem isk_body {C : Calls} {p : Nat} {d s : Int} {k : List Int} {c1 c2 : E} {l1 l2 : List PV} {env : Ev.Env} (e1 : evalE C c1 env = .ok (.lst l1, env)) (e2 : evalE C c2 env = .ok (.lst l2, env)) (f1 : l1.isEmpty = inR d k) (f2 : l2.isEmpty = stp s p k) :
    evalSs C W (.cons (.ite c1 (.cons (.ret (.c (.bl false))) .nil) .nil) (.cons (.ret (.not c2)) .nil)) env = .rt (.bl (okK p d s k)) env := by
  unfold okK
  simp only [eSs_cons, eS_ite, e1, Res.out_ok, truth_lst, ofO_some, f1]
  cases inR d k with
  | false => rfl
  | true =>
    simp [e2, f2]
theorem c_is_key {p : Nat} {d s : Int} {k : List Int} (hk : k.length = p) (hp : p ≤ 1000) (h1 : 1 ≤ p) : callN W P (n + 1) 14 [sysV p d s, keyV k] = .ok (.bl (okK p d s k)) .undef := by
  rw [callN_succ (d := d_law_is_key) rfl rfl]
  have e1 := isk1 (C := callN W P n) (p := p) (d := d) (s := s) (k := k) (by omega)
  have e2 := isk2 (C := callN W P n) (p := p) (d := d) (s := s) (k := k) hk hp h1
  exact (congrArg (Ev.finish d_law_is_key) (isk_body (W := W) e1 e2 (by rw [List.isEmpty_map, filter_empty]; rfl) (by rw [List.isEmpty_map, filter_empty]; rfl))).trans (fin_no rfl)
theorem cut_lo {k : List Int} {i : Nat} (h : i ≤ k.length) : slice (.tup (k.map .int)) none (some (i : Int)) = some (.tup ((k.take i).map .int)) := by
  show some (PV.tup (cut (k.map .int) none (some (i : Int)))) = _
  congr 2
  unfold cut sIx
  simp only [List.length_map, Nat.zero_le, List.drop_zero]
  rw [if_neg (by omega)]
  rw [show min ((i : Int).toNat) k.length - 0 = i by omega, List.map_take]
theorem cut_hi {k : List Int} {i : Nat} (h : i < k.length) : slice (.tup (k.map .int)) (some ((i : Int) + 1)) none = some (.tup ((k.drop (i + 1)).map .int)) := by
  show some (PV.tup (cut (k.map .int) (some ((i : Int) + 1)) none)) = _
  congr 2
  unfold cut sIx
  simp only [List.length_map]
  rw [if_neg (by omega)]
  rw [show min (((i : Int) + 1).toNat) k.length = i + 1 by omega, List.map_drop, List.take_of_length_le]
  simp
theorem put_cut {k : List Int} {i : Nat} {c : Int} (h : i < k.length) : k.take i ++ [c] ++ k.drop (i + 1) = k.set i c := by
  rw [List.set_eq_take_append_cons_drop, if_pos h]
  simp
theorem add_tup {l r : List PV} (h : l.length + r.length ≤ 1000) : binop .Add (.tup l) (.tup r) = some (.tup (l ++ r)) := by
  show (if l.length + r.length ≤ sizeLine then some (PV.tup (l ++ r)) else none) = _
  rw [if_pos (sl_le (by omega))]
theorem e_other {C : Calls} {env : Ev.Env} {a j : Nat} {X : E} {k : List Int} {i : Nat} {c : Int} (ha : Ev.get env a = .ok (.tup (k.map .int), env)) (hj : Ev.get env j = .ok (.int (i : Int), env)) (hx : evalE C X env = .ok (.int c, env)) (h : i < k.length) (hl : k.length ≤ 100) :
    evalE C (.bin .Add (.bin .Add (.sl (.v a) .no (.so (.v j))) (.tup (.cons X .nil))) (.sl (.v a) (.so (.bin .Add (.v j) (.c (.int 1)))) .no)) env = .ok (keyV (k.set i c), env) := by
  have c1 := cut_lo (k := k) (i := i) (by omega)
  have c2 := cut_hi h
  have b1 : binop .Add (.tup ((k.take i).map .int)) (.tup [.int c]) = some (.tup ((k.take i).map .int ++ [.int c])) := add_tup (by simp; omega)
  have b2 : binop .Add (.tup ((k.take i).map .int ++ [.int c])) (.tup ((k.drop (i + 1)).map .int)) = some (.tup ((k.take i).map .int ++ [.int c] ++ (k.drop (i + 1)).map .int)) := add_tup (by simp; omega)
  have e : (k.take i).map PV.int ++ [PV.int c] ++ (k.drop (i + 1)).map PV.int = (k.set i c).map PV.int := by
    rw [← put_cut (c := c) h]; simp
  simp only [eE_bin, eE_sl, eE_v, eO_no, eO_so, eE_tup, eA_cons, eA_nil, eE_c, ha, hj, hx, Res.bind_ok', c1, c2, b1, b2, bin_addi, ofO_some, e, keyV]
def sg (x y : Int) : Int := if x < y then 1 else -1
def mvd (k g : List Int) (i : Nat) : List Int := k.set i (k.getD i 0 + sg (k.getD i 0) (g.getD i 0))
def fo (p : Nat) (d s : Int) (k g : List Int) (i : Nat) : List (List Int) := if (!decide (k.getD i 0 = g.getD i 0)) = true then (if okK p d s (mvd k g i) = true then [mvd k g i] else []) else []
def follBody : Ss := (.cons (.ite (.cmp .NotEq (.idx (.v 1) (.v 4)) (.idx (.v 2) (.v 4))) (.cons (.asg (.n 5) (.ife (.cmp .Lt (.idx (.v 1) (.v 4)) (.idx (.v 2) (.v 4))) (.c (.int 1)) (.neg (.c (.int 1))))) (.cons (.asg (.n 6) (.bin .Add (.bin .Add (.sl (.v 1) .no (.so (.v 4))) (.tup (.cons (.bin .Add (.idx (.v 1) (.v 4)) (.v 5)) .nil))) (.sl (.v 1) (.so (.bin .Add (.v 4) (.c (.int 1)))) .no))) (.cons (.ite (.call 14 (.cons (.v 0) (.cons (.v 6) .nil))) (.cons (.app 3 (.chk (.v 6))) .nil) .nil) .nil))) .nil) .nil)
theorem foll_turn {C : Calls} {p : Nat} {d s : Int} {k g : List Int} {i : Nat} {F : List PV} {x5 x6 : PV} (hk : k.length = p) (hg : g.length = p) (hp : p ≤ 100) (hi : i < p) (hF : F.length ≤ 100) (hC : ∀ o : List Int, o.length = p → C 14 [sysV p d s, keyV o] = .ok (.bl (okK p d s o)) .undef) :
    ∃ y5 y6, evalSs C W follBody [sysV p d s, keyV k, keyV g, .lst F, .int (i : Int), x5, x6] = .nx [sysV p d s, keyV k, keyV g, .lst (F ++ (fo p d s k g i).map keyV), .int (i : Int), y5, y6] := by
  have i1 := at_int (k := k) (i := i) (by omega)
  have i2 := at_int (k := g) (i := i) (by omega)
  have g1 : ∀ a b c : PV, Ev.get [sysV p d s, keyV k, keyV g, a, .int (i : Int), b, c] 1 = .ok (.tup (k.map .int), [sysV p d s, keyV k, keyV g, a, .int (i : Int), b, c]) := fun _ _ _ => rfl
  have g2 : ∀ a b c : PV, Ev.get [sysV p d s, keyV k, keyV g, a, .int (i : Int), b, c] 2 = .ok (.tup (g.map .int), [sysV p d s, keyV k, keyV g, a, .int (i : Int), b, c]) := fun _ _ _ => rfl
  have g4 : ∀ a b c : PV, Ev.get [sysV p d s, keyV k, keyV g, a, .int (i : Int), b, c] 4 = .ok (.int (i : Int), [sysV p d s, keyV k, keyV g, a, .int (i : Int), b, c]) := fun _ _ _ => rfl
  have g5 : ∀ (a : PV) (z : Int) (c : PV), Ev.get [sysV p d s, keyV k, keyV g, a, .int (i : Int), .int z, c] 5 = .ok (.int z, [sysV p d s, keyV k, keyV g, a, .int (i : Int), .int z, c]) := fun _ _ _ => rfl
  have g0 : ∀ a b c : PV, Ev.get [sysV p d s, keyV k, keyV g, a, .int (i : Int), b, c] 0 = .ok (sysV p d s, [sysV p d s, keyV k, keyV g, a, .int (i : Int), b, c]) := fun _ _ _ => rfl
  have g6 : ∀ (a b : PV) (o : List Int), Ev.get [sysV p d s, keyV k, keyV g, a, .int (i : Int), b, keyV o] 6 = .ok (keyV o, [sysV p d s, keyV k, keyV g, a, .int (i : Int), b, keyV o]) := fun _ _ _ => rfl
  have hx : evalE C (.bin .Add (.idx (.v 1) (.v 4)) (.v 5)) [sysV p d s, keyV k, keyV g, .lst F, .int (i : Int), .int (sg (k.getD i 0) (g.getD i 0)), x6] = .ok (.int (k.getD i 0 + sg (k.getD i 0) (g.getD i 0)), [sysV p d s, keyV k, keyV g, .lst F, .int (i : Int), .int (sg (k.getD i 0) (g.getD i 0)), x6]) := by
    simp only [eE_bin, eE_idx, eE_v, g1, g4, g5, i1, Res.bind_ok', ofO_some, bin_addi]
  have eo := e_other (C := C) (a := 1) (j := 4) (X := .bin .Add (.idx (.v 1) (.v 4)) (.v 5)) (k := k) (i := i) (g1 _ _ _) (g4 _ _ _) hx (by omega) (by omega)
  have ho := hC (mvd k g i) (by unfold mvd; rw [List.length_set]; exact hk)
  have lfo : PV.lf (keyV (mvd k g i)) = true := by simp [keyV, PV.lf, lfs_ints]
  have pu : pushP (keyV (mvd k g i)) F = some (.lst (F ++ [keyV (mvd k g i)])) := by
    unfold pushP
    rw [if_pos (by rw [sizeLine_eq]; omega)]
  unfold fo
  by_cases c : k.getD i 0 = g.getD i 0
  · refine ⟨x5, x6, ?_⟩
    unfold follBody
    simp only [eSs_cons, eS_ite, eE_cmp, eE_idx, eE_v, g1, g2, g4, i1, i2, Res.bind_ok', ofO_some, cmp_nei, Res.out_ok, truth_bl, c, eSs_nil, decide_true, Bool.not_true, Bool.false_eq_true, if_false, Out.seq_nx, List.map_nil, List.append_nil]
  · have e5 : evalE C (.ife (.cmp .Lt (.idx (.v 1) (.v 4)) (.idx (.v 2) (.v 4))) (.c (.int 1)) (.neg (.c (.int 1)))) [sysV p d s, keyV k, keyV g, .lst F, .int (i : Int), x5, x6] = .ok (.int (sg (k.getD i 0) (g.getD i 0)), [sysV p d s, keyV k, keyV g, .lst F, .int (i : Int), x5, x6]) := by
      simp only [eE_ife, eE_cmp, eE_idx, eE_v, eE_c, eE_neg, g1, g2, g4, i1, i2, Res.bind_ok', ofO_some, cmp_lti, truth_bl]
      unfold sg
      by_cases h : k.getD i 0 < g.getD i 0
      · rw [if_pos h, decide_eq_true h]; rfl
      · rw [if_neg h, decide_eq_false h]; rfl
    generalize hO : mvd k g i = o at *
    refine ⟨.int (sg (k.getD i 0) (g.getD i 0)), keyV o, ?_⟩
    have hO' : k.set i (k.getD i 0 + sg (k.getD i 0) (g.getD i 0)) = o := hO
    rw [hO'] at eo
    have gl : getL [sysV p d s, keyV k, keyV g, .lst F, .int (i : Int), .int (sg (k.getD i 0) (g.getD i 0)), keyV o] 3 = .ok (F, [sysV p d s, keyV k, keyV g, .lst F, .int (i : Int), .int (sg (k.getD i 0) (g.getD i 0)), keyV o]) := rfl
    unfold follBody
    generalize (E.ife (.cmp .Lt (.idx (.v 1) (.v 4)) (.idx (.v 2) (.v 4))) (.c (.int 1)) (.neg (.c (.int 1)))) = E5 at *
    generalize (E.bin .Add (.bin .Add (.sl (.v 1) .no (.so (.v 4))) (.tup (.cons (.bin .Add (.idx (.v 1) (.v 4)) (.v 5)) .nil))) (.sl (.v 1) (.so (.bin .Add (.v 4) (.c (.int 1)))) .no)) = E6 at *
    simp only [eSs_cons, eS_ite, eE_cmp, eE_idx, eE_v, g1, g2, g4, i1, i2, Res.bind_ok', ofO_some, cmp_nei, Res.out_ok, truth_bl, c, eSs_nil, decide_false, Bool.not_false, if_true, Out.seq_nx, eS_asg, e5, asg_n, List.set_cons_succ, List.set_cons_zero, eo, eE_call, eA_cons, eA_nil, g0, g6, ho, runCall_ok]
    generalize sg (k.getD i 0) (g.getD i 0) = z at *
    cases okK p d s o with
    | false => simp
    | true => simp [gl, g6, lfo, pu]
def foll (p : Nat) (d s : Int) (k g : List Int) (m : Nat) : List (List Int) := (List.range m).flatMap (fo p d s k g)
theorem fo_len {p : Nat} {d s : Int} {k g : List Int} {i : Nat} : (fo p d s k g i).length ≤ 1 := by
  unfold fo
  split
  · split <;> simp
  · simp
theorem foll_len {p : Nat} {d s : Int} {k g : List Int} {m : Nat} : (foll p d s k g m).length ≤ m := by
  unfold foll
  induction m with
  | zero => simp
  | succ m ih =>
    rw [List.range_succ, List.flatMap_append, List.length_append]
    have := fo_len (p := p) (d := d) (s := s) (k := k) (g := g) (i := m)
    simp only [List.flatMap_cons, List.flatMap_nil, List.append_nil]
    omega
theorem foll_loop {C : Calls} {p : Nat} {d s : Int} {k g : List Int} (hk : k.length = p) (hg : g.length = p) (hp : p ≤ 100) (hC : ∀ o : List Int, o.length = p → C 14 [sysV p d s, keyV o] = .ok (.bl (okK p d s o)) .undef) :
    ∃ x4 x5 x6, evalS C W (.for (.n 4) (.rng (.cons (.idx (.v 0) (.c (.int 0))) .nil)) follBody) [sysV p d s, keyV k, keyV g, .lst [], .undef, .undef, .undef] = .nx [sysV p d s, keyV k, keyV g, .lst ((foll p d s k g p).map keyV), x4, x5, x6] := by
  have r : ranges [.int (p : Int)] = some (rng 0 p) := by
    rw [ranges1 (by omega) (by omega)]; rfl
  have ha : evalE C (.idx (.v 0) (.c (.int 0))) [sysV p d s, keyV k, keyV g, .lst [], .undef, .undef, .undef] = .ok (.int (p : Int), [sysV p d s, keyV k, keyV g, .lst [], .undef, .undef, .undef]) := rfl
  obtain ⟨en, e1, x4, x5, x6, rfl⟩ := for_inv (C := C) (W := W) (t := .n 4) (b := follBody) (eI_rng1 ha r)
    (fun j en => ∃ x4 x5 x6, en = [sysV p d s, keyV k, keyV g, .lst ((foll p d s k g j).map keyV), x4, x5, x6]) ⟨.undef, .undef, .undef, rfl⟩
    (fun j x en hx hI => by
      obtain ⟨x4, x5, x6, rfl⟩ := hI
      have hj : j < p := by
        rcases Nat.lt_or_ge j p with h | h
        · exact h
        · rw [List.getElem?_eq_none (by rw [rng_len]; exact h)] at hx; cases hx
      rw [rng_get hj] at hx
      cases hx
      have fl := foll_len (p := p) (d := d) (s := s) (k := k) (g := g) (m := j)
      obtain ⟨y5, y6, e⟩ := foll_turn (W := W) (C := C) (x5 := x5) (x6 := x6) hk hg hp hj (F := (foll p d s k g j).map keyV) (by rw [List.length_map]; omega) hC
      have ef : (foll p d s k g (j + 1)).map keyV = (foll p d s k g j).map keyV ++ (fo p d s k g j).map keyV := by
        unfold foll
        rw [List.range_succ, List.flatMap_append, List.map_append]
        simp
      rw [← ef] at e
      rw [show (0 : Int) + (j : Int) = (j : Int) by omega]
      exact ⟨[sysV p d s, keyV k, keyV g, .lst ((foll p d s k g j).map keyV), .int (j : Int), x5, x6], _, rfl, .inl e, .int (j : Int), y5, y6, rfl⟩)
  rw [rng_len] at e1
  exact ⟨x4, x5, x6, e1⟩
/-- the least of some keys -/
def leastV (l : List (List Int)) : PV := (pmin (l.map keyV)).getD .non
theorem foll_body {C : Calls} {FF : S} {l : List (List Int)} {a b c x4 x5 x6 : PV} {env : Ev.Env} (e1 : evalS C W FF [a, b, c, .lst [], .undef, .undef, .undef] = .nx [a, b, c, .lst (l.map keyV), x4, x5, x6]) :
    evalSs C W (.cons (.masg 3 (.lst .nil)) (.cons FF (.cons (.ret (.chk (.ife (.m 3) (.blt .min (.cons (.m 3) .nil)) (.c .non)))) .nil))) [a, b, c, .undef, .undef, .undef, .undef] = .rt (leastV l) [a, b, c, .lst (l.map keyV), x4, x5, x6] := by
  have g3 : Ev.get [a, b, c, .lst (l.map keyV), x4, x5, x6] 3 = .ok (.lst (l.map keyV), [a, b, c, .lst (l.map keyV), x4, x5, x6]) := rfl
  have m0 : (evalE C (.lst .nil) [a, b, c, .undef, .undef, .undef, .undef]) = .ok (.lst [], [a, b, c, .undef, .undef, .undef, .undef]) := rfl
  unfold leastV
  simp only [eSs_cons, eS_masg, m0, Res.out_ok, List.set_cons_succ, List.set_cons_zero, Out.seq_nx, e1, eS_ret, eE_chk, eE_ife, eE_m, g3, Res.bind_ok', truth_lst, ofO_some, eE_blt, eA_cons, eA_nil, eE_c]
  by_cases h : l = []
  · subst h; rfl
  · obtain ⟨m, _, e⟩ := pmin_rows h
    have e' : evalB .min [.lst (l.map keyV)] = some (keyV m) := e
    have ne : (!(l.map keyV).isEmpty) = true := by simpa using h
    have e2 : pmin (l.map keyV) = some (keyV m) := e
    have lf : PV.lf (keyV m) = true := by simp [keyV, PV.lf, lfs_ints]
    rw [ne, if_pos rfl, e', e2]
    simp [lf]
theorem c_following {p : Nat} {d s : Int} {k g : List Int} (hk : k.length = p) (hg : g.length = p) (h1 : 1 ≤ p) (hp : p ≤ 100) : callN W P (n + 2) 15 [sysV p d s, keyV k, keyV g] = .ok (leastV (foll p d s k g p)) .undef := by
  rw [callN_succ (d := d_law_following) rfl rfl]
  obtain ⟨x4, x5, x6, e1⟩ := foll_loop (W := W) (C := callN W P (n + 1)) hk hg hp fun o ho => c_is_key ho (by omega) h1
  exact (congrArg (Ev.finish d_law_following) (foll_body (env := []) e1)).trans (fin_no rfl)
end K03

namespace K03
open PySem Ev
variable {W n : Nat}
theorem far_set {k g : List Int} (h : k.length = g.length) {i : Nat} (hi : i < k.length) (c : Int) : far (k.set i c) g = far k g - ab (k.getD i 0 - g.getD i 0) + ab (c - g.getD i 0) := by
  induction k generalizing g i with
  | nil => cases hi
  | cons x k ih =>
    cases g with
    | nil => cases h
    | cons y g =>
      have h' : k.length = g.length := by simpa using h
      have fc : ∀ (z : Int) (u : List Int), far (z :: u) (y :: g) = ab (z - y) + far u g := fun z u => rfl
      cases i with
      | zero => rw [List.set_cons_zero, fc, fc]; simp only [List.getD_cons_zero]; omega
      | succ i =>
        have := ih h' (i := i) (by simpa using hi)
        rw [List.set_cons_succ, fc, fc]; simp only [List.getD_cons_succ]; omega
theorem far_nn (k g : List Int) : 0 ≤ far k g := by
  induction k generalizing g with
  | nil => exact Int.le_refl 0
  | cons x k ih =>
    cases g with
    | nil => exact Int.le_refl 0
    | cons y g =>
      have fc : far (x :: k) (y :: g) = ab (x - y) + far k g := rfl
      have := ih g
      rw [fc]
      unfold ab
      split <;> omega
theorem far_eq {k g : List Int} (h : k.length = g.length) : far k g = 0 ↔ k = g := by
  induction k generalizing g with
  | nil => cases g with
    | nil => exact ⟨fun _ => rfl, fun _ => rfl⟩
    | cons y g => cases h
  | cons x k ih =>
    cases g with
    | nil => cases h
    | cons y g =>
      have fc : far (x :: k) (y :: g) = ab (x - y) + far k g := rfl
      have h' : k.length = g.length := by simpa using h
      have i1 := ih h'
      have i2 := far_nn k g
      rw [fc]
      constructor
      · intro e
        have : ab (x - y) = 0 ∧ far k g = 0 := by
          unfold ab at e ⊢
          split at e <;> rename_i hx <;> simp only [hx, if_true, if_false] <;> omega
        have e1 : x = y := by
          have := this.1
          unfold ab at this
          split at this <;> omega
        rw [e1, i1.mp this.2]
      · intro e
        cases e
        rw [i1.mpr rfl]
        have : ab (x - x) = 0 := by unfold ab; split <;> omega
        omega
theorem far_le {d : Int} {k g : List Int} (hk : inR d k = true) (hg : inR d g = true) (h0 : 0 ≤ d) : far k g ≤ d * k.length := by
  induction k generalizing g with
  | nil => simp [far]
  | cons x k ih =>
    cases g with
    | nil =>
      have : far (x :: k) [] = 0 := rfl
      rw [this]
      exact Int.mul_nonneg h0 (by omega)
    | cons y g =>
      have fc : far (x :: k) (y :: g) = ab (x - y) + far k g := rfl
      unfold inR at hk hg
      rw [List.all_cons, Bool.and_eq_true] at hk hg
      have := ih (g := g) hk.2 hg.2
      have hx := hk.1
      have hy := hg.1
      simp only [Bool.and_eq_true, decide_eq_true_eq] at hx hy
      have : ab (x - y) ≤ d := by unfold ab; split <;> omega
      rw [fc, List.length_cons, Int.natCast_succ, Int.mul_add]
      omega
theorem getD_set_self {k : List Int} {i : Nat} {c : Int} (h : i < k.length) : (k.set i c).getD i 0 = c := by
  simp [List.getD_eq_getElem?_getD, h]
theorem getD_set_ne {k : List Int} {i j : Nat} {c : Int} (h : i ≠ j) : (k.set i c).getD j 0 = k.getD j 0 := by
  simp [List.getD_eq_getElem?_getD, List.getElem?_set_ne h]
theorem inR_get {d : Int} {k : List Int} (h : inR d k = true) {i : Nat} (hi : i < k.length) : 0 ≤ k.getD i 0 ∧ k.getD i 0 < d := by
  have := List.all_eq_true.mp h (k.getD i 0) (by rw [List.getD_eq_getElem?_getD, List.getElem?_eq_getElem hi]; exact List.getElem_mem hi)
  simpa using this
theorem inR_set {d : Int} {k : List Int} (h : inR d k = true) {i : Nat} {c : Int} (h0 : 0 ≤ c) (h1 : c < d) : inR d (k.set i c) = true := by
  unfold inR
  rw [List.all_eq_true]
  intro x hx
  rcases List.mem_or_eq_of_mem_set hx with hx | rfl
  · exact List.all_eq_true.mp h x hx
  · simp [h0, h1]
theorem stp_get {s : Int} {p : Nat} {k : List Int} (h : stp s p k = true) {i : Nat} (hi : i + 1 < p) : ab (k.getD i 0 - k.getD (i + 1) 0) ≤ s := by
  have := List.all_eq_true.mp h i (by simp; omega)
  simpa [dif_eq] using this
theorem stp_set {s : Int} {p : Nat} {k : List Int} (hl : k.length = p) (h : stp s p k = true) {i : Nat} (hi : i < p) {c : Int} (hr : i + 1 < p → ab (c - k.getD (i + 1) 0) ≤ s) (hb : ∀ j, i = j + 1 → ab (c - k.getD j 0) ≤ s) : stp s p (k.set i c) = true := by
  unfold stp
  rw [List.all_eq_true]
  intro j hj
  have hj' : j < p - 1 := by simpa using hj
  rw [decide_eq_true_eq, dif_eq]
  by_cases e1 : j = i
  · subst e1
    rw [getD_set_self (by omega), getD_set_ne (by omega)]
    exact hr (by omega)
  · by_cases e2 : i = j + 1
    · have e3 := hb j e2
      rw [getD_set_ne (by omega), e2, getD_set_self (by omega), ab_sym]
      exact e3
    · rw [getD_set_ne (by omega), getD_set_ne (by omega)]
      exact stp_get h (by omega)
/-- a least one of some indices -/
theorem exists_least (f : Nat → Int) (q : Nat → Prop) (hf : ∀ i, q i → 0 ≤ f i) {i : Nat} (h : q i) : ∃ j, q j ∧ ∀ k, q k → f j ≤ f k := by
  have : ∀ n : Nat, ∀ i, q i → (f i).toNat ≤ n → ∃ j, q j ∧ ∀ k, q k → f j ≤ f k := by
    intro n
    induction n with
    | zero =>
      intro i hi hn
      refine ⟨i, hi, fun k hk => ?_⟩
      have := hf i hi
      have := hf k hk
      omega
    | succ n ih =>
      intro i hi hn
      by_cases c : ∃ k, q k ∧ f k < f i
      · obtain ⟨k, hk, lt⟩ := c
        have := hf k hk
        exact ih k hk (by omega)
      · refine ⟨i, hi, fun k hk => ?_⟩
        exact Int.not_lt.mp fun e => c ⟨k, hk, e⟩
  exact this _ i h (Nat.le_refl _)
theorem move_ok {p : Nat} {d s : Int} {k g : List Int} (hk : keyOk p d s k) (hg : keyOk p d s g) (hn : k ≠ g) (hs : 1 ≤ s ∨ p = 1) : ∃ i, i < p ∧ k.getD i 0 ≠ g.getD i 0 ∧ okK p d s (mvd k g i) = true := by
  obtain ⟨kl, kr, ks⟩ := hk
  obtain ⟨gl, gr, gs⟩ := hg
  have fin : ∀ i, i < p → k.getD i 0 ≠ g.getD i 0 → (0 ≤ k.getD i 0 + sg (k.getD i 0) (g.getD i 0) ∧ k.getD i 0 + sg (k.getD i 0) (g.getD i 0) < d) → (∀ j, j < p → (j = i + 1 ∨ i = j + 1) → ab (k.getD i 0 + sg (k.getD i 0) (g.getD i 0) - k.getD j 0) ≤ s) → ∃ i, i < p ∧ k.getD i 0 ≠ g.getD i 0 ∧ okK p d s (mvd k g i) = true := by
    intro i hi hne hr hb
    refine ⟨i, hi, hne, ?_⟩
    unfold okK mvd
    rw [inR_set kr hr.1 hr.2, stp_set kl ks hi (fun h => hb _ h (.inl rfl)) fun j hj => hb j (by omega) (.inr hj)]
    rfl
  by_cases c : ∃ i, i < p ∧ k.getD i 0 < g.getD i 0
  · obtain ⟨i, hi⟩ := c
    obtain ⟨j, ⟨j1, j2⟩, j3⟩ := exists_least (fun i => k.getD i 0) (fun i => i < p ∧ k.getD i 0 < g.getD i 0) (fun i hi => (inR_get kr (by omega)).1) hi
    have gj := inR_get gr (i := j) (by omega)
    have kj := inR_get kr (i := j) (by omega)
    have es : sg (k.getD j 0) (g.getD j 0) = 1 := if_pos j2
    refine fin j j1 (by omega) (by rw [es]; omega) fun m hm hmj => ?_
    rw [es]
    have k3 := j3 m
    have a1 : ab (k.getD j 0 - k.getD m 0) ≤ s := by
      rcases hmj with rfl | rfl
      · exact stp_get ks hm
      · rw [ab_sym]; exact stp_get ks j1
    have a2 : ab (g.getD j 0 - g.getD m 0) ≤ s := by
      rcases hmj with rfl | rfl
      · exact stp_get gs hm
      · rw [ab_sym]; exact stp_get gs j1
    unfold ab at a1 a2 ⊢
    have k4 : k.getD m 0 < g.getD m 0 → k.getD j 0 ≤ k.getD m 0 := fun h => k3 ⟨hm, h⟩
    by_cases h : k.getD m 0 < g.getD m 0
    · have := k4 h
      split at a1 <;> split at a2 <;> split <;> omega
    · split at a1 <;> split at a2 <;> split <;> omega
  · have c' : ∀ i, i < p → g.getD i 0 ≤ k.getD i 0 := fun i hi => by
      rcases Int.lt_or_le (k.getD i 0) (g.getD i 0) with h | h
      · exact absurd ⟨i, hi, h⟩ c
      · exact h
    have ⟨i, hi⟩ : ∃ i, i < p ∧ g.getD i 0 < k.getD i 0 := by
      apply Classical.byContradiction
      intro e
      apply hn
      apply List.ext_getElem (by omega)
      intro i h1 h2
      have e1 := c' i (by omega)
      have e2 : ¬ g.getD i 0 < k.getD i 0 := fun h => e ⟨i, by omega, h⟩
      have e3 : k.getD i 0 = g.getD i 0 := by omega
      simpa [List.getD_eq_getElem?_getD, h1, h2] using e3
    obtain ⟨j, ⟨j1, j2⟩, j3⟩ := exists_least (fun i => d - k.getD i 0) (fun i => i < p ∧ g.getD i 0 < k.getD i 0) (fun i hi => by have := (inR_get kr (i := i) (by omega)).2; omega) hi
    have gj := inR_get gr (i := j) (by omega)
    have kj := inR_get kr (i := j) (by omega)
    have es : sg (k.getD j 0) (g.getD j 0) = -1 := if_neg (by omega)
    refine fin j j1 (by omega) (by rw [es]; omega) fun m hm hmj => ?_
    rw [es]
    have k3 := j3 m
    have a1 : ab (k.getD j 0 - k.getD m 0) ≤ s := by
      rcases hmj with rfl | rfl
      · exact stp_get ks hm
      · rw [ab_sym]; exact stp_get ks j1
    have a2 : ab (g.getD j 0 - g.getD m 0) ≤ s := by
      rcases hmj with rfl | rfl
      · exact stp_get gs hm
      · rw [ab_sym]; exact stp_get gs j1
    unfold ab at a1 a2 ⊢
    by_cases h : g.getD m 0 < k.getD m 0
    · have := k3 ⟨hm, h⟩
      split at a1 <;> split at a2 <;> split <;> omega
    · split at a1 <;> split at a2 <;> split <;> omega
/-- no way at all: the step is 0 and there are two pins -/
theorem move_no {p : Nat} {d : Int} {k : List Int} (hk : keyOk p d 0 k) (h2 : 2 ≤ p) (i : Nat) (hi : i < p) (c : Int) (hc : c ≠ k.getD i 0) : okK p d 0 (k.set i c) = false := by
  obtain ⟨kl, kr, ks⟩ := hk
  cases e : okK p d 0 (k.set i c) with
  | false => rfl
  | true =>
    unfold okK at e
    rw [Bool.and_eq_true] at e
    by_cases h : i + 1 < p
    · have a1 := stp_get e.2 h
      have a2 := stp_get ks h
      rw [getD_set_self (by omega), getD_set_ne (by omega)] at a1
      unfold ab at a1 a2
      split at a1 <;> split at a2 <;> omega
    · obtain ⟨j, rfl⟩ : ∃ j, i = j + 1 := ⟨i - 1, by omega⟩
      have a1 := stp_get e.2 hi
      have a2 := stp_get ks hi
      rw [getD_set_self (by omega), getD_set_ne (by omega)] at a1
      unfold ab at a1 a2
      split at a1 <;> split at a2 <;> omega
/-- the neighbours of a key -/
def nb (p : Nat) (d s : Int) (k : List Int) (i : Nat) (c : Int) : List (List Int) := if okK p d s (k.set i c) = true then [k.set i c] else []
def nbs (p : Nat) (d s : Int) (k : List Int) (m : Nat) : List (List Int) := (List.range m).flatMap fun i => nb p d s k i (k.getD i 0 - 1) ++ nb p d s k i (k.getD i 0 + 1)
theorem nb_filter {p : Nat} {d s : Int} {k g : List Int} {i : Nat} {c : Int} {t : Int} : (nb p d s k i c).filter (fun o => decide (far o g < t)) = if far (k.set i c) g < t then nb p d s k i c else [] := by
  unfold nb
  split
  · rw [List.filter_cons]
    by_cases h : far (k.set i c) g < t
    · rw [if_pos (by simpa using h), if_pos h]; rfl
    · rw [if_neg (by simpa using h), if_neg h]; rfl
  · split <;> rfl
theorem nbs_foll {p : Nat} {d s : Int} {k g : List Int} (kl : k.length = p) (gl : g.length = p) : ∀ m, m ≤ p → (nbs p d s k m).filter (fun o => decide (far o g < far k g)) = foll p d s k g m
  | 0, _ => rfl
  | m + 1, h => by
    unfold nbs foll
    rw [List.range_succ, List.flatMap_append, List.flatMap_append, List.filter_append]
    have ih := nbs_foll (d := d) (s := s) kl gl m (by omega)
    unfold nbs foll at ih
    rw [ih]
    congr 1
    simp only [List.flatMap_cons, List.flatMap_nil, List.append_nil, List.filter_append, nb_filter]
    have f1 := far_set (k := k) (g := g) (by omega) (i := m) (by omega) (k.getD m 0 - 1)
    have f2 := far_set (k := k) (g := g) (by omega) (i := m) (by omega) (k.getD m 0 + 1)
    unfold fo
    by_cases e : k.getD m 0 = g.getD m 0
    · rw [if_neg (by unfold ab at f1; split at f1 <;> split at f1 <;> omega), if_neg (by unfold ab at f2; split at f2 <;> split at f2 <;> omega), if_neg (by rw [e]; simp)]
      rfl
    · rw [if_pos (c := (!decide (k.getD m 0 = g.getD m 0)) = true) (by simpa using e)]
      unfold mvd nb
      by_cases l : k.getD m 0 < g.getD m 0
      · have es : sg (k.getD m 0) (g.getD m 0) = 1 := if_pos l
        rw [es, if_neg (by unfold ab at f1; split at f1 <;> split at f1 <;> omega), if_pos (c := far (k.set m (k.getD m 0 + 1)) g < far k g) (by unfold ab at f2; split at f2 <;> split at f2 <;> omega)]
        rfl
      · have es : sg (k.getD m 0) (g.getD m 0) = -1 := if_neg l
        rw [es, if_pos (c := far (k.set m (k.getD m 0 - 1)) g < far k g) (by unfold ab at f1; split at f1 <;> split at f1 <;> omega), if_neg (c := far (k.set m (k.getD m 0 + 1)) g < far k g) (by unfold ab at f2; split at f2 <;> split at f2 <;> omega), List.append_nil]
        rfl
theorem foll_mem {p : Nat} {d s : Int} {k g : List Int} {o : List Int} (kl : k.length = p) (gl : g.length = p) (h : o ∈ foll p d s k g p) : keyOk p d s o ∧ far o g = far k g - 1 := by
  unfold foll at h
  obtain ⟨i, hi, ho⟩ := List.mem_flatMap.mp h
  have hi' : i < p := by simpa using hi
  unfold fo at ho
  split at ho
  · rename_i ne
    have ne' : k.getD i 0 ≠ g.getD i 0 := by simpa using ne
    split at ho
    · rename_i ok
      have eo : o = mvd k g i := by simpa using ho
      rw [eo]
      unfold okK at ok
      rw [Bool.and_eq_true] at ok
      refine ⟨⟨by unfold mvd; rw [List.length_set]; exact kl, ok.1, ok.2⟩, ?_⟩
      unfold mvd
      have f := far_set (k := k) (g := g) (by omega) (i := i) (by omega) (k.getD i 0 + sg (k.getD i 0) (g.getD i 0))
      rw [f]
      unfold sg ab
      split <;> split <;> split <;> omega
    · cases ho
  · cases ho
theorem foll_ne {p : Nat} {d s : Int} {k g : List Int} (hk : keyOk p d s k) (hg : keyOk p d s g) (hn : k ≠ g) (hs : 1 ≤ s ∨ p = 1) : foll p d s k g p ≠ [] := by
  obtain ⟨i, hi, ne, ok⟩ := move_ok hk hg hn hs
  intro e
  have : mvd k g i ∈ foll p d s k g p := by
    unfold foll
    refine List.mem_flatMap.mpr ⟨i, by simpa using hi, ?_⟩
    unfold fo
    rw [if_pos (by simpa using ne), if_pos ok]
    simp
  rw [e] at this
  cases this
theorem foll_no {p : Nat} {d : Int} {k g : List Int} (hk : keyOk p d 0 k) (h2 : 2 ≤ p) : foll p d 0 k g p = [] := by
  unfold foll
  rw [List.flatMap_eq_nil_iff]
  intro i hi
  have hi' : i < p := by simpa using hi
  unfold fo
  split
  · rw [if_neg]
    unfold mvd
    rw [move_no hk h2 i hi' _ (by unfold sg; split <;> omega)]
    simp
  · rfl
def IsNext (p : Nat) (d s : Int) (g k o : List Int) : Prop := o ∈ foll p d s k g p ∧ pmin ((foll p d s k g p).map keyV) = some (keyV o)
theorem path {p : Nat} {d s : Int} {g : List Int} (hg : keyOk p d s g) : ∀ (D : Nat) (k : List Int), keyOk p d s k → far k g = D → (k ≠ g → 1 ≤ s ∨ p = 1) →
    ∃ q : Nat → List Int, q 0 = k ∧ (∀ j, j ≤ D → keyOk p d s (q j) ∧ far (q j) g = ((D - j : Nat) : Int)) ∧ ∀ j, j < D → IsNext p d s g (q j) (q (j + 1))
  | 0, k, hk, hD, _ => ⟨fun _ => k, rfl, fun j hj => by rw [show 0 - j = 0 by omega]; exact ⟨hk, hD⟩, fun j hj => by omega⟩
  | D + 1, k, hk, hD, hs => by
    have ne : k ≠ g := fun e => by rw [(far_eq (by rw [hk.1, hg.1])).mpr e] at hD; omega
    obtain ⟨o, ho, he⟩ := pmin_rows (foll_ne hk hg ne (hs ne))
    obtain ⟨ok, of_⟩ := foll_mem hk.1 hg.1 ho
    obtain ⟨q, q0, q1, q2⟩ := path hg D o ok (by omega) fun _ => hs ne
    refine ⟨fun j => match j with
      | 0 => k
      | j + 1 => q j, rfl, fun j hj => ?_, fun j hj => ?_⟩
    · cases j with
      | zero => exact ⟨hk, hD⟩
      | succ j =>
        have := q1 j (by omega)
        rw [show D + 1 - (j + 1) = D - j by omega]
        exact this
    · cases j with
      | zero =>
        show IsNext p d s g k (q 0)
        rw [q0]
        exact ⟨ho, he⟩
      | succ j => exact q2 j (by omega)
/-! ### neighbours -/
theorem lf_key (k : List Int) : PV.lf (keyV k) = true := by simp [keyV, PV.lf, lfs_ints]
theorem is_reason {p : Nat} {d s : Int} {k : List Int} : cmpop .Is (reason p d s k) .non = some (okK p d s k) := by
  unfold reason okK
  cases inR d k <;> cases stp s p k <;> rfl
def nbBody : Ss := (.cons (.asg (.n 5) (.bin .Add (.bin .Add (.sl (.v 1) .no (.so (.v 3))) (.tup (.cons (.v 4) .nil))) (.sl (.v 1) (.so (.bin .Add (.v 3) (.c (.int 1)))) .no))) (.cons (.ite (.cmp .Is (.call 2 (.cons (.v 0) (.cons (.v 5) .nil))) (.c .non)) (.cons (.app 2 (.chk (.v 5))) .nil) .nil) .nil))
theorem nb_turn {C : Calls} {p : Nat} {d s : Int} {k : List Int} {i : Nat} {F : List PV} {c : Int} {x5 : PV} (hk : k.length = p) (hp : p ≤ 100) (hi : i < p) (hF : F.length ≤ 1000) (hC : ∀ o : List Int, o.length = p → C 2 [sysV p d s, keyV o] = .ok (reason p d s o) .undef) :
    evalSs C W nbBody [sysV p d s, keyV k, .lst F, .int (i : Int), .int c, x5] = .nx [sysV p d s, keyV k, .lst (F ++ (nb p d s k i c).map keyV), .int (i : Int), .int c, keyV (k.set i c)] := by
  have g0 : ∀ a b c e f : PV, Ev.get [sysV p d s, a, b, c, e, f] 0 = .ok (sysV p d s, [sysV p d s, a, b, c, e, f]) := fun _ _ _ _ _ => rfl
  have g1 : ∀ a b c e : PV, Ev.get [a, keyV k, b, .int (i : Int), c, e] 1 = .ok (.tup (k.map .int), [a, keyV k, b, .int (i : Int), c, e]) := fun _ _ _ _ => rfl
  have g3 : ∀ a b c e f : PV, Ev.get [a, b, c, .int (i : Int), e, f] 3 = .ok (.int (i : Int), [a, b, c, .int (i : Int), e, f]) := fun _ _ _ _ _ => rfl
  have g4 : ∀ a b e f h : PV, Ev.get [a, b, e, f, .int c, h] 4 = .ok (.int c, [a, b, e, f, .int c, h]) := fun _ _ _ _ _ => rfl
  have g5 : ∀ (a b c e f : PV) (o : List Int), Ev.get [a, b, c, e, f, keyV o] 5 = .ok (keyV o, [a, b, c, e, f, keyV o]) := fun _ _ _ _ _ _ => rfl
  have hx : evalE C (.v 4) [sysV p d s, keyV k, .lst F, .int (i : Int), .int c, x5] = .ok (.int c, [sysV p d s, keyV k, .lst F, .int (i : Int), .int c, x5]) := g4 _ _ _ _ _
  have eo := e_other (C := C) (a := 1) (j := 3) (X := .v 4) (k := k) (i := i) (g1 _ _ _ _) (g3 _ _ _ _ _) hx (by omega) (by omega)
  have ho := hC (k.set i c) (by rw [List.length_set]; exact hk)
  have lfo : PV.lf (keyV (k.set i c)) = true := lf_key _
  have pu : pushP (keyV (k.set i c)) F = some (.lst (F ++ [keyV (k.set i c)])) := by
    unfold pushP
    rw [if_pos (by rw [sizeLine_eq]; omega)]
  have isr := is_reason (p := p) (d := d) (s := s) (k := k.set i c)
  unfold nb nbBody
  generalize k.set i c = o at *
  have gl : getL [sysV p d s, keyV k, .lst F, .int (i : Int), .int c, keyV o] 2 = .ok (F, [sysV p d s, keyV k, .lst F, .int (i : Int), .int c, keyV o]) := rfl
  generalize (E.bin .Add (.bin .Add (.sl (.v 1) .no (.so (.v 3))) (.tup (.cons (.v 4) .nil))) (.sl (.v 1) (.so (.bin .Add (.v 3) (.c (.int 1)))) .no)) = E6 at *
  simp only [eSs_cons, eS_ite, eE_cmp, eE_v, g0, g5, Res.bind_ok', ofO_some, Res.out_ok, truth_bl, eSs_nil, Out.seq_nx, eS_asg, asg_n, List.set_cons_succ, List.set_cons_zero, eo, eE_call, eA_cons, eA_nil, ho, runCall_ok, eE_c, isr]
  cases okK p d s o with
  | false => simp
  | true => simp [gl, g5, lfo, pu]
def nbIn : S := .for (.n 4) (.e (.tup (.cons (.bin .Sub (.idx (.v 1) (.v 3)) (.c (.int 1))) (.cons (.bin .Add (.idx (.v 1) (.v 3)) (.c (.int 1))) .nil)))) nbBody
theorem nb_len {p : Nat} {d s : Int} {k : List Int} {i : Nat} {c : Int} : (nb p d s k i c).length ≤ 1 := by
  unfold nb
  split <;> simp
theorem nbs_len {p : Nat} {d s : Int} {k : List Int} {m : Nat} : (nbs p d s k m).length ≤ 2 * m := by
  unfold nbs
  induction m with
  | zero => simp
  | succ m ih =>
    rw [List.range_succ, List.flatMap_append, List.length_append]
    have h1 := nb_len (p := p) (d := d) (s := s) (k := k) (i := m) (c := k.getD m 0 - 1)
    have h2 := nb_len (p := p) (d := d) (s := s) (k := k) (i := m) (c := k.getD m 0 + 1)
    simp only [List.flatMap_cons, List.flatMap_nil, List.append_nil, List.length_append]
    omega
theorem nb_in {C : Calls} {p : Nat} {d s : Int} {k : List Int} {i : Nat} {F : List PV} {x4 x5 : PV} (hk : k.length = p) (hp : p ≤ 100) (hi : i < p) (hF : F.length ≤ 900) (hC : ∀ o : List Int, o.length = p → C 2 [sysV p d s, keyV o] = .ok (reason p d s o) .undef) :
    ∃ y4 y5, evalS C W nbIn [sysV p d s, keyV k, .lst F, .int (i : Int), x4, x5] = .nx [sysV p d s, keyV k, .lst (F ++ (nb p d s k i (k.getD i 0 - 1) ++ nb p d s k i (k.getD i 0 + 1)).map keyV), .int (i : Int), y4, y5] := by
  have g1 : ∀ a b c e : PV, Ev.get [a, keyV k, b, .int (i : Int), c, e] 1 = .ok (.tup (k.map .int), [a, keyV k, b, .int (i : Int), c, e]) := fun _ _ _ _ => rfl
  have g3 : ∀ a b c e f : PV, Ev.get [a, b, c, .int (i : Int), e, f] 3 = .ok (.int (i : Int), [a, b, c, .int (i : Int), e, f]) := fun _ _ _ _ _ => rfl
  have i1 := at_int (k := k) (i := i) (by omega)
  have t1 := nb_turn (W := W) (C := C) (d := d) (s := s) (c := k.getD i 0 - 1) (F := F) (x5 := x5) hk hp hi (by omega) hC
  have t2 := nb_turn (W := W) (C := C) (d := d) (s := s) (c := k.getD i 0 + 1) (F := F ++ (nb p d s k i (k.getD i 0 - 1)).map keyV) (x5 := keyV (k.set i (k.getD i 0 - 1))) hk hp hi
    (by rw [List.length_append, List.length_map]; have := nb_len (p := p) (d := d) (s := s) (k := k) (i := i) (c := k.getD i 0 - 1); omega) hC
  have hI : evalI C (.e (.tup (.cons (.bin .Sub (.idx (.v 1) (.v 3)) (.c (.int 1))) (.cons (.bin .Add (.idx (.v 1) (.v 3)) (.c (.int 1))) .nil)))) [sysV p d s, keyV k, .lst F, .int (i : Int), x4, x5] = .ok ([.int (k.getD i 0 - 1), .int (k.getD i 0 + 1)], [sysV p d s, keyV k, .lst F, .int (i : Int), x4, x5]) := by
    simp only [eI_e, eE_tup, eA_cons, eA_nil, eE_bin, eE_idx, eE_v, eE_c, g1, g3, i1, Res.bind_ok', ofO_some, bin_subi, bin_addi, seqOf_tup]
  refine ⟨.int (k.getD i 0 + 1), keyV (k.set i (k.getD i 0 + 1)), ?_⟩
  unfold nbIn
  rw [eS_for, hI]
  generalize nbBody = B at *
  generalize k.set i (k.getD i 0 - 1) = o1 at *
  generalize k.set i (k.getD i 0 + 1) = o2 at *
  generalize nb p d s k i (k.getD i 0 - 1) = l1 at *
  generalize nb p d s k i (k.getD i 0 + 1) = l2 at *
  generalize k.getD i 0 - 1 = c1 at *
  generalize k.getD i 0 + 1 = c2 at *
  simp only [Res.out_ok, forGo, asg_n, ofO_some, List.set_cons_succ, List.set_cons_zero, t1, t2, List.map_append, List.append_assoc]
theorem nb_loop {C : Calls} {p : Nat} {d s : Int} {k : List Int} (hk : k.length = p) (hp : p ≤ 100) (hC : ∀ o : List Int, o.length = p → C 2 [sysV p d s, keyV o] = .ok (reason p d s o) .undef) :
    ∃ x3 x4 x5, evalS C W (.for (.n 3) (.rng (.cons (.idx (.v 0) (.c (.int 0))) .nil)) (.cons nbIn .nil)) [sysV p d s, keyV k, .lst [], .undef, .undef, .undef] = .nx [sysV p d s, keyV k, .lst ((nbs p d s k p).map keyV), x3, x4, x5] := by
  have r : ranges [.int (p : Int)] = some (rng 0 p) := by
    rw [ranges1 (by omega) (by omega)]; rfl
  have ha : evalE C (.idx (.v 0) (.c (.int 0))) [sysV p d s, keyV k, .lst [], .undef, .undef, .undef] = .ok (.int (p : Int), [sysV p d s, keyV k, .lst [], .undef, .undef, .undef]) := rfl
  obtain ⟨en, e1, x3, x4, x5, rfl⟩ := for_inv (C := C) (W := W) (t := .n 3) (b := .cons nbIn .nil) (eI_rng1 ha r)
    (fun j en => ∃ x3 x4 x5, en = [sysV p d s, keyV k, .lst ((nbs p d s k j).map keyV), x3, x4, x5]) ⟨.undef, .undef, .undef, rfl⟩
    (fun j x en hx hI => by
      obtain ⟨x3, x4, x5, rfl⟩ := hI
      have hj : j < p := by
        rcases Nat.lt_or_ge j p with h | h
        · exact h
        · rw [List.getElem?_eq_none (by rw [rng_len]; exact h)] at hx; cases hx
      rw [rng_get hj] at hx
      cases hx
      have fl := nbs_len (p := p) (d := d) (s := s) (k := k) (m := j)
      obtain ⟨y4, y5, e⟩ := nb_in (W := W) (C := C) (x4 := x4) (x5 := x5) hk hp hj (F := (nbs p d s k j).map keyV) (by rw [List.length_map]; omega) hC
      have ef : (nbs p d s k (j + 1)).map keyV = (nbs p d s k j).map keyV ++ (nb p d s k j (k.getD j 0 - 1) ++ nb p d s k j (k.getD j 0 + 1)).map keyV := by
        unfold nbs
        rw [List.range_succ, List.flatMap_append, List.map_append]
        simp
      rw [← ef] at e
      rw [show (0 : Int) + (j : Int) = (j : Int) by omega]
      refine ⟨[sysV p d s, keyV k, .lst ((nbs p d s k j).map keyV), .int (j : Int), x4, x5], _, rfl, .inl ?_, .int (j : Int), y4, y5, rfl⟩
      rw [eSs_cons, e]
      rfl)
  rw [rng_len] at e1
  exact ⟨x3, x4, x5, e1⟩
theorem nb_body {C : Calls} {FF : S} {l : List PV} {a b x3 x4 x5 : PV} (e1 : evalS C W FF [a, b, .lst [], .undef, .undef, .undef] = .nx [a, b, .lst l, x3, x4, x5]) :
    evalSs C W (.cons (.masg 2 (.lst .nil)) (.cons FF (.cons (.ret (.mv 2)) .nil))) [a, b, .undef, .undef, .undef, .undef] = .rt (.lst l) [a, b, .undef, x3, x4, x5] := by
  have g2 : Ev.get [a, b, .lst l, x3, x4, x5] 2 = .ok (.lst l, [a, b, .lst l, x3, x4, x5]) := rfl
  have m0 : (evalE C (.lst .nil) [a, b, .undef, .undef, .undef, .undef]) = .ok (.lst [], [a, b, .undef, .undef, .undef, .undef]) := rfl
  simp only [eSs_cons, eS_masg, m0, Res.out_ok, List.set_cons_succ, List.set_cons_zero, Out.seq_nx, e1, eS_ret, eE_mv, g2, Res.bind_ok', Out.seq_rt]
theorem c_neighbours {p : Nat} {d s : Int} {k : List Int} (hk : k.length = p) (h1 : 1 ≤ p) (hp : p ≤ 100) : callN W P (n + 3) 5 [sysV p d s, keyV k] = .ok (.lst ((nbs p d s k p).map keyV)) .undef := by
  rw [callN_succ (d := d_neighbours) rfl rfl]
  obtain ⟨x3, x4, x5, e1⟩ := nb_loop (W := W) (C := callN W P (n + 2)) (d := d) (s := s) hk hp fun o ho => c_key_reason p d s o ho (by omega) h1
  exact (congrArg (Ev.finish d_neighbours) (nb_body e1)).trans (fin_no rfl)
/-! ### way_between -/
theorem eqv_ints : ∀ a b : List Int, PyData.eqvAll (PV.pds (a.map .int)) (PV.pds (b.map .int)) = decide (a = b)
  | [], [] => by simp [PV.pds, PyData.eqvAll]
  | [], _ :: _ => by simp [PV.pds, PyData.eqvAll]
  | _ :: _, [] => by simp [PV.pds, PyData.eqvAll]
  | x :: a, y :: b => by
    have ih := eqv_ints a b
    have e : PyData.eqvAll (PV.pds ((x :: a).map .int)) (PV.pds ((y :: b).map .int)) = (PyData.eqv (.int x) (.int y) && PyData.eqvAll (PV.pds (a.map .int)) (PV.pds (b.map .int))) := by
      simp [PV.pds, PV.pd, PyData.eqvAll]
    have e2 : PyData.eqv (.int x) (.int y) = decide (x = y) := rfl
    rw [e, e2, ih]
    by_cases h1 : x = y <;> by_cases h2 : a = b <;> simp [h1, h2]
theorem sm_key {d : Int} {k : List Int} (h : inR d k = true) (hd : d ≤ 10) : Sm (keyV k) 1 (k.length * 7 + 1) := by
  have := Sm.tup (l := k.map PV.int) (dp := 0) (w := 6) fun x hx => by
    obtain ⟨z, hz, rfl⟩ := List.mem_map.mp hx
    have := List.all_eq_true.mp h z hz
    simp only [Bool.and_eq_true, decide_eq_true_eq] at this
    exact Sm.dig this.1 (by omega)
  rw [List.length_map] at this
  exact this
theorem ne_keys {d : Int} {a b : List Int} (ha : inR d a = true) (hb : inR d b = true) (hd : d ≤ 10) : cmpop .NotEq (keyV a) (keyV b) = some (!decide (a = b)) := by
  rw [cmp_ne (sm_key ha hd) (sm_key hb hd) (fun x e => by unfold keyV at e; cases e) (by omega) (by omega)]
  congr 2
  show PyData.eqv (.tuple (PV.pds (a.map .int))) (.tuple (PV.pds (b.map .int))) = _
  simp only [PyData.eqv]
  exact eqv_ints a b
theorem eq_keys {d : Int} {a b : List Int} (ha : inR d a = true) (hb : inR d b = true) (hd : d ≤ 10) : cmpop .Eq (keyV a) (keyV b) = some (decide (a = b)) := by
  rw [cmp_eq (sm_key ha hd) (sm_key hb hd) (fun x e => by unfold keyV at e; cases e) (by omega) (by omega)]
  congr 1
  show PyData.eqv (.tuple (PV.pds (a.map .int))) (.tuple (PV.pds (b.map .int))) = _
  simp only [PyData.eqv]
  exact eqv_ints a b
def rowsE : E := .comp [7] (.n 7) (.e (.call 5 (.cons (.v 0) (.cons (.v 3) .nil)))) (.so (.cmp .Lt (.call 6 (.cons (.v 7) (.cons (.v 2) .nil))) (.v 5))) (.v 7)
theorem set_len {p : Nat} {d s : Int} {k o : List Int} (h : o ∈ nbs p d s k p) : o.length = k.length := by
  unfold nbs at h
  obtain ⟨i, _, ho⟩ := List.mem_flatMap.mp h
  rcases List.mem_append.mp ho with ho | ho
  · unfold nb at ho
    split at ho
    · rw [List.mem_singleton.mp ho, List.length_set]
    · cases ho
  · unfold nb at ho
    split at ho
    · rw [List.mem_singleton.mp ho, List.length_set]
    · cases ho
theorem e_rows {C : Calls} {p : Nat} {d s : Int} {k g : List Int} {f r x6 : PV} (hk : k.length = p) (hg : g.length = p) (hp : p ≤ 100) (h5 : C 5 [sysV p d s, keyV k] = .ok (.lst ((nbs p d s k p).map keyV)) .undef)
    (h6 : ∀ o : List Int, o.length = p → C 6 [keyV o, keyV g] = .ok (.int (far o g)) .undef) :
    evalE C rowsE [sysV p d s, f, keyV g, keyV k, r, .int (far k g), x6, .undef] = .ok (.lst ((foll p d s k g p).map keyV), [sysV p d s, f, keyV g, keyV k, r, .int (far k g), x6, .undef]) := by
  have nl := nbs_len (p := p) (d := d) (s := s) (k := k) (m := p)
  have e := comp_filter (C := C) (own := [7]) (tg := .n 7) (it := .e (.call 5 (.cons (.v 0) (.cons (.v 3) .nil)))) (c := .cmp .Lt (.call 6 (.cons (.v 7) (.cons (.v 2) .nil))) (.v 5)) (e := .v 7) (env := [sysV p d s, f, keyV g, keyV k, r, .int (far k g), x6, .undef])
    (l := nbs p d s k p) (i := keyV) (g := fun o => if decide (far o g < far k g) = true then some (keyV o) else none) ?_ (sl_le (by omega)) fun o ho => ?_
  · unfold rowsE
    rw [e, fm_filter, nbs_foll hk hg p (Nat.le_refl _)]
  · have v0 : Ev.get [sysV p d s, f, keyV g, keyV k, r, .int (far k g), x6, .undef] 0 = .ok (sysV p d s, [sysV p d s, f, keyV g, keyV k, r, .int (far k g), x6, .undef]) := rfl
    have v3 : Ev.get [sysV p d s, f, keyV g, keyV k, r, .int (far k g), x6, .undef] 3 = .ok (keyV k, [sysV p d s, f, keyV g, keyV k, r, .int (far k g), x6, .undef]) := rfl
    simp only [eI_e, eE_call, eA_cons, eA_nil, eE_v, v0, v3, Res.bind_ok', h5, runCall_ok, seqOf_lst, ofO_some]
  · have lo := set_len ho
    have h6' := h6 o (by omega)
    have v7 : Ev.get [sysV p d s, f, keyV g, keyV k, r, .int (far k g), x6, keyV o] 7 = .ok (keyV o, [sysV p d s, f, keyV g, keyV k, r, .int (far k g), x6, keyV o]) := rfl
    have v2 : Ev.get [sysV p d s, f, keyV g, keyV k, r, .int (far k g), x6, keyV o] 2 = .ok (keyV g, [sysV p d s, f, keyV g, keyV k, r, .int (far k g), x6, keyV o]) := rfl
    have v5 : Ev.get [sysV p d s, f, keyV g, keyV k, r, .int (far k g), x6, keyV o] 5 = .ok (.int (far k g), [sysV p d s, f, keyV g, keyV k, r, .int (far k g), x6, keyV o]) := rfl
    refine ⟨[sysV p d s, f, keyV g, keyV k, r, .int (far k g), x6, keyV o], [sysV p d s, f, keyV g, keyV k, r, .int (far k g), x6, keyV o], .bl (decide (far o g < far k g)), decide (far o g < far k g), rfl, ?_, rfl, ?_⟩
    · simp only [eE_cmp, eE_call, eA_cons, eA_nil, eE_v, v7, v2, v5, Res.bind_ok', h6', runCall_ok, ofO_some, cmp_lti]
    · generalize decide (far o g < far k g) = bb
      cases bb with
      | true => exact ⟨keyV o, _, v7, rfl, rfl⟩
      | false => exact ⟨rfl, rfl⟩
def wbBody : Ss := (.cons (.asg (.n 5) (.call 6 (.cons (.v 3) (.cons (.v 2) .nil)))) (.cons (.asg (.n 6) rowsE) (.cons (.ite (.not (.v 6)) (.cons (.ret (.c .non)) .nil) .nil) (.cons (.asg (.n 3) (.blt .min (.cons (.v 6) .nil))) (.cons (.app 4 (.chk (.v 3))) .nil)))))
theorem wb_turn {C : Calls} {p : Nat} {d s : Int} {k g : List Int} {f x5 x6 : PV} {R : List PV} (hR : R.length ≤ 1000) (h6 : C 6 [keyV k, keyV g] = .ok (.int (far k g)) .undef)
    (er : ∀ x, evalE C rowsE [sysV p d s, f, keyV g, keyV k, .lst R, .int (far k g), x, .undef] = .ok (.lst ((foll p d s k g p).map keyV), [sysV p d s, f, keyV g, keyV k, .lst R, .int (far k g), x, .undef])) :
    (∀ o, IsNext p d s g k o → ∃ y5 y6, evalSs C W wbBody [sysV p d s, f, keyV g, keyV k, .lst R, x5, x6, .undef] = .nx [sysV p d s, f, keyV g, keyV o, .lst (R ++ [keyV o]), y5, y6, .undef]) ∧
    (foll p d s k g p = [] → ∃ en, evalSs C W wbBody [sysV p d s, f, keyV g, keyV k, .lst R, x5, x6, .undef] = .rt .non en) := by
  have v2 : ∀ a b c e h x y : PV, Ev.get [a, b, keyV g, c, e, h, x, y] 2 = .ok (keyV g, [a, b, keyV g, c, e, h, x, y]) := fun _ _ _ _ _ _ _ => rfl
  have v3 : ∀ (o : List Int) (a b c e h x y : PV), Ev.get [a, b, c, keyV o, e, h, x, y] 3 = .ok (keyV o, [a, b, c, keyV o, e, h, x, y]) := fun _ _ _ _ _ _ _ _ => rfl
  have v6 : ∀ (l : List PV) (a b c e f h y : PV), Ev.get [a, b, c, e, f, h, .lst l, y] 6 = .ok (.lst l, [a, b, c, e, f, h, .lst l, y]) := fun _ _ _ _ _ _ _ _ => rfl
  have gl : ∀ (a b c e h x y : PV), getL [a, b, c, e, .lst R, h, x, y] 4 = .ok (R, [a, b, c, e, .lst R, h, x, y]) := fun _ _ _ _ _ _ _ => rfl
  unfold wbBody
  generalize rowsE = RE at *
  constructor
  · intro o ho
    have ne : ((foll p d s k g p).map keyV).isEmpty = false := by
      have := ho.1
      cases e : foll p d s k g p with
      | nil => rw [e] at this; cases this
      | cons x l => rfl
    have mn : evalB .min [.lst ((foll p d s k g p).map keyV)] = some (keyV o) := ho.2
    have lfo : PV.lf (keyV o) = true := by simp [keyV, PV.lf, lfs_ints]
    have pu : pushP (keyV o) R = some (.lst (R ++ [keyV o])) := by
      unfold pushP
      rw [if_pos (by rw [sizeLine_eq]; omega)]
    generalize (foll p d s k g p).map keyV = L at *
    refine ⟨.int (far k g), .lst L, ?_⟩
    simp only [eSs_cons, eS_asg, eE_call, eA_cons, eA_nil, eE_v, v3, v2, v6, Res.bind_ok', h6, runCall_ok, Res.out_ok, asg_n, ofO_some, List.set_cons_succ, List.set_cons_zero, Out.seq_nx, er, eS_ite, eE_not, truth_lst, ne, Bool.not_false, Bool.not_true, truth_bl, Bool.false_eq_true, if_false, eSs_nil, eE_blt, mn, eS_app, gl, eE_chk, lfo, if_true, pu]
  · intro h
    rw [h] at er
    exact ⟨_, by
      simp only [eSs_cons, eS_asg, eE_call, eA_cons, eA_nil, eE_v, v3, v2, v6, Res.bind_ok', h6, runCall_ok, Res.out_ok, asg_n, ofO_some, List.set_cons_succ, List.set_cons_zero, Out.seq_nx, er, eS_ite, eE_not, truth_lst, List.map_nil, List.isEmpty_nil, Bool.not_false, Bool.not_true, truth_bl, if_true, eS_ret, eE_c, Out.seq_rt]; rfl⟩
theorem wh_step {c : Ev.Env → Res (PV × Ev.Env)} {f : Ev.Env → Out} {m : Nat} {env env1 : Ev.Env} (hc : c env = .ok (.bl true, env)) (hf : f env = .nx env1) : whileGo c f (m + 1) env = whileGo c f m env1 := by
  show (c env).out (fun r => (ofO (truth r.1)).out fun t => if t = true then match f r.2 with
    | .nx e => whileGo c f m e
    | .ct e => whileGo c f m e
    | .bk e => .nx e
    | o => o else .nx r.2) = _
  simp only [hc, Res.out_ok, truth_bl, ofO_some, if_true, hf]
theorem wh_ret {c : Ev.Env → Res (PV × Ev.Env)} {f : Ev.Env → Out} {m : Nat} {env env1 : Ev.Env} {v : PV} (hc : c env = .ok (.bl true, env)) (hf : f env = .rt v env1) : whileGo c f (m + 1) env = .rt v env1 := by
  show (c env).out (fun r => (ofO (truth r.1)).out fun t => if t = true then match f r.2 with
    | .nx e => whileGo c f m e
    | .ct e => whileGo c f m e
    | .bk e => .nx e
    | o => o else .nx r.2) = _
  simp only [hc, Res.out_ok, truth_bl, ofO_some, if_true, hf]
theorem wh_stop {c : Ev.Env → Res (PV × Ev.Env)} {f : Ev.Env → Out} {m : Nat} {env : Ev.Env} (hc : c env = .ok (.bl false, env)) : whileGo c f (m + 1) env = .nx env := by
  show (c env).out (fun r => (ofO (truth r.1)).out fun t => if t = true then match f r.2 with
    | .nx e => whileGo c f m e
    | .ct e => whileGo c f m e
    | .bk e => .nx e
    | o => o else .nx r.2) = _
  simp only [hc, Res.out_ok, truth_bl, ofO_some, Bool.false_eq_true, if_false]
/-- the rows so far -/
def rowsV (q : Nat → List Int) (j : Nat) : List PV := (List.range (j + 1)).map fun i => keyV (q i)
theorem rows_succ (q : Nat → List Int) (j : Nat) : rowsV q (j + 1) = rowsV q j ++ [keyV (q (j + 1))] := by
  unfold rowsV
  rw [List.range_succ, List.map_append]
  rfl
theorem rows_len (q : Nat → List Int) (j : Nat) : (rowsV q j).length = j + 1 := by simp [rowsV]
theorem wb_while {C : Calls} {p : Nat} {d s : Int} {g : List Int} {f : PV} (hp : p ≤ 100) (hd : d ≤ 10) (hg : keyOk p d s g)
    (h5 : ∀ k : List Int, k.length = p → C 5 [sysV p d s, keyV k] = .ok (.lst ((nbs p d s k p).map keyV)) .undef)
    (h6 : ∀ o : List Int, o.length = p → C 6 [keyV o, keyV g] = .ok (.int (far o g)) .undef) {D : Nat} {q : Nat → List Int} (hD : D ≤ 900)
    (q1 : ∀ j, j ≤ D → keyOk p d s (q j) ∧ far (q j) g = ((D - j : Nat) : Int)) (q2 : ∀ j, j < D → IsNext p d s g (q j) (q (j + 1))) :
    ∀ (m j F : Nat) (x5 x6 : PV), j + m = D → m < F → ∃ y5 y6, whileGo (fun en => evalE C (.cmp .NotEq (.v 3) (.v 2)) en) (fun en => evalSs C W wbBody en) F [sysV p d s, f, keyV g, keyV (q j), .lst (rowsV q j), x5, x6, .undef] = .nx [sysV p d s, f, keyV g, keyV g, .lst (rowsV q D), y5, y6, .undef]
  | 0, j, F, x5, x6, hj, hF => by
    obtain ⟨F, rfl⟩ : ∃ F', F = F' + 1 := ⟨F - 1, by omega⟩
    have ej : j = D := by omega
    subst ej
    obtain ⟨ok, fa⟩ := q1 j (Nat.le_refl _)
    rw [Nat.sub_self] at fa
    have eg : q j = g := (far_eq (by rw [ok.1, hg.1])).mp fa
    rw [eg]
    have nk := ne_keys hg.2.1 hg.2.1 hd
    rw [decide_eq_true rfl] at nk
    refine ⟨x5, x6, wh_stop ?_⟩
    have v2 : Ev.get [sysV p d s, f, keyV g, keyV g, .lst (rowsV q j), x5, x6, .undef] 2 = .ok (keyV g, [sysV p d s, f, keyV g, keyV g, .lst (rowsV q j), x5, x6, .undef]) := rfl
    have v3 : Ev.get [sysV p d s, f, keyV g, keyV g, .lst (rowsV q j), x5, x6, .undef] 3 = .ok (keyV g, [sysV p d s, f, keyV g, keyV g, .lst (rowsV q j), x5, x6, .undef]) := rfl
    show evalE C (.cmp .NotEq (.v 3) (.v 2)) _ = _
    simp only [eE_cmp, eE_v, v2, v3, Res.bind_ok', nk, ofO_some, Bool.not_true]
  | m + 1, j, F, x5, x6, hj, hF => by
    obtain ⟨F, rfl⟩ : ∃ F', F = F' + 1 := ⟨F - 1, by omega⟩
    obtain ⟨ok, fa⟩ := q1 j (by omega)
    have ne : q j ≠ g := fun e => by
      rw [(far_eq (by rw [ok.1, hg.1])).mpr e] at fa
      omega
    have nk := ne_keys ok.2.1 hg.2.1 hd
    rw [decide_eq_false ne] at nk
    obtain ⟨y5, y6, e⟩ := (wb_turn (W := W) (C := C) (f := f) (x5 := x5) (x6 := x6) (R := rowsV q j) (by rw [rows_len]; omega) (h6 (q j) ok.1) fun x => e_rows ok.1 hg.1 hp (h5 _ ok.1) h6).1 _ (q2 j (by omega))
    rw [← rows_succ] at e
    obtain ⟨z5, z6, ez⟩ := wb_while (f := f) hp hd hg h5 h6 hD q1 q2 m (j + 1) F y5 y6 (by omega) (by omega)
    refine ⟨z5, z6, ?_⟩
    rw [wh_step (env1 := [sysV p d s, f, keyV g, keyV (q (j + 1)), .lst (rowsV q (j + 1)), y5, y6, .undef]) ?_ e, ez]
    have v2 : Ev.get [sysV p d s, f, keyV g, keyV (q j), .lst (rowsV q j), x5, x6, .undef] 2 = .ok (keyV g, [sysV p d s, f, keyV g, keyV (q j), .lst (rowsV q j), x5, x6, .undef]) := rfl
    have v3 : Ev.get [sysV p d s, f, keyV g, keyV (q j), .lst (rowsV q j), x5, x6, .undef] 3 = .ok (keyV (q j), [sysV p d s, f, keyV g, keyV (q j), .lst (rowsV q j), x5, x6, .undef]) := rfl
    show evalE C (.cmp .NotEq (.v 3) (.v 2)) _ = _
    simp only [eE_cmp, eE_v, v2, v3, Res.bind_ok', nk, ofO_some, Bool.not_false]
theorem wb_body {C : Calls} {WH : S} {sy k g : PV} {lk : PV.lf k = true} (c1 : C 3 [sy, k] = .ok .non .undef) (c2 : C 3 [sy, g] = .ok .non .undef) (gs : sy ≠ .undef) (gk : k ≠ .undef) (gg : g ≠ .undef) {o : Out} (e1 : evalS C W WH [sy, k, g, k, .lst [k], .undef, .undef, .undef] = o) :
    evalSs C W (.cons (.ex (.call 3 (.cons (.v 0) (.cons (.v 1) .nil)))) (.cons (.ex (.call 3 (.cons (.v 0) (.cons (.v 2) .nil)))) (.cons (.asg (.n 3) (.v 1)) (.cons (.masg 4 (.lst (.cons (.chk (.v 1)) .nil))) (.cons WH (.cons (.ret (.chk (.blt .tuple (.cons (.m 4) .nil)))) .nil)))))) [sy, k, g, .undef, .undef, .undef, .undef, .undef] =
      o.seq fun en => evalSs C W (.cons (.ret (.chk (.blt .tuple (.cons (.m 4) .nil)))) .nil) en := by
  have gt : ∀ {x : PV} {env : Ev.Env} {i : Nat}, x ≠ .undef → env.getD i .undef = x → Ev.get env i = .ok (x, env) := by
    intro x env i hx he
    unfold Ev.get
    rw [he]
    cases x <;> first | rfl | exact absurd rfl hx
  have v0 : ∀ a b c e f : PV, Ev.get [sy, k, g, a, b, c, e, f] 0 = .ok (sy, [sy, k, g, a, b, c, e, f]) := fun _ _ _ _ _ => gt gs rfl
  have v1 : ∀ a b c e f : PV, Ev.get [sy, k, g, a, b, c, e, f] 1 = .ok (k, [sy, k, g, a, b, c, e, f]) := fun _ _ _ _ _ => gt gk rfl
  have v2 : ∀ a b c e f : PV, Ev.get [sy, k, g, a, b, c, e, f] 2 = .ok (g, [sy, k, g, a, b, c, e, f]) := fun _ _ _ _ _ => gt gg rfl
  have s1 : evalSs C W (.cons (.ex (.call 3 (.cons (.v 0) (.cons (.v 1) .nil)))) (.cons (.ex (.call 3 (.cons (.v 0) (.cons (.v 2) .nil)))) (.cons (.asg (.n 3) (.v 1)) (.cons (.masg 4 (.lst (.cons (.chk (.v 1)) .nil))) (.cons WH (.cons (.ret (.chk (.blt .tuple (.cons (.m 4) .nil)))) .nil)))))) [sy, k, g, .undef, .undef, .undef, .undef, .undef] =
      (evalS C W WH [sy, k, g, k, .lst [k], .undef, .undef, .undef]).seq fun en => evalSs C W (.cons (.ret (.chk (.blt .tuple (.cons (.m 4) .nil)))) .nil) en := by
    generalize S.ret (.chk (.blt .tuple (.cons (.m 4) .nil))) = RT
    simp only [eSs_cons, eS_ex, eE_call, eA_cons, eA_nil, eE_v, v0, v1, v2, Res.bind_ok', c1, c2, runCall_ok, Res.out_ok, Out.seq_nx, eS_asg, asg_n, ofO_some, List.set_cons_succ, List.set_cons_zero, eS_masg, eE_lst, eE_chk, lk, if_true]
  rw [s1, e1]
theorem lfs_keys (l : List (List Int)) : PV.lfs (l.map keyV) = true := by
  induction l with
  | nil => rfl
  | cons x l ih => simp [PV.lfs, lf_key, ih]
theorem lfs_rows (q : Nat → List Int) (j : Nat) : PV.lfs (rowsV q j) = true := by
  have := lfs_keys ((List.range (j + 1)).map q)
  rw [List.map_map] at this
  exact this
theorem c_way {p : Nat} {d s : Int} {k g : List Int} (h : sysOk p d s) (hk : keyOk p d s k) (hg : keyOk p d s g) {D : Nat} {q : Nat → List Int} (hD : D ≤ 900) (q0 : q 0 = k)
    (q1 : ∀ j, j ≤ D → keyOk p d s (q j) ∧ far (q j) g = ((D - j : Nat) : Int)) (q2 : ∀ j, j < D → IsNext p d s g (q j) (q (j + 1))) (hW : D < W) : callN W P (n + 4) 4 [sysV p d s, keyV k, keyV g] = .ok (.tup (rowsV q D)) .undef := by
  have hp : p ≤ 100 := by have := h.2.1; omega
  rw [callN_succ (d := d_way_between) rfl rfl]
  obtain ⟨y5, y6, e⟩ := wb_while (W := W) (C := callN W P (n + 3)) (f := keyV k) hp h.2.2.2.1 hg (fun o ho => c_neighbours ho h.1 hp) (fun o ho => c_distance (n := n + 2) o g (by omega)) hD q1 q2 D 0 W .undef .undef (by omega) hW
  rw [q0, show rowsV q 0 = [keyV k] by unfold rowsV; rw [← q0]; rfl] at e
  have ew : evalS (callN W P (n + 3)) W (.whl (.cmp .NotEq (.v 3) (.v 2)) wbBody) [sysV p d s, keyV k, keyV g, keyV k, .lst [keyV k], .undef, .undef, .undef] = .nx [sysV p d s, keyV k, keyV g, keyV g, .lst (rowsV q D), y5, y6, .undef] := e
  have eb := wb_body (W := W) (lk := lf_key k) (c_check_key (W := W) (n := n) h hk) (c_check_key (W := W) (n := n) h hg) (fun e => by unfold sysV at e; cases e) (fun e => by unfold keyV at e; cases e) (fun e => by unfold keyV at e; cases e) ew
  have v4 : Ev.get [sysV p d s, keyV k, keyV g, keyV g, .lst (rowsV q D), y5, y6, .undef] 4 = .ok (.lst (rowsV q D), [sysV p d s, keyV k, keyV g, keyV g, .lst (rowsV q D), y5, y6, .undef]) := rfl
  have lr : PV.lf (.tup (rowsV q D)) = true := lfs_rows q D
  have er : evalSs (callN W P (n + 3)) W (.cons (.ret (.chk (.blt .tuple (.cons (.m 4) .nil)))) .nil) [sysV p d s, keyV k, keyV g, keyV g, .lst (rowsV q D), y5, y6, .undef] = .rt (.tup (rowsV q D)) [sysV p d s, keyV k, keyV g, keyV g, .lst (rowsV q D), y5, y6, .undef] := by
    simp only [eSs_cons, eS_ret, eE_chk, eE_blt, eA_cons, eA_nil, eE_m, v4, Res.bind_ok', blt_tup_lst, ofO_some, lr, if_true, Res.out_ok, Out.seq_rt]
  rw [Out.seq_nx, er] at eb
  exact (congrArg (Ev.finish d_way_between) eb).trans (fin_no rfl)
theorem c_way_no {p : Nat} {d : Int} {k g : List Int} (h : sysOk p d 0) (hk : keyOk p d 0 k) (hg : keyOk p d 0 g) (h2 : 2 ≤ p) (ne : k ≠ g) (hW : 0 < W) : callN W P (n + 4) 4 [sysV p d 0, keyV k, keyV g] = .ok .non .undef := by
  have hp : p ≤ 100 := by have := h.2.1; omega
  rw [callN_succ (d := d_way_between) rfl rfl]
  obtain ⟨en, e⟩ := (wb_turn (W := W) (C := callN W P (n + 3)) (p := p) (d := d) (s := 0) (k := k) (g := g) (f := keyV k) (x5 := .undef) (x6 := .undef) (R := [keyV k]) (by simp) (c_distance (n := n + 2) k g (by rw [hk.1]; omega))
    fun x => e_rows hk.1 hg.1 hp (c_neighbours hk.1 h.1 hp) (fun o ho => c_distance (n := n + 2) o g (by omega))).2 (foll_no hk h2)
  have nk := ne_keys hk.2.1 hg.2.1 h.2.2.2.1
  rw [decide_eq_false ne] at nk
  have ew : evalS (callN W P (n + 3)) W (.whl (.cmp .NotEq (.v 3) (.v 2)) wbBody) [sysV p d 0, keyV k, keyV g, keyV k, .lst [keyV k], .undef, .undef, .undef] = .rt .non en := by
    obtain ⟨F, rfl⟩ : ∃ F', W = F' + 1 := ⟨W - 1, by omega⟩
    rw [eS_whl]
    refine wh_ret ?_ e
    have v2 : Ev.get [sysV p d 0, keyV k, keyV g, keyV k, .lst [keyV k], .undef, .undef, .undef] 2 = .ok (keyV g, [sysV p d 0, keyV k, keyV g, keyV k, .lst [keyV k], .undef, .undef, .undef]) := rfl
    have v3 : Ev.get [sysV p d 0, keyV k, keyV g, keyV k, .lst [keyV k], .undef, .undef, .undef] 3 = .ok (keyV k, [sysV p d 0, keyV k, keyV g, keyV k, .lst [keyV k], .undef, .undef, .undef]) := rfl
    simp only [eE_cmp, eE_v, v2, v3, Res.bind_ok', nk, ofO_some, Bool.not_false]
  have eb := wb_body (W := W) (lk := lf_key k) (c_check_key (W := W) (n := n) h hk) (c_check_key (W := W) (n := n) h hg) (fun e => by unfold sysV at e; cases e) (fun e => by unfold keyV at e; cases e) (fun e => by unfold keyV at e; cases e) ew
  rw [Out.seq_rt] at eb
  exact (congrArg (Ev.finish d_way_between) eb).trans (fin_no rfl)
/-! ### the law -/
theorem c_same {r : PV} {dp w : Nat} (h : Sm r dp w) (hs : ∀ x, r ≠ .str x) (hd : dp ≤ 60) (hw : w ≤ 1048576) (hn : r ≠ .undef) : callN W P (n + 1) 10 [r, r] = .ok (.bl true) .undef := by
  rw [callN_succ (d := d_law_same) rfl rfl]
  have g0 : Ev.get [r, r] 0 = .ok (r, [r, r]) := by
    unfold Ev.get
    show (match r with | .undef => _ | x => _) = _
    cases r <;> first | rfl | exact absurd rfl hn
  have g1 : Ev.get [r, r] 1 = .ok (r, [r, r]) := by
    unfold Ev.get
    show (match r with | .undef => _ | x => _) = _
    cases r <;> first | rfl | exact absurd rfl hn
  have c := cmp_eq_self h hs (by omega)
  have rp := repr_ok h hd hw
  have e : evalSs (callN W P n) W d_law_same.body (Ev.start d_law_same [r, r]) = .rt (.bl true) [r, r] := by
    show evalSs (callN W P n) W b_law_same [r, r] = _
    unfold b_law_same
    simp only [eSs_cons, eS_ret, eE_and, eE_cmp, eE_v, g0, g1, Res.bind_ok', c, ofO_some, truth_bl, if_true, eE_blt, eA_cons, eA_nil, rp, cmp_eq_str, decide_true, Res.out_ok, Out.seq_rt]
  exact (congrArg (Ev.finish d_law_same) e).trans (fin_no rfl)
theorem sm_rows {p : Nat} {d s : Int} {g : List Int} {q : Nat → List Int} {D : Nat} (h : sysOk p d s) (q1 : ∀ j, j ≤ D → keyOk p d s (q j) ∧ far (q j) g = ((D - j : Nat) : Int)) : Sm (.tup (rowsV q D)) 2 ((D + 1) * 51 + 1) := by
  have := Sm.tup (l := rowsV q D) (dp := 1) (w := 50) fun x hx => by
    unfold rowsV at hx
    obtain ⟨j, hj, rfl⟩ := List.mem_map.mp hx
    have hj' : j < D + 1 := by simpa using hj
    have k := (q1 j (by omega)).1
    refine (sm_key k.2.1 h.2.2.2.1).mono (Nat.le_refl _) ?_
    have := h.2.1
    rw [k.1]
    omega
  rw [rows_len] at this
  exact this
theorem ix_end {l : List PV} {x : PV} : index (.lst (l ++ [x])) (.int (-1)) = some x := by
  show atI (l ++ [x]) (-1) = _
  unfold atI Ev.ixN
  rw [if_neg (by omega), if_pos (by rw [List.length_append]; simp only [List.length_cons, List.length_nil]; omega)]
  have e : ((-1 : Int) + ((l ++ [x]).length : Nat)).toNat = l.length := by rw [List.length_append]; simp only [List.length_cons, List.length_nil]; omega
  rw [e]
  simp
theorem rows_last (q : Nat → List Int) (j : Nat) : index (.lst (rowsV q j)) (.int (-1)) = some (keyV (q j)) := by
  unfold rowsV
  rw [List.range_succ, List.map_append]
  exact ix_end
theorem least_next {p : Nat} {d s : Int} {g k o : List Int} (h : IsNext p d s g k o) : leastV (foll p d s k g p) = keyV o := by
  unfold leastV
  rw [h.2]
  rfl
def dueB : Ss := (.cons (.app 5 (.chk (.call 15 (.cons (.v 3) (.cons (.idx (.m 5) (.neg (.c (.int 1)))) (.cons (.v 8) .nil)))))) .nil)
theorem due_loop {C : Calls} {p : Nat} {d s : Int} {g k : List Int} {D : Nat} {q : Nat → List Int} {x0 x1 x2 x4 x6 : PV} (hD : D ≤ 900) (q0 : q 0 = k)
    (q1 : ∀ j, j ≤ D → keyOk p d s (q j) ∧ far (q j) g = ((D - j : Nat) : Int)) (q2 : ∀ j, j < D → IsNext p d s g (q j) (q (j + 1)))
    (h13 : C 13 [keyV k, keyV g] = .ok (.int (D : Int)) .undef) (h15 : ∀ o : List Int, o.length = p → C 15 [sysV p d s, keyV o, keyV g] = .ok (leastV (foll p d s o g p)) .undef) :
    ∃ y6, evalS C W (.for (.n 6) (.rng (.cons (.call 13 (.cons (.v 7) (.cons (.v 8) .nil))) .nil)) dueB) [x0, x1, x2, sysV p d s, x4, .lst [keyV k], x6, keyV k, keyV g, .undef] = .nx [x0, x1, x2, sysV p d s, x4, .lst (rowsV q D), y6, keyV k, keyV g, .undef] := by
  have g7 : ∀ a b : PV, Ev.get [x0, x1, x2, sysV p d s, x4, a, b, keyV k, keyV g, .undef] 7 = .ok (keyV k, [x0, x1, x2, sysV p d s, x4, a, b, keyV k, keyV g, .undef]) := fun _ _ => rfl
  have g8 : ∀ a b : PV, Ev.get [x0, x1, x2, sysV p d s, x4, a, b, keyV k, keyV g, .undef] 8 = .ok (keyV g, [x0, x1, x2, sysV p d s, x4, a, b, keyV k, keyV g, .undef]) := fun _ _ => rfl
  have g3 : ∀ a b : PV, Ev.get [x0, x1, x2, sysV p d s, x4, a, b, keyV k, keyV g, .undef] 3 = .ok (sysV p d s, [x0, x1, x2, sysV p d s, x4, a, b, keyV k, keyV g, .undef]) := fun _ _ => rfl
  have g5 : ∀ (l : List PV) (b : PV), Ev.get [x0, x1, x2, sysV p d s, x4, .lst l, b, keyV k, keyV g, .undef] 5 = .ok (.lst l, [x0, x1, x2, sysV p d s, x4, .lst l, b, keyV k, keyV g, .undef]) := fun _ _ => rfl
  have gl : ∀ (l : List PV) (b : PV), getL [x0, x1, x2, sysV p d s, x4, .lst l, b, keyV k, keyV g, .undef] 5 = .ok (l, [x0, x1, x2, sysV p d s, x4, .lst l, b, keyV k, keyV g, .undef]) := fun _ _ => rfl
  have r : ranges [.int (D : Int)] = some (rng 0 D) := by
    rw [ranges1 (by omega) (by omega)]; rfl
  have ha : evalE C (.call 13 (.cons (.v 7) (.cons (.v 8) .nil))) [x0, x1, x2, sysV p d s, x4, .lst [keyV k], x6, keyV k, keyV g, .undef] = .ok (.int (D : Int), [x0, x1, x2, sysV p d s, x4, .lst [keyV k], x6, keyV k, keyV g, .undef]) := by
    simp only [eE_call, eA_cons, eA_nil, eE_v, g7, g8, Res.bind_ok', h13, runCall_ok]
  obtain ⟨en, e1, y6, rfl⟩ := for_inv (C := C) (W := W) (t := .n 6) (b := dueB) (eI_rng1 ha r)
    (fun j en => ∃ x6, en = [x0, x1, x2, sysV p d s, x4, .lst (rowsV q j), x6, keyV k, keyV g, .undef]) ⟨x6, by unfold rowsV; rw [← q0]; rfl⟩
    (fun j x en hx hI => by
      obtain ⟨x6, rfl⟩ := hI
      have hj : j < D := by
        rcases Nat.lt_or_ge j D with h | h
        · exact h
        · rw [List.getElem?_eq_none (by rw [rng_len]; exact h)] at hx; cases hx
      have c15 := h15 (q j) (q1 j (by omega)).1.1
      rw [least_next (q2 j hj)] at c15
      have lf := lf_key (q (j + 1))
      have rl := rows_last q j
      have pu : pushP (keyV (q (j + 1))) (rowsV q j) = some (.lst (rowsV q (j + 1))) := by
        unfold pushP
        rw [if_pos (by rw [sizeLine_eq, rows_len]; omega), rows_succ]
      refine ⟨[x0, x1, x2, sysV p d s, x4, .lst (rowsV q j), x, keyV k, keyV g, .undef], [x0, x1, x2, sysV p d s, x4, .lst (rowsV q (j + 1)), x, keyV k, keyV g, .undef], rfl, .inl ?_, x, rfl⟩
      unfold dueB
      generalize rowsV q (j + 1) = R1 at *
      generalize rowsV q j = R0 at *
      simp only [eSs_cons, eS_app, gl, Res.out_ok, eE_chk, eE_call, eA_cons, eA_nil, eE_v, g3, eE_idx, eE_m, g5, eE_neg, eE_c, Res.bind_ok', rl, ofO_some, g8, c15, runCall_ok, lf, if_true, pu, List.set_cons_succ, List.set_cons_zero, Out.seq_nx, eSs_nil])
  rw [rng_len] at e1
  exact ⟨y6, e1⟩
def lS1 : S := .asg (.n 3) (.callr 11 1 .nil)
def lS2 : S := .asg (.cons (.n 7) (.cons (.n 8) .nil)) (.tup (.cons (.callr 12 1 (.cons (.v 3) .nil)) (.cons (.callr 12 1 (.cons (.v 3) .nil)) .nil)))
def lS3 : S := .ite (.cmp .Eq (.callr 8 1 (.cons (.c (.int 9)) .nil)) (.c (.int 0))) (.cons (.asg (.n 8) (.v 7)) .nil) .nil
def lS4 : S := .asg (.n 4) (.call 4 (.cons (.v 3) (.cons (.v 7) (.cons (.v 8) .nil))))
def lS5 : S := .ite (.and (.cmp .Eq (.idx (.v 3) (.c (.int 2))) (.c (.int 0))) (.and (.cmp .Gt (.idx (.v 3) (.c (.int 0))) (.c (.int 1))) (.cmp .NotEq (.v 7) (.v 8)))) (.cons (.ite (.cmp .IsNot (.v 4) (.c .non)) (.cons (.ret (.c (.bl false))) .nil) .nil) (.cons .cont .nil)) .nil
def lS6 : S := .masg 5 (.lst (.cons (.chk (.v 7)) .nil))
def lS7 : S := .for (.n 6) (.rng (.cons (.call 13 (.cons (.v 7) (.cons (.v 8) .nil))) .nil)) dueB
def lS8 : S := .ite (.or (.not (.call 10 (.cons (.v 4) (.cons (.blt .tuple (.cons (.m 5) .nil)) .nil)))) (.or (.cmp .NotEq (.idx (.m 5) (.neg (.c (.int 1)))) (.v 8)) (.comp [9] (.n 9) (.e (.v 4)) (.so (.cmp .IsNot (.call 3 (.cons (.v 3) (.cons (.v 9) .nil))) (.c .non))) (.c (.int 1))))) (.cons (.ret (.c (.bl false))) .nil) .nil
def lawB : Ss := .cons lS1 (.cons lS2 (.cons lS3 (.cons lS4 (.cons lS5 (.cons lS6 (.cons lS7 (.cons lS8 .nil)))))))
theorem st1 {C : Calls} {sc : List Int} {a a1 : Int} {i i1 : Nat} {b b1 : Int} {p : Nat} {d s : Int} {x0 x2 x3 x4 x5 x6 x7 x8 : PV} (h1 : C 11 [stV sc a i b] = .ok (sysV p d s) (stV sc a1 i1 b1)) :
    evalS C W lS1 [x0, stV sc a i b, x2, x3, x4, x5, x6, x7, x8, .undef] = .nx [x0, stV sc a1 i1 b1, x2, sysV p d s, x4, x5, x6, x7, x8, .undef] := by
  have g1 : ∀ (a : Int) (i : Nat) (b : Int) (x0 x2 x3 x4 x5 x6 x7 x8 : PV), Ev.get [x0, stV sc a i b, x2, x3, x4, x5, x6, x7, x8, .undef] 1 = .ok (stV sc a i b, [x0, stV sc a i b, x2, x3, x4, x5, x6, x7, x8, .undef]) := fun _ _ _ _ _ _ _ _ _ _ _ => rfl
  unfold lS1
  simp only [eS_asg, eE_callr, g1, Res.bind_ok', eA_nil, h1, runCallR_ok, List.set_cons_succ, List.set_cons_zero, Res.out_ok, asg_n, ofO_some]
theorem st2 {C : Calls} {sc : List Int} {a a1 a2 : Int} {i i1 i2 : Nat} {b b1 b2 : Int} {p : Nat} {d s : Int} {k g : List Int} {x0 x2 x4 x5 x6 x7 x8 : PV} (h1 : C 12 [stV sc a i b, sysV p d s] = .ok (keyV k) (stV sc a1 i1 b1)) (h2 : C 12 [stV sc a1 i1 b1, sysV p d s] = .ok (keyV g) (stV sc a2 i2 b2)) :
    evalS C W lS2 [x0, stV sc a i b, x2, sysV p d s, x4, x5, x6, x7, x8, .undef] = .nx [x0, stV sc a2 i2 b2, x2, sysV p d s, x4, x5, x6, keyV k, keyV g, .undef] := by
  have g1 : ∀ (a : Int) (i : Nat) (b : Int) (x0 x2 x3 x4 x5 x6 x7 x8 : PV), Ev.get [x0, stV sc a i b, x2, x3, x4, x5, x6, x7, x8, .undef] 1 = .ok (stV sc a i b, [x0, stV sc a i b, x2, x3, x4, x5, x6, x7, x8, .undef]) := fun _ _ _ _ _ _ _ _ _ _ _ => rfl
  have g3 : ∀ (x0 x1 x2 x4 x5 x6 x7 x8 : PV), Ev.get [x0, x1, x2, sysV p d s, x4, x5, x6, x7, x8, .undef] 3 = .ok (sysV p d s, [x0, x1, x2, sysV p d s, x4, x5, x6, x7, x8, .undef]) := fun _ _ _ _ _ _ _ _ => rfl
  unfold lS2
  simp only [eS_asg, eE_tup, eE_callr, g1, g3, Res.bind_ok', eA_nil, eA_cons, eE_v, h1, h2, runCallR_ok, List.set_cons_succ, List.set_cons_zero, Res.out_ok, asg_cons, asg_nil, Option.bind_some, asg_n, ofO_some]
theorem st3 {C : Calls} {sc : List Int} {a a1 : Int} {i i1 : Nat} {b b1 r : Int} {k g : List Int} {x0 x2 x3 x4 x5 x6 : PV} (h1 : C 8 [stV sc a i b, .int 9] = .ok (.int r) (stV sc a1 i1 b1)) :
    evalS C W lS3 [x0, stV sc a i b, x2, x3, x4, x5, x6, keyV k, keyV g, .undef] = .nx [x0, stV sc a1 i1 b1, x2, x3, x4, x5, x6, keyV k, keyV (if r = 0 then k else g), .undef] := by
  have g1 : ∀ (a : Int) (i : Nat) (b : Int) (x0 x2 x3 x4 x5 x6 x7 x8 : PV), Ev.get [x0, stV sc a i b, x2, x3, x4, x5, x6, x7, x8, .undef] 1 = .ok (stV sc a i b, [x0, stV sc a i b, x2, x3, x4, x5, x6, x7, x8, .undef]) := fun _ _ _ _ _ _ _ _ _ _ _ => rfl
  have g7 : ∀ (x0 x1 x2 x3 x4 x5 x6 x8 : PV), Ev.get [x0, x1, x2, x3, x4, x5, x6, keyV k, x8, .undef] 7 = .ok (keyV k, [x0, x1, x2, x3, x4, x5, x6, keyV k, x8, .undef]) := fun _ _ _ _ _ _ _ _ => rfl
  unfold lS3
  simp only [eS_ite, eE_cmp, eE_callr, g1, Res.bind_ok', eA_nil, eA_cons, eE_c, h1, runCallR_ok, List.set_cons_succ, List.set_cons_zero, cmp_eqi, ofO_some, Res.out_ok, truth_bl]
  by_cases h : r = 0
  · rw [if_pos (by simpa using h), if_pos h]
    simp only [eSs_cons, eS_asg, eE_v, g7, Res.out_ok, asg_n, ofO_some, List.set_cons_succ, List.set_cons_zero, Out.seq_nx, eSs_nil]
  · rw [if_neg (by simpa using h), if_neg h]
    rfl
theorem st4 {C : Calls} {p : Nat} {d s : Int} {k g : List Int} {R x0 x1 x2 x4 x5 x6 : PV} (h1 : C 4 [sysV p d s, keyV k, keyV g] = .ok R .undef) :
    evalS C W lS4 [x0, x1, x2, sysV p d s, x4, x5, x6, keyV k, keyV g, .undef] = .nx [x0, x1, x2, sysV p d s, R, x5, x6, keyV k, keyV g, .undef] := by
  have g3 : ∀ (x0 x1 x2 x4 x5 x6 x7 x8 : PV), Ev.get [x0, x1, x2, sysV p d s, x4, x5, x6, x7, x8, .undef] 3 = .ok (sysV p d s, [x0, x1, x2, sysV p d s, x4, x5, x6, x7, x8, .undef]) := fun _ _ _ _ _ _ _ _ => rfl
  have g7 : ∀ (x0 x1 x2 x3 x4 x5 x6 x8 : PV), Ev.get [x0, x1, x2, x3, x4, x5, x6, keyV k, x8, .undef] 7 = .ok (keyV k, [x0, x1, x2, x3, x4, x5, x6, keyV k, x8, .undef]) := fun _ _ _ _ _ _ _ _ => rfl
  have g8 : ∀ (x0 x1 x2 x3 x4 x5 x6 x7 : PV), Ev.get [x0, x1, x2, x3, x4, x5, x6, x7, keyV g, .undef] 8 = .ok (keyV g, [x0, x1, x2, x3, x4, x5, x6, x7, keyV g, .undef]) := fun _ _ _ _ _ _ _ _ => rfl
  unfold lS4
  simp only [eS_asg, eE_call, eA_cons, eA_nil, eE_v, g3, g7, g8, Res.bind_ok', h1, runCall_ok, Res.out_ok, asg_n, ofO_some, List.set_cons_succ, List.set_cons_zero]
theorem st5 {C : Calls} {p : Nat} {d s : Int} {k g : List Int} {R x0 x1 x2 x5 x6 : PV} (hd : d ≤ 10) (hk : inR d k = true) (hg : inR d g = true) :
    (s = 0 ∧ 1 < p ∧ k ≠ g → R = .non → evalS C W lS5 [x0, x1, x2, sysV p d s, R, x5, x6, keyV k, keyV g, .undef] = .ct [x0, x1, x2, sysV p d s, R, x5, x6, keyV k, keyV g, .undef]) ∧
    (¬ (s = 0 ∧ 1 < p ∧ k ≠ g) → evalS C W lS5 [x0, x1, x2, sysV p d s, R, x5, x6, keyV k, keyV g, .undef] = .nx [x0, x1, x2, sysV p d s, R, x5, x6, keyV k, keyV g, .undef]) := by
  have g3 : ∀ (x0 x1 x2 x4 x5 x6 x7 x8 : PV), Ev.get [x0, x1, x2, sysV p d s, x4, x5, x6, x7, x8, .undef] 3 = .ok (sysV p d s, [x0, x1, x2, sysV p d s, x4, x5, x6, x7, x8, .undef]) := fun _ _ _ _ _ _ _ _ => rfl
  have g7 : ∀ (x0 x1 x2 x3 x4 x5 x6 x8 : PV), Ev.get [x0, x1, x2, x3, x4, x5, x6, keyV k, x8, .undef] 7 = .ok (keyV k, [x0, x1, x2, x3, x4, x5, x6, keyV k, x8, .undef]) := fun _ _ _ _ _ _ _ _ => rfl
  have g8 : ∀ (x0 x1 x2 x3 x4 x5 x6 x7 : PV), Ev.get [x0, x1, x2, x3, x4, x5, x6, x7, keyV g, .undef] 8 = .ok (keyV g, [x0, x1, x2, x3, x4, x5, x6, x7, keyV g, .undef]) := fun _ _ _ _ _ _ _ _ => rfl
  have i0 : index (sysV p d s) (.int 0) = some (.int (p : Int)) := rfl
  have i2 : index (sysV p d s) (.int 2) = some (.int s) := rfl
  have nk := ne_keys hk hg hd
  have key : evalE C (.and (.cmp .Eq (.idx (.v 3) (.c (.int 2))) (.c (.int 0))) (.and (.cmp .Gt (.idx (.v 3) (.c (.int 0))) (.c (.int 1))) (.cmp .NotEq (.v 7) (.v 8)))) [x0, x1, x2, sysV p d s, R, x5, x6, keyV k, keyV g, .undef] = .ok (.bl (decide (s = 0) && (decide (1 < (p : Int)) && !decide (k = g))), [x0, x1, x2, sysV p d s, R, x5, x6, keyV k, keyV g, .undef]) := by
    simp only [eE_and, eE_cmp, eE_idx, eE_v, eE_c, g3, g7, g8, i0, i2, Res.bind_ok', ofO_some, cmp_eqi, cmp_gti, nk, truth_bl]
    by_cases h1 : s = 0
    · rw [decide_eq_true h1]
      by_cases h2 : 1 < (p : Int)
      · rw [decide_eq_true h2]; rfl
      · rw [decide_eq_false h2]; rfl
    · rw [decide_eq_false h1]; rfl
  constructor
  · rintro ⟨h1, h2, h3⟩ rfl
    have e : (decide (s = 0) && (decide (1 < (p : Int)) && !decide (k = g))) = true := by
      rw [decide_eq_true h1, decide_eq_true (by omega : 1 < (p : Int)), decide_eq_false h3]; rfl
    rw [e] at key
    unfold lS5
    rw [eS_ite, key]
    rfl
  · intro h
    have e : (decide (s = 0) && (decide (1 < (p : Int)) && !decide (k = g))) = false := by
      cases e : (decide (s = 0) && (decide (1 < (p : Int)) && !decide (k = g))) with
      | false => rfl
      | true =>
        simp only [Bool.and_eq_true, decide_eq_true_eq, Bool.not_eq_true', decide_eq_false_iff_not] at e
        exact absurd ⟨e.1, by omega, e.2.2⟩ h
    rw [e] at key
    unfold lS5
    rw [eS_ite, key]
    rfl
theorem st6 {C : Calls} {k : List Int} {x0 x1 x2 x3 x4 x5 x6 x8 : PV} :
    evalS C W lS6 [x0, x1, x2, x3, x4, x5, x6, keyV k, x8, .undef] = .nx [x0, x1, x2, x3, x4, .lst [keyV k], x6, keyV k, x8, .undef] := by
  have g7 : ∀ (x0 x1 x2 x3 x4 x5 x6 x8 : PV), Ev.get [x0, x1, x2, x3, x4, x5, x6, keyV k, x8, .undef] 7 = .ok (keyV k, [x0, x1, x2, x3, x4, x5, x6, keyV k, x8, .undef]) := fun _ _ _ _ _ _ _ _ => rfl
  have lf := lf_key k
  unfold lS6
  simp only [eS_masg, eE_lst, eA_cons, eA_nil, eE_chk, eE_v, g7, Res.bind_ok', lf, if_true, Res.out_ok, List.set_cons_succ, List.set_cons_zero]
theorem st8 {C : Calls} {p : Nat} {d s : Int} {g : List Int} {D : Nat} {q : Nat → List Int} {x0 x1 x2 x6 x7 : PV} (hd : d ≤ 10) (hD : D ≤ 900) (hg : inR d g = true) (qD : q D = g)
    (h10 : C 10 [.tup (rowsV q D), .tup (rowsV q D)] = .ok (.bl true) .undef) (h3 : ∀ j, j ≤ D → C 3 [sysV p d s, keyV (q j)] = .ok .non .undef) :
    evalS C W lS8 [x0, x1, x2, sysV p d s, .tup (rowsV q D), .lst (rowsV q D), x6, x7, keyV g, .undef] = .nx [x0, x1, x2, sysV p d s, .tup (rowsV q D), .lst (rowsV q D), x6, x7, keyV g, .undef] := by
  have nk := ne_keys hg hg hd
  rw [decide_eq_true rfl] at nk
  have rl := rows_last q D
  rw [qD] at rl
  have cm : evalE C (.comp [9] (.n 9) (.e (.v 4)) (.so (.cmp .IsNot (.call 3 (.cons (.v 3) (.cons (.v 9) .nil))) (.c .non))) (.c (.int 1))) [x0, x1, x2, sysV p d s, .tup (rowsV q D), .lst (rowsV q D), x6, x7, keyV g, .undef] = .ok (.lst [], [x0, x1, x2, sysV p d s, .tup (rowsV q D), .lst (rowsV q D), x6, x7, keyV g, .undef]) := by
    have e := comp_filter (C := C) (own := [9]) (tg := .n 9) (it := .e (.v 4)) (c := .cmp .IsNot (.call 3 (.cons (.v 3) (.cons (.v 9) .nil))) (.c .non)) (e := .c (.int 1)) (env := [x0, x1, x2, sysV p d s, .tup (rowsV q D), .lst (rowsV q D), x6, x7, keyV g, .undef])
      (l := List.range (D + 1)) (i := fun i => keyV (q i)) (g := fun _ => none) ?_ (sl_le (by simp; omega)) fun j hj => ?_
    · rw [e]
      congr 3
      induction List.range (D + 1) with
      | nil => rfl
      | cons x l ih => simp [List.filterMap_cons]
    · rfl
    · have hj' : j < D + 1 := by simpa using hj
      have h3' := h3 j (by omega)
      have g9 : Ev.get [x0, x1, x2, sysV p d s, .tup (rowsV q D), .lst (rowsV q D), x6, x7, keyV g, keyV (q j)] 9 = .ok (keyV (q j), [x0, x1, x2, sysV p d s, .tup (rowsV q D), .lst (rowsV q D), x6, x7, keyV g, keyV (q j)]) := rfl
      have g3 : Ev.get [x0, x1, x2, sysV p d s, .tup (rowsV q D), .lst (rowsV q D), x6, x7, keyV g, keyV (q j)] 3 = .ok (sysV p d s, [x0, x1, x2, sysV p d s, .tup (rowsV q D), .lst (rowsV q D), x6, x7, keyV g, keyV (q j)]) := rfl
      have isn : cmpop .IsNot .non .non = some false := rfl
      refine ⟨[x0, x1, x2, sysV p d s, .tup (rowsV q D), .lst (rowsV q D), x6, x7, keyV g, keyV (q j)], [x0, x1, x2, sysV p d s, .tup (rowsV q D), .lst (rowsV q D), x6, x7, keyV g, keyV (q j)], .bl false, false, rfl, ?_, rfl, rfl, rfl⟩
      simp only [eE_cmp, eE_call, eA_cons, eA_nil, eE_v, eE_c, g3, g9, Res.bind_ok', h3', runCall_ok, isn, ofO_some]
  unfold lS8
  generalize (E.comp [9] (.n 9) (.e (.v 4)) (.so (.cmp .IsNot (.call 3 (.cons (.v 3) (.cons (.v 9) .nil))) (.c .non))) (.c (.int 1))) = CO at *
  generalize rowsV q D = R at *
  have g4 : Ev.get [x0, x1, x2, sysV p d s, .tup R, .lst R, x6, x7, keyV g, .undef] 4 = .ok (.tup R, [x0, x1, x2, sysV p d s, .tup R, .lst R, x6, x7, keyV g, .undef]) := rfl
  have g5 : Ev.get [x0, x1, x2, sysV p d s, .tup R, .lst R, x6, x7, keyV g, .undef] 5 = .ok (.lst R, [x0, x1, x2, sysV p d s, .tup R, .lst R, x6, x7, keyV g, .undef]) := rfl
  have g8 : Ev.get [x0, x1, x2, sysV p d s, .tup R, .lst R, x6, x7, keyV g, .undef] 8 = .ok (keyV g, [x0, x1, x2, sysV p d s, .tup R, .lst R, x6, x7, keyV g, .undef]) := rfl
  simp only [eS_ite, eE_or, eE_not, eE_call, eA_cons, eA_nil, eE_v, g4, eE_blt, eE_m, g5, Res.bind_ok', blt_tup_lst, ofO_some, h10, runCall_ok, truth_bl, Bool.not_true, Bool.false_eq_true, if_false, eE_cmp, eE_idx, eE_neg, eE_c, rl, g8, nk, cm, Res.out_ok, truth_lst, List.isEmpty_nil, eSs_nil]
theorem law_turn (hW : 900 < W) (sc : List Int) (a : Int) (i : Nat) (b : Int) (x0 x2 x3 x4 x5 x6 x7 x8 : PV) :
    ∃ a' i' b' y3 y4 y5 y6 y7 y8, evalSs (callN W P (n + 4)) W lawB [x0, stV sc a i b, x2, x3, x4, x5, x6, x7, x8, .undef] = .nx [x0, stV sc a' i' b', x2, y3, y4, y5, y6, y7, y8, .undef] ∨
      evalSs (callN W P (n + 4)) W lawB [x0, stV sc a i b, x2, x3, x4, x5, x6, x7, x8, .undef] = .ct [x0, stV sc a' i' b', x2, y3, y4, y5, y6, y7, y8, .undef] := by
  obtain ⟨p, d, s, a1, i1, b1, h1, hs⟩ := c_system (W := W) (n := n + 1) sc a i b
  obtain ⟨k, a2, i2, b2, h2, hk⟩ := c_key (W := W) (n := n + 1) sc a1 i1 b1 hs
  obtain ⟨g, a3, i3, b3, h3, hg⟩ := c_key (W := W) (n := n + 1) sc a2 i2 b2 hs
  obtain ⟨r, a4, i4, b4, h4, _, _⟩ := c_draw (W := W) (n := n + 3) dr sc a3 i3 b3 9 (by omega) (by omega)
  have e1 := st1 (W := W) (x0 := x0) (x2 := x2) (x3 := x3) (x4 := x4) (x5 := x5) (x6 := x6) (x7 := x7) (x8 := x8) h1
  have e2 := st2 (W := W) (x0 := x0) (x2 := x2) (x4 := x4) (x5 := x5) (x6 := x6) (x7 := x7) (x8 := x8) h2 h3
  have e3 := st3 (W := W) (k := k) (g := g) (x0 := x0) (x2 := x2) (x3 := sysV p d s) (x4 := x4) (x5 := x5) (x6 := x6) h4
  have hg' : keyOk p d s (if r = 0 then k else g) := by
    split
    · exact hk
    · exact hg
  generalize (if r = 0 then k else g) = g' at *
  by_cases c : s = 0 ∧ 1 < p ∧ k ≠ g'
  · obtain ⟨c1, c2, c3⟩ := c
    subst c1
    have w := c_way_no (W := W) (n := n) hs hk hg' c2 c3 (by omega)
    have e4 := st4 (W := W) (x0 := x0) (x1 := stV sc a4 i4 b4) (x2 := x2) (x4 := x4) (x5 := x5) (x6 := x6) w
    have e5 := (st5 (C := callN W P (n + 4)) (W := W) (p := p) (s := 0) (R := .non) (x0 := x0) (x1 := stV sc a4 i4 b4) (x2 := x2) (x5 := x5) (x6 := x6) hs.2.2.2.1 hk.2.1 hg'.2.1).1 ⟨rfl, c2, c3⟩ rfl
    refine ⟨a4, i4, b4, sysV p d 0, .non, x5, x6, keyV k, keyV g', .inr ?_⟩
    unfold lawB
    rw [eSs_cons, e1, Out.seq_nx, eSs_cons, e2, Out.seq_nx, eSs_cons, e3, Out.seq_nx, eSs_cons, e4, Out.seq_nx, eSs_cons, e5, Out.seq_ct]
  · have fl := far_le hk.2.1 hg'.2.1 (by have := hs.2.2.1; omega)
    have fn := far_nn k g'
    have fb : far k g' ≤ 70 := by
      obtain ⟨p1, p2, d1, d2, _⟩ := hs
      rw [hk.1] at fl
      have : d * (p : Int) ≤ 10 * 7 := Int.mul_le_mul d2 (by omega) (by omega) (by omega)
      omega
    obtain ⟨q, q0, q1, q2⟩ := path hg' (far k g').toNat k hk (by omega) fun ne => by
      obtain ⟨p1, p2, d1, d2, s1, s2⟩ := hs
      rcases Int.lt_or_le s 1 with h | h
      · exact .inr (by
          rcases Nat.lt_or_ge 1 p with h' | h'
          · exact absurd ⟨by omega, h', ne⟩ c
          · omega)
      · exact .inl h
    generalize hD : (far k g').toNat = D at *
    have eD : far k g' = (D : Int) := by omega
    have w := c_way (W := W) (n := n) hs hk hg' (by omega) q0 q1 q2 (by omega)
    have e4 := st4 (W := W) (x0 := x0) (x1 := stV sc a4 i4 b4) (x2 := x2) (x4 := x4) (x5 := x5) (x6 := x6) w
    have e5 := (st5 (C := callN W P (n + 4)) (W := W) (p := p) (s := s) (R := .tup (rowsV q D)) (x0 := x0) (x1 := stV sc a4 i4 b4) (x2 := x2) (x5 := x5) (x6 := x6) hs.2.2.2.1 hk.2.1 hg'.2.1).2 c
    have e6 := st6 (W := W) (C := callN W P (n + 4)) (k := k) (x0 := x0) (x1 := stV sc a4 i4 b4) (x2 := x2) (x3 := sysV p d s) (x4 := .tup (rowsV q D)) (x5 := x5) (x6 := x6) (x8 := keyV g')
    have h13 := c_far (W := W) (n := n + 3) k g' (by rw [hk.1, hg'.1]) (by have := hk.1; have := hs.2.1; omega)
    rw [eD] at h13
    obtain ⟨y6, e7⟩ := due_loop (W := W) (C := callN W P (n + 4)) (x0 := x0) (x1 := stV sc a4 i4 b4) (x2 := x2) (x4 := .tup (rowsV q D)) (x6 := x6) (by omega) q0 q1 q2 h13 fun o ho => c_following (n := n + 2) ho hg'.1 hs.1 (by have := hs.2.1; omega)
    have qD : q D = g' := by
      obtain ⟨ok, fa⟩ := q1 D (Nat.le_refl _)
      rw [Nat.sub_self] at fa
      exact (far_eq (by rw [ok.1, hg'.1])).mp fa
    have sm := sm_rows hs q1
    have e8 := st8 (W := W) (C := callN W P (n + 4)) (p := p) (d := d) (s := s) (x0 := x0) (x1 := stV sc a4 i4 b4) (x2 := x2) (x6 := y6) (x7 := keyV k) hs.2.2.2.1 (by omega) hg'.2.1 qD
      (c_same (n := n + 3) sm (fun x e => by cases e) (by omega) (by omega) (fun e => by cases e)) fun j hj => c_check_key (n := n + 1) hs (q1 j hj).1
    refine ⟨a4, i4, b4, sysV p d s, .tup (rowsV q D), .lst (rowsV q D), y6, keyV k, keyV g', .inl ?_⟩
    unfold lawB lS7
    rw [eSs_cons, e1, Out.seq_nx, eSs_cons, e2, Out.seq_nx, eSs_cons, e3, Out.seq_nx, eSs_cons, e4, Out.seq_nx, eSs_cons, e5, Out.seq_nx, eSs_cons, e6, Out.seq_nx, eSs_cons, e7, Out.seq_nx, eSs_cons, e8, Out.seq_nx, eSs_nil]
theorem law_body {C : Calls} {FF : S} {x0 st : PV} {en : Ev.Env} (g0 : Ev.get [x0, .undef, .undef, .undef, .undef, .undef, .undef, .undef, .undef, .undef] 0 = .ok (x0, [x0, .undef, .undef, .undef, .undef, .undef, .undef, .undef, .undef, .undef])) (h7 : C 7 [x0] = .ok st .undef)
    (e1 : evalS C W FF [x0, st, .undef, .undef, .undef, .undef, .undef, .undef, .undef, .undef] = .nx en) :
    evalSs C W (.cons (.masg 1 (.call 7 (.cons (.v 0) .nil))) (.cons FF (.cons (.ret (.c (.bl true))) .nil))) [x0, .undef, .undef, .undef, .undef, .undef, .undef, .undef, .undef, .undef] = .rt (.bl true) en := by
  simp only [eSs_cons, eS_masg, eE_call, eA_cons, eA_nil, eE_v, g0, Res.bind_ok', h7, runCall_ok, Res.out_ok, List.set_cons_succ, List.set_cons_zero, Out.seq_nx, e1, eS_ret, eE_c, Out.seq_rt]
theorem st_c : P[7]? = some startD := rfl
theorem c_law (hW : 900 < W) (ns : List Int) : callN W P (n + 5) lawNo [.scr (ns.map .int)] = .ok (.bl true) .undef := by
  rw [callN_succ (d := d_law) rfl rfl]
  obtain ⟨b, hb⟩ := c_start (W := W) (n := n + 3) st_c ns
  have r : ranges [.int 12] = some (rng 0 12) := by
    rw [ranges1 (by omega) (by omega)]; rfl
  obtain ⟨en, e1, _⟩ := for_inv (C := callN W P (n + 4)) (W := W) (t := .n 2) (b := lawB) (env := [.scr (ns.map .int), stV ns 0 0 b, .undef, .undef, .undef, .undef, .undef, .undef, .undef, .undef]) (eI_rng1 (a := .c (.int 12)) rfl r)
    (fun _ en => ∃ a i b x2 x3 x4 x5 x6 x7 x8, en = [.scr (ns.map .int), stV ns a i b, x2, x3, x4, x5, x6, x7, x8, .undef]) ⟨0, 0, b, .undef, .undef, .undef, .undef, .undef, .undef, .undef, rfl⟩
    (fun j x en hx hI => by
      obtain ⟨a, i, b, x2, x3, x4, x5, x6, x7, x8, rfl⟩ := hI
      obtain ⟨a', i', b', y3, y4, y5, y6, y7, y8, e⟩ := law_turn (n := n) hW ns a i b (.scr (ns.map .int)) x x3 x4 x5 x6 x7 x8
      exact ⟨[.scr (ns.map .int), stV ns a i b, x, x3, x4, x5, x6, x7, x8, .undef], _, rfl, e, a', i', b', x, y3, y4, y5, y6, y7, y8, rfl⟩)
  exact (congrArg (Ev.finish d_law) (law_body (by rfl) hb e1)).trans (fin_no rfl)
end K03

namespace K03
open PySem PySem.Spec PyProof.Rows L2 Ev
abbrev R : PySem.W.OpenRow := PySem.W.OpenLaw.row PySem.Challenge.rw_opensjust_k03_whole_ways
abbrev hk : PySem.W.Hook := He.hookD 4 (facOf DI cs) (DI.map DefI.he)
def ob (s : PySem.W.SharedT) : He.AlD := He.obsDG 4 (facOf DI cs) (DI.map DefI.he) (HandSHeadRun.getT s)
theorem ob_eq (s : PySem.W.SharedT) : ob s = hk.obs s.abs := He.obsDG_eq (HandSHeadRun.getT_eq s)
theorem run (w : World) : HandSHeadRun.RunEq R (PySem.W.view R.prog [lawAt]) hk ob 3000 loose w := by
  intro os
  kernel_rfl
theorem chk_all : DI.all (chkD (DI.map DefI.sig) cs) = true := by decide +kernel
theorem bindL (K : PySem.W.Frag) (f : Addr) (fd : FuncData) (F : FunD K i_law.he.name i_law.he.qual i_law.he.params i_law.he.body i_law.he.scope [] [] f fd) (s : Shared) (u : Value) : BindsTo s fd ⟨[u], []⟩ [("script", u)] :=
  FunD.bindsA (ps := ["script"]) F (fun _ _ _ _ _ _ us hl => match us, hl with | [_], _ => rfl) s [u] rfl
end K03
open PySem PySem.W PySem.Calls PyProof.Rows
theorem K03.holds (Wf : Nat) (hC : ∀ ns : List Int, ns.length ≤ 63 → (∀ z ∈ ns, Builtin.Int.intBits z ≤ 1048576) → ∃ b, Ev.callN Wf (K03.DI.map Ev.DefI.d) 40 K03.lawNo [.scr (ns.map Ev.PV.int)] = .ok (.bl true) b) : PySem.Challenge.rw_opensjust_k03_whole_ways.Holds := by
  w_on; o_law
  refine HandSHeadRun.head_any (r := OpenLaw.row PySem.Challenge.rw_opensjust_k03_whole_ways) (q := view (OpenLaw.row PySem.Challenge.rw_opensjust_k03_whole_ways).prog [K03.lawAt]) (H := K03.hk) (ob := K03.ob) (M := 3000) (loose := K03.loose) (d := HandSHeadRun.topDef (OpenLaw.row PySem.Challenge.rw_opensjust_k03_whole_ways).prog K03.lawAt) (kwd := []) K03.ob_eq
    (by kernel_rfl) (fun s => by kernel_rfl) K03.run (by kernel_rfl) (by kernel_rfl) (by kernel_rfl) (by rfl) (by first | assumption | decide +kernel) (by decide +kernel) ⟨rfl, rfl, rfl, rfl, rfl, by decide +kernel⟩ ?hw ?hc
  case hw => w_witness2
  case hc =>
    exact Ev.walk_prog (DL := K03.i_law) (kL := K03.lawNo) (x := "script") (Wf := Wf) (depth := 40) rfl (by kernel_rfl) (by kernel_rfl) rfl rfl rfl rfl rfl K03.chk_all (by decide +kernel) (by decide +kernel) K03.bind K03.bindL ⟨rfl, by decide, by decide⟩ hC

theorem PySem.Challenge.cw_opensjust_k03_whole_ways_holds : PySem.Challenge.rw_opensjust_k03_whole_ways.Holds :=
  K03.holds 1000 fun ns _ _ => ⟨.undef, K03.c_law (n := 35) (by omega) ns⟩
