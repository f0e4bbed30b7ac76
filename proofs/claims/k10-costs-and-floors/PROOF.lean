import PyProof.Rows.All
import Wide.All
import OpenK.AllK
import Wide.FinOn
import HandS.ForMost
import HandS.Wide
import HandS.IsInst
import HandS.Flow
import HandS.TupAny
import HandS.Deep
import HandS.TupMul
import HandS.TupLe
import HandS.SortOrd
import HandS.Style
import HandS.Conv
import HandS.Text
import HandS.More
import HandS.SetFor
import HandS.WideBits
import KE.SortData
import KE.KTupSum
import KE.DataMinMax
import KE.GoesNew
import KE.GoesMore
import HandS.Iter
import HandS.Zip
import HandS.Strs
import KE.KDictCopyH
import KE.KDictItemsList
import HandS.DictTup
import KE.GoesEnum
import HandS.WideMore
import HandS.Ends
import PySem.Challenge.RW_pantrykept_k10_whole_costs_and_floors
set_option Elab.async false
set_option linter.all false
set_option maxRecDepth 100000
set_option autoImplicit false
namespace Mini
open PySem L2
/-! A small evaluator over plain data: values by value, owned lists in slots. -/
abbrev D := PyData
inductive Sl where
  | no | v (d : D) | l (xs : List D) | bx (cs rs : List Int) | sc (ns : List Int) | dk (kvs : List (Int × D)) | dt (kvs : List (List Int × D))
abbrev En := List Sl
inductive Opd where
  | d (x : D) | s (i : Nat)
def Sl.frz : Sl → Option D
  | .v d => some d
  | .l xs => some (.list xs)
  | _ => none
def Sl.rd : Sl → Option D
  | .v d => some d
  | .l xs => some (.list xs)
  | _ => none
def Sl.isBx : Sl → Bool
  | .bx _ _ => true
  | _ => false
def Opd.get (env : En) : Opd → Option D
  | .d x => some x
  | .s i => (env[i]?).bind Sl.rd
inductive T where
  | nm (i : Nat) | tp (ts : List T)
inductive IK where
  | seq | rng | enum | zip | rev
inductive Ty where
  | int | bool | tuple | list | str
inductive Bl where
  | len | all | any | sum | min | max | abs | tuple | list | int | sorted | str
inductive Mt where
  | index
inductive E where
  | var (i : Nat) | cst (d : D)
  | bin (op : Operator) (a b : E) | neg (a : E)
  | cmp (op : CmpOp) (a b : E) | chn (op op2 : CmpOp) (a b c : E)
  | isn (ng : Bool) (a : E)
  | bop (o : BoolOp) (es : List E)
  | not (a : E)
  | ite (c a b : E)
  | tup (es : List E) | lst (es : List E)
  | idx (a i : E) | slc (a : E) (lo hi : List E)
  | call (f : Nat) (es : List E) | callB (f : Nat) (i : Nat) (es : List E) | callS (f : Nat) (i : Nat)
  | blt (b : Bl) (es : List E)
  | isi (a : E) (t : Ty)
  | lc (t : T) (k : IK) (its : List E) (cond : List E) (elt : E) (own : List Nat)
  | pop (i : Nat)
  | mth (m : Mt) (a e : E)
  | rev (a : E) | isb (ng k : Bool) (a : E) | rgv (tup : Bool) (es : List E) | upper (a : E) | sset (a : E) | lset (a : E)
  | dnew (t : Bool) | dsrt (i : Nat) | ditm (i : Nat)
inductive C where
  | asg (t : T) (e : E)
  | seti (x : Nat) (i e : E)
  | aug (i : Nat) (op : Operator) (e : E)
  | augi (x : Nat) (i : E) (op : Operator) (e : E)
  | app (x : Nat) (e : E) | ext (x : Nat) (e : E)
  | par (i j : Nat) (a b : E) | parn (is : List Nat) (es : List E) | augl (x : Nat) (e : E) | ins (x : Nat) (i e : E) | rem (x : Nat) (e : E)
  | dput (x : Nat) (k e : E) | dputT (x : Nat) (ks : List E) (e : E)
  | expr (e : E)
  | ret (e : E)
  | ife (c : E) (a b : List C)
  | wh (c : E) (b : List C)
  | fr (t : T) (k : IK) (its : List E) (b : List C)
  | brk | cont | pass | never
inductive Out where
  | nx (e : En) | rt (s : Sl) (e : En) | bk (e : En) | ct (e : En)
structure M where
  val : En → Option (Sl × En)
  opd : En → Option (Opd × En)
  tst : En → Option (Bool × En)
/-! data -/
def truth : D → Option Bool
  | .none => some false
  | .bool b => some b
  | .int i => some (i != 0)
  | .str s => if s.length ≤ sizeLine then some ((s.length : Int) != 0) else none
  | .list xs => some !xs.isEmpty
  | .tuple xs => some !xs.isEmpty
  | .dict _ => none
def mulOk (i j : Int) : Prop := i.natAbs.log2 + j.natAbs.log2 < 1000000 ∨ CMul i j
instance (i j : Int) : Decidable (CMul i j) := by unfold CMul; infer_instance
instance (i j : Int) : Decidable (mulOk i j) := by unfold mulOk; infer_instance
def divOk (j : Int) : Prop := 0 < j ∧ j.natAbs.log2 < 9000
instance (j : Int) : Decidable (divOk j) := by unfold divOk; infer_instance
def powOk (i j : Int) : Prop := 0 ≤ j ∧ j ≤ 1000000 ∧ i.natAbs < 2 ^ 64
instance (i j : Int) : Decidable (powOk i j) := by unfold powOk; infer_instance
def binD : Operator → D → D → Option Sl
  | .Add, .int i, .int j => some (.v (.int (i + j)))
  | .Add, .str i, .str j => if i.length + j.length ≤ sizeLine then some (.v (.str (i ++ j))) else none
  | .Add, .tuple xs, .tuple ys => if xs.length + ys.length ≤ sizeLine then some (.v (.tuple (xs ++ ys))) else none
  | .Add, .list xs, .list ys => if xs.length + ys.length ≤ sizeLine then some (.l (xs ++ ys)) else none
  | .Sub, .int i, .int j => some (.v (.int (i - j)))
  | .Mult, .int i, .int j => if mulOk i j then some (.v (.int (i * j))) else none
  | .Mult, .list xs, .int k => if -(2 ^ 63) ≤ k ∧ k < 2 ^ 63 ∧ xs.length * k.toNat ≤ sizeLine then some (.l (List.replicate k.toNat xs).flatten) else none
  | .Mult, .tuple xs, .int k => if xs ≠ [] ∧ 2 ≤ k ∧ k ≤ 1000 ∧ xs.length ≤ 1000 then some (.v (.tuple (List.replicate k.toNat xs).flatten)) else if k = 1 then some (.v (.tuple xs)) else if k = 0 ∧ xs ≠ [] then some (.v (.tuple [])) else none
  | .FloorDiv, .int i, .int j => if divOk j then some (.v (.int (i / j))) else none
  | .Mod, .int i, .int j => if 0 < j then some (.v (.int (i % j))) else none
  | .Pow, .int i, .int j => if powOk i j then some (.v (.int (i ^ j.toNat))) else none
  | .BitAnd, .int i, .int j => some (.v (.int (Builtin.bitAnd i j)))
  | .LShift, .int i, .int j => if i = 1 ∧ 0 ≤ j ∧ j ≤ 1000000 then some (.v (.int (2 ^ j.toNat))) else none
  | .RShift, .int i, .int j => if 0 ≤ j then some (.v (.int (i / 2 ^ j.toNat))) else none
  | _, _, _ => none
def augD : Operator → D → D → Option Sl
  | .Add, .int i, .int j => some (.v (.int (i + j)))
  | .Add, .tuple xs, .tuple ys => if xs.length + ys.length ≤ sizeLine then some (.v (.tuple (xs ++ ys))) else none
  | .Sub, .int i, .int j => some (.v (.int (i - j)))
  | .Mult, .int i, .int j => if CMul i j then some (.v (.int (i * j))) else none
  | .Mod, .int i, .int j => if 0 < j then some (.v (.int (i % j))) else none
  | .FloorDiv, .int i, .int j => if divOk j then some (.v (.int (i / j))) else none
  | _, _, _ => none
def negD : D → Option Sl
  | .int i => some (.v (.int (-i)))
  | _ => none
def b2s (b : Bool) : Option Sl := some (.v (.bool b))
def intsL : List D → Option (List Int)
  | [] => some []
  | .int i :: r => (intsL r).map (i :: ·)
  | _ => none
def cmpD : CmpOp → D → D → Option Sl
  | .Eq, a, b => if SeqAt.shaped a = true ∧ SeqAt.shaped b = true then b2s (PyData.eqv a b) else none
  | .NotEq, a, b => if SeqAt.shaped a = true ∧ SeqAt.shaped b = true then b2s (!PyData.eqv a b) else none
  | .Lt, .int i, .int j => b2s (decide (i < j))
  | .LtE, .int i, .int j => b2s (decide (i ≤ j))
  | .Gt, .int i, .int j => b2s (decide (j < i))
  | .GtE, .int i, .int j => b2s (decide (j ≤ i))
  | .In, a, .list ds => if SeqAt.shaped a = true ∧ SeqAt.shaped (.list ds) = true then b2s (ds.any fun z => PyData.eqv z a) else none
  | .Lt, .tuple xs, .tuple ys => (intsL xs).bind fun ns => (intsL ys).bind fun ms => b2s (HT.lexLt ns ms)
  | .In, a, .tuple ds => if SeqAt.shaped a = true ∧ SeqAt.shaped (.tuple ds) = true then b2s (ds.any fun z => PyData.eqv z a) else none
  | .NotIn, a, .tuple ds => if SeqAt.shaped a = true ∧ SeqAt.shaped (.tuple ds) = true then b2s (!ds.any fun z => PyData.eqv z a) else none
  | .NotIn, a, .list ds => if SeqAt.shaped a = true ∧ SeqAt.shaped (.list ds) = true then b2s (!ds.any fun z => PyData.eqv z a) else none
  | _, _, _ => none
def isnD (ng : Bool) : D → Option Sl
  | .none => b2s (!ng)
  | _ => b2s ng
def isbD (ng k : Bool) : D → Option Sl
  | .bool b => b2s (if ng then !decide (b = k) else decide (b = k))
  | _ => none
def revD : D → Option Sl
  | .list xs => some (.l xs.reverse)
  | .tuple xs => some (.v (.tuple xs.reverse))
  | _ => none
def upperD : D → Option Sl
  | .str s => if s.length ≤ 5592405 then some (.v (.str (Txt.upper s))) else none
  | _ => none
def insU (x : Int) : List Int → List Int
  | [] => [x]
  | y :: ys => if x < y then x :: y :: ys else if x = y then y :: ys else y :: insU x ys
def sset : List Int → List Int
  | [] => []
  | n :: ns => insU n (sset ns)
def ssetD : D → Option Sl
  | .tuple xs => (intsL xs).bind fun ns => if ns.length < 64 then some (.l ((sset ns).map .int)) else none
  | _ => none
def lsetD : D → Option Sl
  | .tuple xs => (intsL xs).bind fun ns => if ns.length ≤ 1000 then some (.v (.int (sset ns).length)) else none
  | .list xs => (intsL xs).bind fun ns => if ns.length ≤ 1000 then some (.v (.int (sset ns).length)) else none
  | _ => none
def idxD : D → D → Option Sl
  | .list xs, .int i => (atI xs i).map .v
  | .tuple xs, .int i => (atI xs i).map .v
  | _, _ => none
def cutD (xs : List D) (lo hi : Option Int) : List D := (xs.drop (HT.sIx xs.length 0 lo)).take (HT.sIx xs.length xs.length hi - HT.sIx xs.length 0 lo)
def slcD : D → Option Int → Option Int → Option Sl
  | .list xs, lo, hi => some (.l (cutD xs lo hi))
  | .tuple xs, lo, hi => some (.v (.tuple (cutD xs lo hi)))
  | _, _, _ => none
def isiD : D → Ty → Bool
  | .int _, .int => true
  | .bool _, .int => true
  | .bool _, .bool => true
  | .tuple _, .tuple => true
  | .list _, .list => true
  | .str _, .str => true
  | _, _ => false
def boolsL : List D → Option (List Bool)
  | [] => some []
  | .bool i :: r => (boolsL r).map (i :: ·)
  | _ => none
def maxL : List Int → Option Int
  | [] => none
  | x :: r => some (r.foldl max x)
def minL : List Int → Option Int
  | [] => none
  | x :: r => some (r.foldl min x)
open Classical in
/-- the least, the greatest of a row -/
noncomputable def bestOf (f : List Int → Option Int) (g : D → List D → D) (xs : List D) : Option Sl := match intsL xs with
  | some is => (f is).map fun m => .v (.int m)
  | none => match xs with
    | [] => none
    | d :: ds => if PySem.W.AlikeAll (d :: ds) ∧ PyData.depthAll (d :: ds) ≤ 60 then some (.v (g d ds)) else none
open Classical in
noncomputable def sortOf (xs : List D) : Option Sl := if PySem.W.AllAlike xs ∧ (PySem.W.Sortable xs ∨ (xs.length ≤ 1 ∧ ∀ d ∈ xs, d ≠ .none)) ∧ ∀ x ∈ xs, x.depth ≤ 60 then some (.l (xs.mergeSort (PySem.W.dataLe false fun x : D => x))) else none
noncomputable def bltD : Bl → List D → Option Sl
  | .len, [.list xs] => some (.v (.int xs.length))
  | .len, [.tuple xs] => some (.v (.int xs.length))
  | .len, [.str s] => if s.length ≤ sizeLine then some (.v (.int s.length)) else none
  | .all, [.list xs] => (boolsL xs).map fun bs => .v (.bool (bs.all id))
  | .any, [.list xs] => (boolsL xs).map fun bs => .v (.bool (bs.any id))
  | .sum, [.list xs] => (intsL xs).map fun is => .v (.int is.sum)
  | .sum, [.tuple xs] => (intsL xs).map fun is => .v (.int is.sum)
  | .max, [.list xs] => bestOf maxL PySem.W.maxD xs
  | .min, [.list xs] => bestOf minL PySem.W.minD xs
  | .max, [.tuple xs] => bestOf maxL PySem.W.maxD xs
  | .min, [.tuple xs] => bestOf minL PySem.W.minD xs
  | .sorted, [.list xs] => sortOf xs
  | .max, [.int i, .int j] => some (.v (.int (if j > i then j else i)))
  | .min, [.int i, .int j] => some (.v (.int (if j < i then j else i)))
  | .abs, [.int i] => some (.v (.int (if i < 0 then -i else i)))
  | .int, [.int i] => some (.v (.int i))
  | .int, [.bool i] => some (.v (.int (if i then 1 else 0)))
  | .str, [.int i] => if i.natAbs.log2 < 1920 then some (.v (.str (toString i))) else none
  | .tuple, [.list xs] => some (.v (.tuple xs))
  | .tuple, [.tuple xs] => some (.v (.tuple xs))
  | .list, [.list xs] => some (.l xs)
  | .list, [.tuple xs] => some (.l xs)
  | _, _ => none
def rngOk (i : Int) : Prop := -(2 ^ 62) ≤ i ∧ i < 2 ^ 62
instance (j : Int) : Decidable (rngOk j) := by unfold rngOk; infer_instance
def rngL (lo : Int) (n : Nat) : List D := (List.range n).map fun (i : Nat) => .int (lo + i)
def rngC (lo c : Int) (n : Nat) : List D := (List.range n).map fun (i : Nat) => .int (lo + i * c)
def enumL (xs : List D) (k : Nat) : List D := match xs with
  | [] => []
  | x :: r => .tuple [.int k, x] :: enumL r (k + 1)
def seqD : D → Option (List D)
  | .list xs => some xs
  | .tuple xs => some xs
  | _ => none
def zipL3 : List D → List D → List D → List D
  | x :: xs, y :: ys, z :: zs => .tuple [x, y, z] :: zipL3 xs ys zs
  | _, _, _ => []
def zipL : List D → List D → List D
  | x :: xs, y :: ys => .tuple [x, y] :: zipL xs ys
  | _, _ => []
def itemsOf : IK → List D → Option (List D)
  | .seq, [.list xs] => some xs
  | .seq, [.tuple xs] => some xs
  | .rng, [.int n] => if rngOk n ∧ n ≤ sizeLine then some (rngL 0 n.toNat) else none
  | .rng, [.int a, .int b] => if rngOk a ∧ rngOk b ∧ b - a ≤ sizeLine then some (rngL a (b - a).toNat) else none
  | .rng, [.int a, .int b, .int c] => if c ≠ 0 ∧ c.natAbs < 1073741824 ∧ Builtin.Range.small a b c = true ∧ 0 ≤ Builtin.Range.rangeSize a b c ∧ Builtin.Range.rangeSize a b c ≤ sizeLine then some (rngC a c (Builtin.Range.rangeSize a b c).toNat) else none
  | .enum, [.list xs] => some (enumL xs 0)
  | .enum, [.tuple xs] => some (enumL xs 0)
  | .zip, [.list xs, .list ys] => some (zipL xs ys)
  | .zip, [.tuple xs, .tuple ys] => some (zipL xs ys)
  | .zip, [.list xs, .tuple ys] => some (zipL xs ys)
  | .zip, [.tuple xs, .list ys] => some (zipL xs ys)
  | .zip, [a, b, c] => (seqD a).bind fun xs => (seqD b).bind fun ys => (seqD c).map fun zs => zipL3 xs ys zs
  | .rev, [.list xs] => some xs.reverse
  | _, _ => none
instance (a b : Int) : Decidable (RgOk a b) := by unfold RgOk; infer_instance
def rgvD (tup : Bool) : List D → Option Sl
  | [.int n] => if RgOk 0 n then some (if tup then .v (.tuple (rngL 0 n.toNat)) else .l (rngL 0 n.toNat)) else none
  | [.int a, .int b] => if RgOk a b then some (if tup then .v (.tuple (rngL a (b - a).toNat)) else .l (rngL a (b - a).toNat)) else none
  | _ => none
/-! dicts -/
def tupI (k : List Int) : D := .tuple (k.map .int)
def putD {α β : Type} [DecidableEq α] (kvs : List (α × β)) (k : α) (v : β) : List (α × β) :=
  if (kvs.any fun kv => decide (kv.1 = k)) = true then kvs.map (fun kv => if kv.1 = k then (kv.1, v) else kv) else kvs ++ [(k, v)]
/-! environments -/
def setS (i : Nat) (s : Sl) (env : En) : Option En := match env[i]? with
  | none => none
  | some (.bx _ _) => none
  | some _ => some (env.set i s)
mutual
def asgT : T → D → En → Option En
  | .nm i, d, env => setS i (.v d) env
  | .tp ts, .tuple ds, env => asgTs ts ds env
  | .tp _, _, _ => none
def asgTs : List T → List D → En → Option En
  | [], [], env => some env
  | t :: ts, d :: ds, env => (asgT t d env).bind (asgTs ts ds)
  | _, _, _ => none
end
def wipeE (env : En) : List Nat → En
  | [] => env
  | v :: vs => (wipeE env vs).set v .no
def frzM (f : En → Option (Sl × En)) (env : En) : Option (D × En) := (f env).bind fun (s, e1) => s.frz.map fun d => (d, e1)
def trM (g : En → Option (Opd × En)) (env : En) : Option (Bool × En) := (g env).bind fun (p, e1) => (p.get e1).bind fun d => (truth d).map fun b => (b, e1)
def M.ofVal (f : En → Option (Sl × En)) : M :=
  { val := f
    opd := fun env => (frzM f env).map fun (d, e1) => (.d d, e1)
    tst := trM fun env => (frzM f env).map fun (d, e1) => (.d d, e1) }
def varM (i : Nat) : M :=
  let o : En → Option (Opd × En) := fun env => match env[i]? with
    | some (.v d) => some (.d d, env)
    | some (.l _) => some (.s i, env)
    | _ => none
  { val := fun env => match env[i]? with
      | some (.v d) => some (.v d, env)
      | some (.l xs) => some (.v (.list xs), env.set i (.v (.list xs)))
      | _ => none
    opd := o
    tst := trM o }
def op1 (f : D → Option Sl) (a : M) : M := .ofVal fun env => (a.opd env).bind fun (p, e1) => (p.get e1).bind fun x => (f x).map fun r => (r, e1)
def op2 (f : D → D → Option Sl) (a b : M) : M := .ofVal fun env => (a.opd env).bind fun (p, e1) => (b.opd e1).bind fun (q, e2) => (p.get e2).bind fun x => (q.get e2).bind fun y => (f x y).map fun r => (r, e2)
def bOf : Sl → Option Bool
  | .v (.bool b) => some b
  | _ => none
/-- a comparison as a test -/
def M.cmp (f : En → Option (Sl × En)) : M := { M.ofVal f with tst := fun env => (f env).bind fun (s, e1) => (bOf s).map fun b => (b, e1) }
def cmpM (op : CmpOp) (a b : M) : M := .cmp (op2 (cmpD op) a b).val
def chnM (op op2 : CmpOp) (a b c : M) : M := .cmp fun env => (a.opd env).bind fun (p, e1) => (b.opd e1).bind fun (q, e2) => (p.get e2).bind fun x => (q.get e2).bind fun y =>
  (cmpD op x y).bind fun r => (bOf r).bind fun k => if k then (c.opd e2).bind fun (t, e3) => (q.get e3).bind fun y2 => (t.get e3).bind fun z => (cmpD op2 y2 z).map fun r2 => (r2, e3) else some (.v (.bool false), e2)
def isnM (ng : Bool) (a : M) : M := .cmp (op1 (isnD ng) a).val
def notM (a : M) : M :=
  { M.ofVal (fun env => (trM a.opd env).map fun (b, e1) => (.v (.bool !b), e1)) with tst := fun env => (a.tst env).map fun (b, e1) => (!b, e1) }
def isAnd : BoolOp → Bool
  | .And => true
  | .Or => false
def bopV (o : BoolOp) : List M → En → Option (D × En)
  | [], _ => none
  | [a], env => frzM a.val env
  | a :: r, env => (frzM a.val env).bind fun (d, e1) => (truth d).bind fun k => if k == isAnd o then bopV o r e1 else some (d, e1)
def bopT (o : BoolOp) : List M → En → Option (Bool × En)
  | [], _ => none
  | [a], env => a.tst env
  | a :: r, env => (a.tst env).bind fun (k, e1) => if k == isAnd o then bopT o r e1 else some (k, e1)
def bopM (o : BoolOp) (es : List M) : M := { M.ofVal (fun env => (bopV o es env).map fun (d, e1) => (.v d, e1)) with tst := bopT o es }
def iteM (c a b : M) : M := { M.ofVal (fun env => (c.tst env).bind fun (k, e1) => if k then a.val e1 else b.val e1) with tst := fun env => (c.tst env).bind fun (k, e1) => if k then a.tst e1 else b.tst e1 }
/-- arguments, frozen, from the left -/
def argsM : List M → En → Option (List D × En)
  | [], env => some ([], env)
  | a :: r, env => (frzM a.val env).bind fun (d, e1) => (argsM r e1).map fun (ds, e2) => (d :: ds, e2)
/-- operands, looked at -/
def opsM : List M → En → Option (List Opd × En)
  | [], env => some ([], env)
  | a :: r, env => (a.opd env).bind fun (p, e1) => (opsM r e1).map fun (ps, e2) => (p :: ps, e2)
def gets (env : En) : List Opd → Option (List D)
  | [] => some []
  | p :: r => (p.get env).bind fun d => (gets env r).map (d :: ·)
def tupM (es : List M) : M := .ofVal fun env => (argsM es env).bind fun (ds, e1) => if ds.length ≤ sizeLine then some (.v (.tuple ds), e1) else none
def lstM (es : List M) : M := .ofVal fun env => (argsM es env).bind fun (ds, e1) => if ds.length ≤ sizeLine then some (.l ds, e1) else none
noncomputable def bltM (b : Bl) (es : List M) : M := .ofVal fun env => (opsM es env).bind fun (ps, e1) => (gets e1 ps).bind fun ds => (bltD b ds).map fun r => (r, e1)
def partM : List M → En → Option (Option Int × En)
  | [], env => some (none, env)
  | [a], env => (a.opd env).bind fun (p, e1) => (p.get e1).bind fun d => match d with
    | .int i => some (some i, e1)
    | _ => none
  | _, _ => none
def slcM (a : M) (lo hi : List M) : M := .ofVal fun env => (a.opd env).bind fun (p, e1) => (partM lo e1).bind fun (l, e2) => (partM hi e2).bind fun (h, e3) => (p.get e3).bind fun x => (slcD x l h).map fun r => (r, e3)
abbrev Ph := Nat → List Sl → Option (Sl × List Sl)
def retOf (P : Ph) (f : Nat) (as : List Sl) : Option Sl := (P f as).map fun r => r.1
def retB (P : Ph) (f : Nat) (as : List Sl) : Option (Sl × Sl) := (P f as).bind fun r => match r.2 with
  | b :: _ => some (r.1, b)
  | [] => none
def callM (P : Ph) (f : Nat) (es : List M) : M := .ofVal fun env => (argsM es env).bind fun (ds, e1) => (retOf P f (ds.map .v)).map fun r => (r, e1)
def callSM (P : Ph) (f : Nat) (i : Nat) : M := .ofVal fun env => match env[i]? with
  | some (.sc ns) => (retOf P f [.sc ns]).map fun r => (r, env)
  | _ => none
def isB : Option Sl → Bool
  | some (.bx _ _) => true
  | _ => false
def callBM (P : Ph) (f : Nat) (i : Nat) (es : List M) : M := .ofVal fun env => if isB env[i]? then (argsM es env).bind fun (ds, e1) => match e1[i]? with
  | some (.bx cs rs) => (retB P f (.bx cs rs :: ds.map .v)).bind fun (r, b) => match b with
    | .bx cs2 rs2 => some (r, e1.set i (.bx cs2 rs2))
    | _ => none
  | _ => none else none
def stillB (e0 : En) (e1 : En) : List Opd → Prop
  | [] => True
  | .d _ :: r => stillB e0 e1 r
  | .s i :: r => e1[i]? = e0[i]? ∧ stillB e0 e1 r
def condM : List M → En → Option (Bool × En)
  | [], env => some (true, env)
  | [c], env => c.tst env
  | _, _ => none
open Classical in
noncomputable def lcLoop (t : T) (cond : List M) (elt : M) (own : List Nat) (ps : List Opd) (e0 : En) : List D → En → Option (List D × En)
  | [], env => some ([], env)
  | x :: xs, env => (asgT t x env).bind fun e1 => (condM cond e1).bind fun (b, e2) =>
      if b then (frzM elt.val e2).bind fun (d, e3) => if stillB e0 (wipeE e3 own) ps then (lcLoop t cond elt own ps e0 xs (wipeE e3 own)).map fun (r, e4) => (d :: r, e4) else none
      else if stillB e0 (wipeE e2 own) ps then lcLoop t cond elt own ps e0 xs (wipeE e2 own) else none
/-- the outer names that a comprehension's own hid -/
def restE (e1 e2 : En) : List Nat → En
  | [] => e2
  | i :: r => match e1[i]? with
    | some (.v d) => (restE e1 e2 r).set i (.v d)
    | _ => restE e1 e2 r
open Classical in
noncomputable def lcM (t : T) (k : IK) (its cond : List M) (elt : M) (own : List Nat) : M := .ofVal fun env => (opsM its env).bind fun (ps, e1) => (gets e1 ps).bind fun ds => (itemsOf k ds).bind fun xs =>
  if stillB e1 (wipeE e1 own) ps then (lcLoop t cond elt own ps e1 xs (wipeE e1 own)).map fun (r, e2) => (.l r, restE e1 e2 own) else none
def popM (i : Nat) : M := .ofVal fun env => match env[i]? with
  | some (.l xs) => match xs.getLast? with
    | some d => some (.v d, env.set i (.l xs.dropLast))
    | none => none
  | _ => none
def idxOf (d : D) : List D → Nat → Option Nat
  | [], _ => none
  | x :: xs, k => if PyData.eqv x d then some k else idxOf d xs (k + 1)
def mthD : Mt → D → D → Option Sl
  | .index, .list xs, d => if SeqAt.shaped (.list xs) = true ∧ SeqAt.shaped d = true then (idxOf d xs 0).map fun (k : Nat) => .v (.int k) else none
  | _, _, _ => none
def rgvM (tup : Bool) (es : List M) : M := .ofVal fun env => (opsM es env).bind fun (ps, e1) => (gets e1 ps).bind fun ds => (rgvD tup ds).map fun r => (r, e1)
def isStr : D → Bool
  | .str _ => true
  | _ => false
def upperM (a : M) : M := .ofVal fun env => (a.opd env).bind fun (p, e1) => (p.get e1).bind fun x0 => if isStr x0 then (upperD x0).map fun r => (r, e1) else none
def isLst : D → Bool
  | .list _ => true
  | _ => false
def mthM (m : Mt) (a b : M) : M := .ofVal fun env => (a.opd env).bind fun (p, e1) => (p.get e1).bind fun x0 => if isLst x0 then (b.opd e1).bind fun (q, e2) => (p.get e2).bind fun x => (q.get e2).bind fun y => (mthD m x y).map fun r => (r, e2) else none
def dnewM (t : Bool) : M := .ofVal fun env => some (if t then .dt [] else .dk [], env)
noncomputable def dsrtM (i : Nat) : M := .ofVal fun env => match env[i]? with
  | some (.dk kvs) => (sortOf ((kvs.map (·.1)).map .int)).map fun r => (r, env)
  | some (.dt kvs) => (sortOf ((kvs.map (·.1)).map tupI)).map fun r => (r, env)
  | _ => none
noncomputable def ditmM (i : Nat) : M := .ofVal fun env => match env[i]? with
  | some (.dk kvs) => (sortOf (kvs.map fun p => .tuple [.int p.1, p.2])).map fun r => (r, env)
  | _ => none
mutual
noncomputable def ev (P : Ph) : E → M
  | .var i => varM i
  | .cst d => .ofVal fun env => some (.v d, env)
  | .bin op a b => op2 (binD op) (ev P a) (ev P b)
  | .neg a => op1 negD (ev P a)
  | .cmp op a b => cmpM op (ev P a) (ev P b)
  | .chn op op2 a b c => chnM op op2 (ev P a) (ev P b) (ev P c)
  | .isn ng a => isnM ng (ev P a)
  | .bop o es => bopM o (evs P es)
  | .not a => notM (ev P a)
  | .ite c a b => iteM (ev P c) (ev P a) (ev P b)
  | .tup es => tupM (evs P es)
  | .lst es => lstM (evs P es)
  | .idx a i => op2 idxD (ev P a) (ev P i)
  | .slc a lo hi => slcM (ev P a) (evs P lo) (evs P hi)
  | .call f es => callM P f (evs P es)
  | .callB f i es => callBM P f i (evs P es)
  | .callS f i => callSM P f i
  | .blt b es => bltM b (evs P es)
  | .isi a t => .cmp (op1 (fun d => some (.v (.bool (isiD d t)))) (ev P a)).val
  | .lc t k its cond elt own => lcM t k (evs P its) (evs P cond) (ev P elt) own
  | .pop i => popM i
  | .mth m a e => mthM m (ev P a) (ev P e)
  | .rev a => op1 revD (ev P a)
  | .isb ng k a => .cmp (op1 (isbD ng k) (ev P a)).val
  | .rgv tup es => rgvM tup (evs P es)
  | .upper a => upperM (ev P a)
  | .sset a => op1 ssetD (ev P a)
  | .lset a => op1 lsetD (ev P a)
  | .dnew t => dnewM t
  | .dsrt i => dsrtM i
  | .ditm i => ditmM i
noncomputable def evs (P : Ph) : List E → List M
  | [] => []
  | e :: es => ev P e :: evs P es
end
/-! statements -/
def Out.bind (o : Option Out) (f : En → Option Out) : Option Out := o.bind fun r => match r with
  | .nx e => f e
  | r => some r
/-- while, in at most n turns -/
def whN (c : En → Option (Bool × En)) (b : En → Option Out) : Nat → En → Option Out
  | 0, _ => none
  | n + 1, env => (c env).bind fun (k, e1) => if k then (b e1).bind fun r => match r with
      | .nx e2 => whN c b n e2
      | .ct e2 => whN c b n e2
      | .bk e2 => some (.nx e2)
      | .rt s e2 => some (.rt s e2)
    else some (.nx e1)
open Classical in
noncomputable def whC (c : En → Option (Bool × En)) (b : En → Option Out) (env : En) : Option Out :=
  if h : ∃ n r, whN c b n env = some r then some h.choose_spec.choose else none
def frL (t : T) (b : En → Option Out) : List D → En → Option Out
  | [], env => some (.nx env)
  | x :: xs, env => (asgT t x env).bind fun e1 => (b e1).bind fun r => match r with
      | .nx e2 => frL t b xs e2
      | .ct e2 => frL t b xs e2
      | .bk e2 => some (.nx e2)
      | .rt s e2 => some (.rt s e2)
/-- an operand frozen -/
def frO (m : M) : M := { m with opd := fun env => (frzM m.val env).map fun (d, e1) => (.d d, e1) }
def appS (x : Nat) (d : D) (env : En) : Option Out := match env[x]? with
  | some (.l xs) => if xs.length < sizeLine then some (.nx (env.set x (.l (xs ++ [d])))) else none
  | _ => none
def extS (x : Nat) (d : D) (env : En) : Option Out := match env[x]?, d with
  | some (.l xs), .list ys => if xs.length + ys.length ≤ sizeLine then some (.nx (env.set x (.l (xs ++ ys)))) else none
  | _, _ => none
def insS (x : Nat) (ds : List D) (env : En) : Option Out := match env[x]?, ds with
  | some (.l xs), [.int k, d] => if xs.length < sizeLine ∧ 0 ≤ k ∧ k < 2 ^ 63 then some (.nx (env.set x (.l (xs.take k.toNat ++ [d] ++ xs.drop k.toNat)))) else none
  | _, _ => none
def remS (x : Nat) (d : D) (env : En) : Option Out := match env[x]?, d with
  | some (.l xs), .int k => (intsL xs).bind fun ns => if k ∈ ns then some (.nx (env.set x (.l ((ns.eraseIdx (ns.idxOf k)).map .int)))) else none
  | _, _ => none
def parM (a b : M) (env : En) : Option ((Sl × Sl) × En) := (a.val env).bind fun (s, e1) => (b.val e1).map fun (t, e2) => ((s, t), e2)
def parMs : List M → En → Option (List Sl × En)
  | [], env => some ([], env)
  | a :: r, env => (a.val env).bind fun (s, e1) => (parMs r e1).map fun (ss, e2) => (s :: ss, e2)
def setSs : List Nat → List Sl → En → Option En
  | [], [], env => some env
  | i :: is, s :: ss, env => (setS i s env).bind (setSs is ss)
  | _, _, _ => none
def setiS (x : Nat) (i : D) (d : D) (env : En) : Option Out := match env[x]?, i with
  | some (.l xs), .int k => (ixN xs.length k).map fun j => .nx (env.set x (.l (xs.set j d)))
  | _, _ => none
def isDk : Option Sl → Bool
  | some (.dk _) => true
  | _ => false
def isDt : Option Sl → Bool
  | some (.dt _) => true
  | _ => false
def dputS (x : Nat) (k d : D) (env : En) : Option Out := match env[x]?, k with
  | some (.dk kvs), .int n => if kvs.length < sizeLine then some (.nx (env.set x (.dk (putD kvs n d)))) else none
  | _, _ => none
def dputTS (x : Nat) (ks : List D) (d : D) (env : En) : Option Out := match env[x]?, intsL ks with
  | some (.dt kvs), some ns => if kvs.length < sizeLine ∧ ns.length ≤ sizeLine then some (.nx (env.set x (.dt (putD kvs ns d)))) else none
  | _, _ => none
def isL : Option Sl → Bool
  | some (.l _) => true
  | _ => false
mutual
noncomputable def ex (P : Ph) : C → En → Option Out
  | .asg (.nm i) e, env => ((ev P e).val env).bind fun (s, e1) => (setS i s e1).map .nx
  | .asg t e, env => (frzM (ev P e).val env).bind fun (d, e1) => (asgT t d e1).map .nx
  | .seti x i e, env => (frzM (ev P e).val env).bind fun (d, e1) => if isL e1[x]? then ((ev P i).opd e1).bind fun (p, e2) => (p.get e2).bind fun k => setiS x k d e2 else none
  | .aug i op e, env => match env[i]? with
    | some (.v a) => (frzM (ev P e).val env).bind fun (d, e1) => (augD op a d).bind fun r => (setS i r e1).map .nx
    | _ => none
  | .augi x i op e, env => if isL env[x]? then ((ev P i).opd env).bind fun (p, e1) => (p.get e1).bind fun k => match e1[x]?, k with
    | some (.l xs), .int n => (atI xs n).bind fun old => (frzM (ev P e).val e1).bind fun (d, e2) => (augD op old d).bind fun r => r.frz.bind fun z => setiS x k z e2
    | _, _ => none else none
  | .app x e, env => if isL env[x]? then (frzM (ev P e).val env).bind fun (d, e1) => appS x d e1 else none
  | .ext x e, env => if isL env[x]? then (frzM (ev P e).val env).bind fun (d, e1) => extS x d e1 else none
  | .par i j a b, env => (parM (ev P a) (ev P b) env).bind fun (r, e1) => (setS i r.1 e1).bind fun e2 => (setS j r.2 e2).map .nx
  | .parn is es, env => (parMs (evs P es) env).bind fun (r, e1) => if r.length ≤ sizeLine then (setSs is r e1).map .nx else none
  | .augl x e, env => if isL env[x]? then (frzM (ev P e).val env).bind fun (d, e1) => extS x d e1 else none
  | .ins x i e, env => if isL env[x]? then (argsM [ev P i, ev P e] env).bind fun (ds, e1) => insS x ds e1 else none
  | .rem x e, env => if isL env[x]? then (frzM (ev P e).val env).bind fun (d, e1) => remS x d e1 else none
  | .dput x k e, env => (frzM (ev P e).val env).bind fun (d, e1) => if isDk e1[x]? then ((ev P k).opd e1).bind fun (p, e2) => (p.get e2).bind fun kd => dputS x kd d e2 else none
  | .dputT x ks e, env => (frzM (ev P e).val env).bind fun (d, e1) => if isDt e1[x]? then (argsM (evs P ks) e1).bind fun (ds, e2) => dputTS x ds d e2 else none
  | .expr e, env => ((ev P e).val env).map fun (_, e1) => .nx e1
  | .ret e, env => ((ev P e).val env).map fun (s, e1) => .rt s e1
  | .ife c a b, env => ((ev P c).tst env).bind fun (k, e1) => if k then exs P a e1 else exs P b e1
  | .wh c b, env => whC (ev P c).tst (exs P b) env
  | .fr t k its b, env => (opsM ((evs P its).map frO) env).bind fun (ps, e1) => (gets e1 ps).bind fun ds => (itemsOf k ds).bind fun xs => frL t (exs P b) xs e1
  | .brk, env => some (.bk env)
  | .cont, env => some (.ct env)
  | .pass, env => some (.nx env)
  | .never, _ => none
noncomputable def exs (P : Ph) : List C → En → Option Out
  | [], env => some (.nx env)
  | c :: cs, env => (ex P c env).bind fun r => match r with
    | .nx e1 => exs P cs e1
    | .rt s e1 => some (.rt s e1)
    | .bk e1 => some (.bk e1)
    | .ct e1 => some (.ct e1)
end
inductive Fn where
  | user (b : Bool) (p n : Nat) (body : List C)
  | prim (m : Nat) (g : List Sl → Option (Sl × List Sl))
def hasBx : List Sl → Bool
  | .bx _ _ :: _ => true
  | _ => false
noncomputable def runB (P : Ph) (b : Bool) (p n : Nat) (body : List C) (as : List Sl) : Option (Sl × List Sl) :=
  if as.length = p ∧ hasBx as = b then (exs P body (as ++ List.replicate (n - p) .no)).bind fun r => match r with
    | .nx e => some (.v .none, e)
    | .rt s e => some (s, e)
    | _ => none
  else none
noncomputable def callN (tb : Nat → Option Fn) : Nat → Ph
  | 0 => fun _ _ => none
  | d + 1 => fun f as => match tb f with
    | some (.user b p n body) => runB (callN tb d) b p n body as
    | some (.prim m g) => if m ≤ d then g as else none
    | none => none
end Mini

namespace Mini
open PySem PySem.Spec PyProof.Rows L2
/-! zip of two and of three, lists and tuples in any mix -/
def Sq (K : PySem.W.Frag) : Bool → Hp → Addr → List V → Prop
  | true, H, a, xs => SqL K H a xs
  | false, H, a, xs => SqT K H a xs
def HSq : Bool → Heap → Addr → Array Value → Prop
  | true, h, a, xs => h.IsList a xs
  | false, h, a, xs => h.IsTuple a xs
def HIt : Bool → Heap → Addr → Addr → Nat → Prop
  | true, h, it, a, i => h.IsListIter it a i
  | false, h, it, a, i => h.IsTupleIter it a i
def itO : Bool → Addr → Obj
  | true, a => { cls := .type "list_iterator", data := .fields #[.ref a, .int 0 0] }
  | false, a => { cls := .type "tuple_iterator", data := .fields #[.ref a, .int 0 0] }
theorem drawsB {prog : Program} {w : World} {A : Around} (b : Bool) (hh : A.handled = none) (it a : Addr) (hne : a ≠ it) (items : Array Value) :
    Draws prog w A it [it, a] items.size (fun i v => items[i]? = some v) (fun i h => HIt b h it a i ∧ HSq b h a items) := by
  cases b
  · exact .tuple hh it a hne items
  · exact .list hh it a hne items
theorem beginsB (b : Bool) (a : Addr) (items : Array Value) : Begins (.ref a) (itO b a) fun h => HSq b h a items := by
  cases b
  · exact begins_tuple a items
  · exact begins_list a items
theorem HIt.obj {b : Bool} {h : Heap} {it a : Addr} {i : Nat} (x : HIt b h it a i) : ∃ o, h.get? it = some o ∧ ∀ v, o.data ≠ .cell v := by
  cases b <;> (obtain ⟨o, e, _, d⟩ := x; exact ⟨o, e, fun v q => by rw [d] at q; cases q⟩)
theorem HIt.at {b : Bool} {h h' : Heap} {it a : Addr} {i : Nat} (x : HIt b h it a i) (k : ∀ o, h.get? it = some o → h'.get? it = some o) : HIt b h' it a i := by
  cases b
  · exact Heap.IsTupleIter.at x k
  · exact Heap.IsListIter.at x k
theorem HIt.new {b : Bool} {h : Heap} {it a : Addr} (x : h.get? it = some (itO b a)) : HIt b h it a 0 := by
  cases b
  · exact ⟨_, x, rfl, rfl⟩
  · exact ⟨_, x, rfl, rfl⟩
theorem inv_sq {b : Bool} {X : Cx} {pins : List (Addr × Obj)} {σ : L2.St} {H : Hp} {s : Shared} {a : Addr} {xs : List V} (I : Inv X pins σ H s) (h : Sq X.K b H a xs) : ∃ its : List Value, Vals xs its ∧ HSq b s.heap a its.toArray ∧ a < s.heap.objs.size := by
  cases b
  · obtain ⟨its, rv, p, _⟩ := I.tuple h
    have p' : s.heap.IsTuple a its.toArray := p
    have al : a < s.heap.objs.size := by obtain ⟨_, q, _⟩ := p'; exact Heap.lt_size q
    exact ⟨its, rv, p', al⟩
  · obtain ⟨its, rv, p, _⟩ := I.list h
    exact ⟨its, rv, p.isList, p.lt⟩
theorem sq_inj {b : Bool} {X : Cx} {pins : List (Addr × Obj)} {σ : L2.St} {H : Hp} {s : Shared} {a : Addr} {xs ys : List V} (I : Inv X pins σ H s) (h : Sq X.K b H a xs) (h' : Sq X.K b H a ys) : xs = ys := by
  cases b
  · exact I.tuple_inj h h'
  · exact I.list_inj h h'
/-- the things at a and b as they stand at each turn, the items in new pairs -/
def ItzM (K : PySem.W.Frag) (b1 b2 : Bool) (a b : Addr) : It :=
  ⟨fun i H => ∃ (xs ys : List V) (x y : V), Sq K b1 H a xs ∧ Sq K b2 H b ys ∧ xs[i]? = some x ∧ ys[i]? = some y,
    fun i H v H' => ∃ T x y, v = .ref T ∧ H T = none ∧ H' = upd H T (.tup [x, y]) ∧ (∀ xs, Sq K b1 H a xs → xs[i]? = some x) ∧ ∀ ys, Sq K b2 H b ys → ys[i]? = some y,
    fun i H => ∃ xs ys : List V, Sq K b1 H a xs ∧ Sq K b2 H b ys ∧ i = min xs.length ys.length⟩
theorem zipM_sep {n a b : Nat} (ha : a < n) (hb : b < n) : ZipSep2 (n + 4) (n + 2) (n + 3) n (n + 1) [n, a] [n + 1, b] := by
  constructor <;> simp
  · exact fun (e : (n + 4 : Nat) = a) => by omega
  · exact fun (e : (n + 3 : Nat) = a) => by omega
  · exact fun (e : (n + 4 : Nat) = b) => by omega
  · exact fun (e : (n + 3 : Nat) = b) => by omega
  · exact fun (e : (n : Nat) = b) => by omega
  · exact fun (e : (n + 1 : Nat) = a) => by omega
theorem turn_zipM {P : Program} {w : World} {K : PySem.W.Frag} {elts : List Expr} {kk : Nat} {tpos : Pos} {b1 b2 : Bool} {a b z TI TO i1 i2 : Addr} (D : ZipSep2 z TI TO i1 i2 [i1, a] [i2, b]) (ne1 : a ≠ i1) (ne2 : b ≠ i2) :
    Turn P w K (.Tuple elts kk tpos) (ItzM K b1 b2 a b) [z, TI, TO, i1, i2] z (fun i h => IsZip h z TI TO .none ∧ IsTupOf2 h TI (.ref i1) (.ref i2) ∧ (∃ x y, IsTupOf2 h TO x y) ∧ HIt b1 h i1 a i ∧ HIt b2 h i2 b i) where
  mem := by simp
  obj := fun i h st c hc => by
    obtain ⟨hz, hTI, ⟨x, y, hTO⟩, h1, h2⟩ := st
    have e' : c = z ∨ c = TI ∨ c = TO ∨ c = i1 ∨ c = i2 := by simpa using hc
    rcases e' with q | q | q | q | q
    · rw [q]; exact ⟨_, hz, fun v q => nomatch q⟩
    · rw [q]; exact ⟨_, hTI, fun v q => nomatch q⟩
    · rw [q]; exact ⟨_, hTO, fun v q => nomatch q⟩
    · rw [q]; exact h1.obj
    · rw [q]; exact h2.obj
  keep := fun i h h' st k => by
    obtain ⟨hz, hTI, ⟨x, y, hTO⟩, h1, h2⟩ := st
    exact ⟨k z (by simp) _ hz, k TI (by simp) _ hTI, ⟨x, y, k TO (by simp) _ hTO⟩, h1.at fun o q => k i1 (by simp) o q, h2.at fun o q => k i2 (by simp) o q⟩
  item := by
    intro X hP hw hK hc i pins s σ H E I hf st hg
    subst hP hw hK
    obtain ⟨hz, hTI, ⟨x0, y0, hTO⟩, h1, h2⟩ := st
    obtain ⟨xs, ys, x, y, hqx, hqy, hx, hy⟩ := hg
    obtain ⟨its, rv, p, _⟩ := inv_sq I hqx
    obtain ⟨its2, rv2, p2, _⟩ := inv_sq I hqy
    obtain ⟨u, hu, ru⟩ := rv.get hx
    obtain ⟨u2, hu2, ru2⟩ := rv2.get hy
    have l1 := rv.length
    have l2 := rv2.length
    have hlt : i < min its.toArray.size its2.toArray.size := by
      have q1 := (List.getElem?_eq_some_iff.mp hu).1
      have q2 := (List.getElem?_eq_some_iff.mp hu2).1
      simp; omega
    have hzl : z < s.heap.objs.size := Heap.lt_size hz
    refine (GoesN.zip2 (A := X.A) (elts := elts) (x1 := kk) (pos := tpos) D (drawsB b1 (A := X.A.in1) (I.ok.hd hc) i1 a ne1 its.toArray) (drawsB b2 (A := X.A.in1) (I.ok.hd hc) i2 b ne2 its2.toArray)).goes i s _ E hlt ⟨hz, hTI, ⟨x0, y0, hTO⟩, ⟨h1, p⟩, ⟨h2, p2⟩⟩ fun v h' tk hY st' hk htk => ?_
    obtain ⟨T, w1, w2, rfl, hT0, hw1, hw2, hT⟩ := hY
    obtain ⟨hz', hTI', hTO', ⟨h1', _⟩, ⟨h2', _⟩⟩ := st'
    have e1 : w1 = u := by
      have : its[i]? = some w1 := by simpa using hw1
      rw [hu] at this; cases this; rfl
    have e2 : w2 = u2 := by
      have : its2[i]? = some w2 := by simpa using hw2
      rw [hu2] at this; cases this; rfl
    subst e1 e2
    have new : ObjOk X.prog X.w (upd H T (.tup [x, y])) h' T (.tup [x, y]) :=
      ⟨by show 2 ≤ sizeLine; decide, [w1, w2], .cons ru (.cons ru2 .nil), hT⟩
    have I1 : Inv X pins σ (upd H T (.tup [x, y])) { s with heap := h', toks := tk } :=
      I.turnedNew (ch := [z, TI, TO, i1, i2]) (fun c o hb q => hk c o (fun q' => hb (by
        simp only [List.mem_cons, List.not_mem_nil, or_false] at q' ⊢
        rcases q' with q' | q' | q' | q'
        · exact .inl q'
        · exact .inr (.inr (.inl q'))
        · exact .inr (.inr (.inr (.inl q')))
        · exact .inr (.inr (.inr (.inr q'))))) q) hf hT0 new
    refine ⟨.ref T, _, I1, rfl, ⟨T, x, y, rfl, I.hok.fresh hT0, rfl, fun l hl => by rw [sq_inj I hl hqx]; exact hx, fun l hl => by rw [sq_inj I hl hqy]; exact hy⟩, ⟨hz', hTI', hTO', h1', h2'⟩, fun c hcm => ?_⟩
    have hlt2 : c < s.heap.objs.size := by
      have e' : c = z ∨ c = TI ∨ c = TO ∨ c = i1 ∨ c = i2 := by simpa using hcm
      rcases e' with q | q | q | q | q
      · rw [q]; exact hzl
      · rw [q]; exact Heap.lt_size hTI
      · rw [q]; exact Heap.lt_size hTO
      · rw [q]; obtain ⟨_, e, _⟩ := h1.obj; exact Heap.lt_size e
      · rw [q]; obtain ⟨_, e, _⟩ := h2.obj; exact Heap.lt_size e
    rw [upd_ne (Nat.ne_of_lt (Nat.lt_of_lt_of_le hlt2 hT0))]
    exact (hf c hcm).1
  done := by
    intro X hP hw hK hc i pins s σ H E I hf st hg
    subst hP hw hK
    obtain ⟨hz, hTI, ⟨x0, y0, hTO⟩, h1, h2⟩ := st
    obtain ⟨xs, ys, hqx, hqy, hend⟩ := hg
    obtain ⟨its, rv, p, _⟩ := inv_sq I hqx
    obtain ⟨its2, rv2, p2, _⟩ := inv_sq I hqy
    have l1 := rv.length
    have l2 := rv2.length
    have hi : min its.toArray.size its2.toArray.size = i := by simp; omega
    have G := (GoesN.zip2 (prog := X.prog) (w := X.w) (A := X.A) (elts := elts) (x1 := kk) (pos := tpos) D (drawsB b1 (A := X.A.in1) (I.ok.hd hc) i1 a ne1 its.toArray) (drawsB b2 (A := X.A.in1) (I.ok.hd hc) i2 b ne2 its2.toArray)).stops s (Inv X pins σ H) E
    rw [hi] at G
    refine G ⟨hz, hTI, ⟨x0, y0, hTO⟩, ⟨h1, p⟩, ⟨h2, p2⟩⟩ fun h' tk hk htk => ?_
    exact I.turnedL (ch := [z, TI, TO, i1, i2]) (fun c o hb q => hk c o (fun q' => hb (by
        simp only [List.mem_cons, List.not_mem_nil, or_false] at q' ⊢
        rcases q' with q' | q' | q' | q'
        · exact .inl q'
        · exact .inr (.inr (.inl q'))
        · exact .inr (.inr (.inr (.inl q')))
        · exact .inr (.inr (.inr (.inr q'))))) q) hf
  self := fun A i s Q E st h => wpAny_pyIter_zip st.1 h
def iZipM (K : PySem.W.Frag) (ta : TA) : TI := fun σ H R => ta σ H fun vs H1 => ∃ a b xs ys b1 b2, vs = [.ref a, .ref b] ∧ Sq K b1 H1 a xs ∧ Sq K b2 H1 b ys ∧ R (ItzM K b1 b2 a b) H1
theorem pi_zipM {X : Cx} {e e2 : Expr} {ta : TA} {p pos tpos : Pos} {elts : List Expr} {kk : Nat} (hg : Gl X "zip") (hm : X.mg "zip" = none) (ha : PA X [e, e2] ta)
    (hs : starEach [e, e2] X.env = (false, eval e X.env) :: starEach [e2] X.env := by rfl) (hpl : (backTo pos (starEach [e2] X.env)).any (·.1) = false := by rfl) :
    PI X (.Tuple elts kk tpos) (.Call (.Name "zip" p) [e, e2] [] pos) (iZipM X.K ta) := by
  refine ⟨fun pins s σ H R I h => ?_⟩
  refine Call_ (ld_blt I hg hm PyProof.Rows.boot_zip (PyProof.Rows.callWith_type1 (thn (ha.run pos pins s σ H _ I h) fun us s1 ⟨vs, H1, I1, r1, q1⟩ => ?_) hs hpl))
  obtain ⟨a, b, xs, ys, b1, b2, ex, hqx, hqy, q⟩ := q1
  subst ex
  cases r1 with
  | cons r rr =>
    cases rr with
    | cons r' rr =>
      cases rr
      cases r
      cases r'
      obtain ⟨its, rv, p1, al⟩ := inv_sq I1 hqx
      obtain ⟨its2, rv2, p2, bl⟩ := inv_sq I1 hqy
      refine zip_begins2 (beginsB b1 a its.toArray) (beginsB b2 b its2.toArray) p1 p2 fun h' hz hTI hTO g1 g2 hsz hk => wpAny_pyIter_zip hz ?_
      have I2 : Inv X pins σ H1 { s1 with heap := h' } := I1.kept (t' := s1.toks) hk
      refine ⟨s1.heap.objs.size + 4, [s1.heap.objs.size + 4, s1.heap.objs.size + 2, s1.heap.objs.size + 3, s1.heap.objs.size, s1.heap.objs.size + 1], _, _, H1, rfl, I2, turn_zipM (zipM_sep al bl) (Nat.ne_of_lt al) (Nat.ne_of_lt (Nat.lt_succ_of_lt bl)), ⟨hz, hTI, ⟨_, _, hTO⟩, .new g1, .new g2⟩, fun c hcm => ?_, q⟩
      have hle : s1.heap.objs.size ≤ c := by
        simp only [List.mem_cons, List.not_mem_nil, or_false] at hcm
        rcases hcm with z | z | z | z | z <;> rw [z] <;> first | exact Nat.le_refl _ | exact Nat.le_add_right _ _
      exact I1.fpOk hle (I1.hok.fresh hle)
/-! three -/
def ItzM3 (K : PySem.W.Frag) (b1 b2 b3 : Bool) (a b d : Addr) : It :=
  ⟨fun i H => ∃ (xs ys zs : List V) (x y z : V), Sq K b1 H a xs ∧ Sq K b2 H b ys ∧ Sq K b3 H d zs ∧ xs[i]? = some x ∧ ys[i]? = some y ∧ zs[i]? = some z,
    fun i H v H' => ∃ T x y z, v = .ref T ∧ H T = none ∧ H' = upd H T (.tup [x, y, z]) ∧ (∀ xs, Sq K b1 H a xs → xs[i]? = some x) ∧ (∀ ys, Sq K b2 H b ys → ys[i]? = some y) ∧ ∀ zs, Sq K b3 H d zs → zs[i]? = some z,
    fun i H => ∃ xs ys zs : List V, Sq K b1 H a xs ∧ Sq K b2 H b ys ∧ Sq K b3 H d zs ∧ i = min (min xs.length ys.length) zs.length⟩
theorem zipM3_sep {n a b d : Nat} (ha : a < n) (hb : b < n) (hd : d < n) : ZipSep3 (n + 5) (n + 3) (n + 4) n (n + 1) (n + 2) [n, a] [n + 1, b] [n + 2, d] := by
  have k : ∀ (i x : Nat), x < n → ¬ n + i = x := fun i x h => by omega
  have k0 : ∀ (x : Nat), x < n → ¬ n = x := fun x h => by omega
  constructor <;> simp <;> first
    | exact k _ _ ha
    | exact k _ _ hb
    | exact k _ _ hd
    | exact k0 _ ha
    | exact k0 _ hb
    | exact k0 _ hd
theorem turn_zipM3 {P : Program} {w : World} {K : PySem.W.Frag} {elts : List Expr} {kk : Nat} {tpos : Pos} {b1 b2 b3 : Bool} {a b d z TI TO i1 i2 i3 : Addr} (D : ZipSep3 z TI TO i1 i2 i3 [i1, a] [i2, b] [i3, d]) (ne1 : a ≠ i1) (ne2 : b ≠ i2) (ne3 : d ≠ i3) :
    Turn P w K (.Tuple elts kk tpos) (ItzM3 K b1 b2 b3 a b d) [z, TI, TO, i1, i2, i3] z (fun i h => IsZip h z TI TO .none ∧ IsTupOf3 h TI (.ref i1) (.ref i2) (.ref i3) ∧ (∃ x y u, IsTupOf3 h TO x y u) ∧ HIt b1 h i1 a i ∧ HIt b2 h i2 b i ∧ HIt b3 h i3 d i) where
  mem := by simp
  obj := fun i h st c hc => by
    obtain ⟨hz, hTI, ⟨x, y, u, hTO⟩, h1, h2, h3⟩ := st
    have e' : c = z ∨ c = TI ∨ c = TO ∨ c = i1 ∨ c = i2 ∨ c = i3 := by simpa using hc
    rcases e' with q | q | q | q | q | q
    · rw [q]; exact ⟨_, hz, fun v q => nomatch q⟩
    · rw [q]; exact ⟨_, hTI, fun v q => nomatch q⟩
    · rw [q]; exact ⟨_, hTO, fun v q => nomatch q⟩
    · rw [q]; exact h1.obj
    · rw [q]; exact h2.obj
    · rw [q]; exact h3.obj
  keep := fun i h h' st k => by
    obtain ⟨hz, hTI, ⟨x, y, u, hTO⟩, h1, h2, h3⟩ := st
    exact ⟨k z (by simp) _ hz, k TI (by simp) _ hTI, ⟨x, y, u, k TO (by simp) _ hTO⟩, h1.at fun o q => k i1 (by simp) o q, h2.at fun o q => k i2 (by simp) o q, h3.at fun o q => k i3 (by simp) o q⟩
  item := by
    intro X hP hw hK hc i pins s σ H E I hf st hg
    subst hP hw hK
    obtain ⟨hz, hTI, ⟨x0, y0, u0, hTO⟩, h1, h2, h3⟩ := st
    obtain ⟨xs, ys, zs, x, y, v3, hqx, hqy, hqz, hx, hy, hv⟩ := hg
    obtain ⟨its, rv, p, _⟩ := inv_sq I hqx
    obtain ⟨its2, rv2, p2, _⟩ := inv_sq I hqy
    obtain ⟨its3, rv3, p3, _⟩ := inv_sq I hqz
    obtain ⟨u, hu, ru⟩ := rv.get hx
    obtain ⟨u2, hu2, ru2⟩ := rv2.get hy
    obtain ⟨u3, hu3, ru3⟩ := rv3.get hv
    have hlt : i < min (min its.toArray.size its2.toArray.size) its3.toArray.size := by
      have q1 := (List.getElem?_eq_some_iff.mp hu).1
      have q2 := (List.getElem?_eq_some_iff.mp hu2).1
      have q3 := (List.getElem?_eq_some_iff.mp hu3).1
      simp; omega
    have hzl : z < s.heap.objs.size := Heap.lt_size hz
    refine (GoesN.zip3 (A := X.A) (elts := elts) (x1 := kk) (pos := tpos) D (drawsB b1 (A := X.A.in1) (I.ok.hd hc) i1 a ne1 its.toArray) (drawsB b2 (A := X.A.in1) (I.ok.hd hc) i2 b ne2 its2.toArray) (drawsB b3 (A := X.A.in1) (I.ok.hd hc) i3 d ne3 its3.toArray)).goes i s _ E hlt ⟨hz, hTI, ⟨x0, y0, u0, hTO⟩, ⟨h1, p⟩, ⟨h2, p2⟩, ⟨h3, p3⟩⟩ fun v h' tk hY st' hk htk => ?_
    obtain ⟨T, w1, w2, w3, rfl, hT0, hw1, hw2, hw3, hT⟩ := hY
    obtain ⟨hz', hTI', hTO', ⟨h1', _⟩, ⟨h2', _⟩, ⟨h3', _⟩⟩ := st'
    have e1 : w1 = u := by
      have : its[i]? = some w1 := by simpa using hw1
      rw [hu] at this; cases this; rfl
    have e2 : w2 = u2 := by
      have : its2[i]? = some w2 := by simpa using hw2
      rw [hu2] at this; cases this; rfl
    have e3 : w3 = u3 := by
      have : its3[i]? = some w3 := by simpa using hw3
      rw [hu3] at this; cases this; rfl
    subst e1 e2 e3
    have new : ObjOk X.prog X.w (upd H T (.tup [x, y, v3])) h' T (.tup [x, y, v3]) :=
      ⟨by show 3 ≤ sizeLine; decide, [w1, w2, w3], .cons ru (.cons ru2 (.cons ru3 .nil)), hT⟩
    have I1 : Inv X pins σ (upd H T (.tup [x, y, v3])) { s with heap := h', toks := tk } :=
      I.turnedNew (ch := [z, TI, TO, i1, i2, i3]) (fun c o hb q => hk c o (fun q' => hb (by
        simp only [List.mem_cons, List.not_mem_nil, or_false] at q' ⊢
        rcases q' with q' | q' | q' | q' | q'
        · exact .inl q'
        · exact .inr (.inr (.inl q'))
        · exact .inr (.inr (.inr (.inl q')))
        · exact .inr (.inr (.inr (.inr (.inl q'))))
        · exact .inr (.inr (.inr (.inr (.inr q')))))) q) hf hT0 new
    refine ⟨.ref T, _, I1, rfl, ⟨T, x, y, v3, rfl, I.hok.fresh hT0, rfl, fun l hl => by rw [sq_inj I hl hqx]; exact hx, fun l hl => by rw [sq_inj I hl hqy]; exact hy, fun l hl => by rw [sq_inj I hl hqz]; exact hv⟩, ⟨hz', hTI', hTO', h1', h2', h3'⟩, fun c hcm => ?_⟩
    have hlt2 : c < s.heap.objs.size := by
      have e' : c = z ∨ c = TI ∨ c = TO ∨ c = i1 ∨ c = i2 ∨ c = i3 := by simpa using hcm
      rcases e' with q | q | q | q | q | q
      · rw [q]; exact hzl
      · rw [q]; exact Heap.lt_size hTI
      · rw [q]; exact Heap.lt_size hTO
      · rw [q]; obtain ⟨_, e, _⟩ := h1.obj; exact Heap.lt_size e
      · rw [q]; obtain ⟨_, e, _⟩ := h2.obj; exact Heap.lt_size e
      · rw [q]; obtain ⟨_, e, _⟩ := h3.obj; exact Heap.lt_size e
    rw [upd_ne (Nat.ne_of_lt (Nat.lt_of_lt_of_le hlt2 hT0))]
    exact (hf c hcm).1
  done := by
    intro X hP hw hK hc i pins s σ H E I hf st hg
    subst hP hw hK
    obtain ⟨hz, hTI, ⟨x0, y0, u0, hTO⟩, h1, h2, h3⟩ := st
    obtain ⟨xs, ys, zs, hqx, hqy, hqz, hend⟩ := hg
    obtain ⟨its, rv, p, _⟩ := inv_sq I hqx
    obtain ⟨its2, rv2, p2, _⟩ := inv_sq I hqy
    obtain ⟨its3, rv3, p3, _⟩ := inv_sq I hqz
    have l1 := rv.length
    have l2 := rv2.length
    have l3 := rv3.length
    have hi : min (min its.toArray.size its2.toArray.size) its3.toArray.size = i := by simp; omega
    have G := (GoesN.zip3 (prog := X.prog) (w := X.w) (A := X.A) (elts := elts) (x1 := kk) (pos := tpos) D (drawsB b1 (A := X.A.in1) (I.ok.hd hc) i1 a ne1 its.toArray) (drawsB b2 (A := X.A.in1) (I.ok.hd hc) i2 b ne2 its2.toArray) (drawsB b3 (A := X.A.in1) (I.ok.hd hc) i3 d ne3 its3.toArray)).stops s (Inv X pins σ H) E
    rw [hi] at G
    refine G ⟨hz, hTI, ⟨x0, y0, u0, hTO⟩, ⟨h1, p⟩, ⟨h2, p2⟩, ⟨h3, p3⟩⟩ fun h' tk hk htk => ?_
    exact I.turnedL (ch := [z, TI, TO, i1, i2, i3]) (fun c o hb q => hk c o (fun q' => hb (by
        simp only [List.mem_cons, List.not_mem_nil, or_false] at q' ⊢
        rcases q' with q' | q' | q' | q' | q'
        · exact .inl q'
        · exact .inr (.inr (.inl q'))
        · exact .inr (.inr (.inr (.inl q')))
        · exact .inr (.inr (.inr (.inr (.inl q'))))
        · exact .inr (.inr (.inr (.inr (.inr q')))))) q) hf
  self := fun A i s Q E st h => wpAny_pyIter_zip st.1 h
def iZipM3 (K : PySem.W.Frag) (ta : TA) : TI := fun σ H R => ta σ H fun vs H1 => ∃ a b d xs ys zs b1 b2 b3, vs = [.ref a, .ref b, .ref d] ∧ Sq K b1 H1 a xs ∧ Sq K b2 H1 b ys ∧ Sq K b3 H1 d zs ∧ R (ItzM3 K b1 b2 b3 a b d) H1
theorem pi_zipM3 {X : Cx} {e e2 e3 : Expr} {ta : TA} {p pos tpos : Pos} {elts : List Expr} {kk : Nat} (hg : Gl X "zip") (hm : X.mg "zip" = none) (ha : PA X [e, e2, e3] ta)
    (hs : starEach [e, e2, e3] X.env = (false, eval e X.env) :: starEach [e2, e3] X.env := by rfl) (hpl : (backTo pos (starEach [e2, e3] X.env)).any (·.1) = false := by rfl) :
    PI X (.Tuple elts kk tpos) (.Call (.Name "zip" p) [e, e2, e3] [] pos) (iZipM3 X.K ta) := by
  refine ⟨fun pins s σ H R I h => ?_⟩
  refine Call_ (ld_blt I hg hm PyProof.Rows.boot_zip (PyProof.Rows.callWith_type1 (thn (ha.run pos pins s σ H _ I h) fun us s1 ⟨vs, H1, I1, r1, q1⟩ => ?_) hs hpl))
  obtain ⟨a, b, d, xs, ys, zs, b1, b2, b3, ex, hqx, hqy, hqz, q⟩ := q1
  subst ex
  cases r1 with
  | cons r rr =>
    cases rr with
    | cons r' rr =>
      cases rr with
      | cons r'' rr =>
        cases rr
        cases r
        cases r'
        cases r''
        obtain ⟨its, rv, p1, al⟩ := inv_sq I1 hqx
        obtain ⟨its2, rv2, p2, bl⟩ := inv_sq I1 hqy
        obtain ⟨its3, rv3, p3, dl⟩ := inv_sq I1 hqz
        refine zip_begins3 (beginsB b1 a its.toArray) (beginsB b2 b its2.toArray) (beginsB b3 d its3.toArray) p1 p2 p3 fun h' hz hTI hTO g1 g2 g3 hsz hk => wpAny_pyIter_zip hz ?_
        have I2 : Inv X pins σ H1 { s1 with heap := h' } := I1.kept (t' := s1.toks) hk
        refine ⟨s1.heap.objs.size + 5, [s1.heap.objs.size + 5, s1.heap.objs.size + 3, s1.heap.objs.size + 4, s1.heap.objs.size, s1.heap.objs.size + 1, s1.heap.objs.size + 2], _, _, H1, rfl, I2, turn_zipM3 (zipM3_sep al bl dl) (Nat.ne_of_lt al) (Nat.ne_of_lt (Nat.lt_succ_of_lt bl)) (Nat.ne_of_lt (Nat.lt_succ_of_lt (Nat.lt_succ_of_lt dl))), ⟨hz, hTI, ⟨_, _, _, hTO⟩, .new g1, .new g2, .new g3⟩, fun c hcm => ?_, q⟩
        have hle : s1.heap.objs.size ≤ c := by
          simp only [List.mem_cons, List.not_mem_nil, or_false] at hcm
          rcases hcm with z | z | z | z | z | z <;> rw [z] <;> first | exact Nat.le_refl _ | exact Nat.le_add_right _ _
        exact I1.fpOk hle (I1.hok.fresh hle)
end Mini

namespace Mini
open PySem L2
abbrev Own := Addr → Prop
mutual
def RepD (K : PySem.W.Frag) (O : Own) (H : Hp) : D → V → Prop
  | .none, v => v = .non
  | .bool b, v => v = .bl b
  | .int i, v => v = .int i
  | .str s, v => v = .str s
  | .tuple ds, v => ∃ a vs, v = .ref a ∧ SqT K H a vs ∧ RepDs K O H ds vs
  | .list ds, v => ∃ a vs, v = .ref a ∧ H a = some (.lst vs) ∧ ¬ O a ∧ RepDs K O H ds vs
  | .dict _, _ => False
def RepDs (K : PySem.W.Frag) (O : Own) (H : Hp) : List D → List V → Prop
  | [], vs => vs = []
  | d :: ds, vs => ∃ v r, vs = v :: r ∧ RepD K O H d v ∧ RepDs K O H ds r
end
/-- what may be owned -/
inductive OwnO : HO → Prop where
  | l (xs : List V) : OwnO (.lst xs)
  | k (kvs : List (L2.Key × V)) : OwnO (.dK kvs)
  | t (kvs : List (List L2.Key × V)) : OwnO (.dT kvs)
def OwnOk (O : Own) (H : Hp) : Prop := ∀ b, O b → ∃ u, H b = some u ∧ OwnO u
/-- what stays as it is -/
structure Evo (O : Own) (H : Hp) (O' : Own) (H' : Hp) : Prop where
  own : OwnOk O H
  keepH : ∀ b o, H b = some o → ¬ O b → H' b = some o
  newO : ∀ b, O' b → O b ∨ H b = none
  there : ∀ b, H b ≠ none → H' b ≠ none
theorem Rd.evo {O O' : Own} {H H' : Hp} (e : Evo O H O' H') {a : Addr} {u : HO} (r : Rd H a u) (hn : ¬ O a) : Rd H' a u := by
  rcases r with r | ⟨o, r⟩
  · exact .inl (e.keepH a _ r hn)
  · exact .inr ⟨o, e.keepH a _ r hn⟩
theorem SqT.evo {K : PySem.W.Frag} {O O' : Own} {H H' : Hp} (e : Evo O H O' H') {a : Addr} {xs : List V} (r : SqT K H a xs) : SqT K H' a xs := by
  rcases r with r | r
  · refine .inl (Rd.evo e r fun ho => ?_)
    obtain ⟨ys, h, hw⟩ := e.own a ho
    rcases r with r | ⟨o, r⟩ <;> (rw [h] at r; cases r; cases hw)
  · exact .inr r
mutual
theorem RepD.evo {K : PySem.W.Frag} {O O' : Own} {H H' : Hp} (e : Evo O H O' H') : ∀ (d : D) (v : V), RepD K O H d v → RepD K O' H' d v
  | .none, v, h => h
  | .bool _, v, h => h
  | .int _, v, h => h
  | .str _, v, h => h
  | .tuple ds, v, h => by
    simp only [RepD] at h ⊢
    obtain ⟨a, vs, rfl, h1, h2⟩ := h
    exact ⟨a, vs, rfl, SqT.evo e h1, RepDs.evo e ds vs h2⟩
  | .list ds, v, h => by
    simp only [RepD] at h ⊢
    obtain ⟨a, vs, rfl, h1, h3, h2⟩ := h
    refine ⟨a, vs, rfl, e.keepH _ _ h1 h3, fun ho => ?_, RepDs.evo e ds vs h2⟩
    rcases e.newO a ho with z | z
    · exact h3 z
    · rw [z] at h1; cases h1
  | .dict _, v, h => h
theorem RepDs.evo {K : PySem.W.Frag} {O O' : Own} {H H' : Hp} (e : Evo O H O' H') : ∀ (ds : List D) (vs : List V), RepDs K O H ds vs → RepDs K O' H' ds vs
  | [], vs, h => h
  | d :: ds, vs, h => by
    simp only [RepDs] at h ⊢
    obtain ⟨v, r, rfl, h1, h2⟩ := h
    exact ⟨v, r, rfl, RepD.evo e d v h1, RepDs.evo e ds r h2⟩
end
section
variable {K : PySem.W.Frag} {O O' : Own} {H H' : Hp}
theorem RepDs.length : ∀ {ds : List D} {vs : List V}, RepDs K O H ds vs → ds.length = vs.length
  | [], vs, h => by simp only [RepDs] at h; rw [h]; rfl
  | d :: ds, vs, h => by
    simp only [RepDs] at h
    obtain ⟨v, r, rfl, h1, h2⟩ := h
    simp [RepDs.length h2]
theorem RepDs.get : ∀ {ds : List D} {vs : List V} {i : Nat} {d : D}, RepDs K O H ds vs → ds[i]? = some d → ∃ v, vs[i]? = some v ∧ RepD K O H d v
  | [], _, i, d, _, e => by simp at e
  | x :: ds, vs, i, d, h, e => by
    simp only [RepDs] at h
    obtain ⟨v, r, rfl, h1, h2⟩ := h
    cases i with
    | zero => simp at e; subst e; exact ⟨v, by simp, h1⟩
    | succ i => simpa using RepDs.get (i := i) h2 (by simpa using e)
theorem RepDs.append : ∀ {ds es : List D} {vs us : List V}, RepDs K O H ds vs → RepDs K O H es us → RepDs K O H (ds ++ es) (vs ++ us)
  | [], es, vs, us, h, g => by simp only [RepDs] at h; subst h; exact g
  | d :: ds, es, vs, us, h, g => by
    simp only [RepDs, List.cons_append] at h ⊢
    obtain ⟨v, r, rfl, h1, h2⟩ := h
    exact ⟨v, r ++ us, rfl, h1, RepDs.append h2 g⟩
theorem RepDs.set : ∀ {ds : List D} {vs : List V} {d : D} {v : V} (j : Nat), RepDs K O H ds vs → RepD K O H d v → RepDs K O H (ds.set j d) (vs.set j v)
  | [], vs, d, v, j, h, g => by simp only [RepDs] at h; subst h; simp [RepDs]
  | x :: ds, vs, d, v, j, h, g => by
    simp only [RepDs] at h
    obtain ⟨y, r, rfl, h1, h2⟩ := h
    cases j with
    | zero => exact ⟨v, r, rfl, g, h2⟩
    | succ j => exact ⟨y, r.set j v, rfl, h1, RepDs.set j h2 g⟩
theorem RepDs.drop : ∀ {ds : List D} {vs : List V} (n : Nat), RepDs K O H ds vs → RepDs K O H (ds.drop n) (vs.drop n)
  | ds, vs, 0, h => by simpa using h
  | [], vs, n + 1, h => by simp only [RepDs] at h; subst h; simp [RepDs]
  | d :: ds, vs, n + 1, h => by
    simp only [RepDs] at h
    obtain ⟨y, r, rfl, h1, h2⟩ := h
    simpa using RepDs.drop n h2
theorem RepDs.take : ∀ {ds : List D} {vs : List V} (n : Nat), RepDs K O H ds vs → RepDs K O H (ds.take n) (vs.take n)
  | ds, vs, 0, h => by simp [RepDs]
  | [], vs, n + 1, h => by simp only [RepDs] at h; subst h; simp [RepDs]
  | d :: ds, vs, n + 1, h => by
    simp only [RepDs] at h
    obtain ⟨y, r, rfl, h1, h2⟩ := h
    exact ⟨y, r.take n, rfl, h1, RepDs.take n h2⟩
theorem RepDs.flat : ∀ {ds : List D} {vs : List V} (n : Nat), RepDs K O H ds vs → RepDs K O H (List.replicate n ds).flatten (List.replicate n vs).flatten
  | ds, vs, 0, h => by simp [RepDs]
  | ds, vs, n + 1, h => by
    simp only [List.replicate_succ, List.flatten_cons]
    exact RepDs.append h (RepDs.flat n h)
theorem RepDs.ints : ∀ (ns : List Int), RepDs K O H (ns.map PyData.int) (ns.map V.int)
  | [] => by simp [RepDs]
  | n :: ns => ⟨.int n, _, rfl, rfl, RepDs.ints ns⟩
theorem RepDs.intsOf : ∀ {ds : List D} {vs : List V} {ns : List Int}, RepDs K O H ds vs → intsL ds = some ns → vs = ns.map V.int
  | [], vs, ns, h, e => by simp only [RepDs] at h; subst h; simp [intsL] at e; subst e; rfl
  | d :: ds, vs, ns, h, e => by
    simp only [RepDs] at h
    obtain ⟨v, r, rfl, h1, h2⟩ := h
    cases d with
    | int i =>
      simp only [intsL, Option.map_eq_some_iff] at e
      obtain ⟨m, e1, rfl⟩ := e
      simp only [RepD] at h1
      subst h1
      rw [RepDs.intsOf h2 e1]; rfl
    | _ => simp [intsL] at e
theorem RepDs.boolsOf : ∀ {ds : List D} {vs : List V} {ns : List Bool}, RepDs K O H ds vs → boolsL ds = some ns → vs = ns.map V.bl
  | [], vs, ns, h, e => by simp only [RepDs] at h; subst h; simp [boolsL] at e; subst e; rfl
  | d :: ds, vs, ns, h, e => by
    simp only [RepDs] at h
    obtain ⟨v, r, rfl, h1, h2⟩ := h
    cases d with
    | bool i =>
      simp only [boolsL, Option.map_eq_some_iff] at e
      obtain ⟨m, e1, rfl⟩ := e
      simp only [RepD] at h1
      subst h1
      rw [RepDs.boolsOf h2 e1]; rfl
    | _ => simp [boolsL] at e
end
/-- the script's list -/
def ScL (K : PySem.W.Frag) (H : Hp) (a : Addr) (xs : List V) : Prop := (∃ o, H a = some (.frz o (.lst xs))) ∨
    ∃ (o : Obj) (its : Array Value) (n : Nat), K.lookup a = some o ∧ o.cls = .type "list" ∧ o.dict = none ∧ o.data = .seq its n ∧ its.size ≤ sizeLine ∧ Vals xs its.toList
theorem ScL.evo {K : PySem.W.Frag} {O O' : Own} {H H' : Hp} (e : Evo O H O' H') {a : Addr} {xs : List V} (r : ScL K H a xs) : ScL K H' a xs := by
  rcases r with ⟨o, r⟩ | r
  · refine .inl ⟨o, e.keepH _ _ r fun ho => ?_⟩
    obtain ⟨ys, h, hw⟩ := e.own a ho
    rw [h] at r; cases r; cases hw
  · exact .inr r
theorem ScL.sq {K : PySem.W.Frag} {H : Hp} {a : Addr} {xs : List V} (r : ScL K H a xs) : SqL K H a xs := by
  rcases r with ⟨o, r⟩ | r
  · exact .inl (.inr ⟨o, r⟩)
  · exact .inr r
/-- a slot's (or a result's) content -/
def RepS (K : PySem.W.Frag) (O : Own) (H : Hp) : Sl → V → Prop
  | .no, _ => True
  | .v d, v => RepD K O H d v
  | .l xs, v => ∃ a vs, v = .ref a ∧ H a = some (.lst vs) ∧ O a ∧ RepDs K O H xs vs
  | .sc ns, v => ∃ a, v = .ref a ∧ ScL K H a (ns.map V.int)
  | .dk kvs, v => ∃ a us, v = .ref a ∧ H a = some (.dK us) ∧ O a ∧ us.map (·.1) = kvs.map (fun p => Sum.inl p.1) ∧ RepDs K O H (kvs.map (·.2)) (us.map (·.2))
  | .dt kvs, v => ∃ a us, v = .ref a ∧ H a = some (.dT us) ∧ O a ∧ us.map (·.1) = kvs.map (fun p => p.1.map Sum.inl) ∧ RepDs K O H (kvs.map (·.2)) (us.map (·.2))
  | .bx cs rs, v => ∃ a c, v = .ref a ∧ H a = some (.lst (.ref c :: rs.map V.int)) ∧ H c = some (.lst (cs.map V.int)) ∧ O a ∧ O c
/-- the addresses it owns -/
def Fp (H : Hp) : Sl → V → Addr → Prop
  | .l _, v, b => v = .ref b
  | .dk _, v, b => v = .ref b
  | .dt _, v, b => v = .ref b
  | .bx _ _, v, b => v = .ref b ∨ ∃ a r, v = .ref a ∧ H a = some (.lst (.ref b :: r))
  | _, _, _ => False
theorem Fp.own {K : PySem.W.Frag} {O : Own} {H : Hp} {s : Sl} {v : V} {b : Addr} (r : RepS K O H s v) (f : Fp H s v b) : O b := by
  cases s with
  | no => cases f
  | v d => cases f
  | sc ns => cases f
  | l xs => obtain ⟨a, vs, rfl, h1, h2, _⟩ := r; cases f; exact h2
  | dk xs => obtain ⟨a, vs, rfl, h1, h2, _⟩ := r; cases f; exact h2
  | dt xs => obtain ⟨a, vs, rfl, h1, h2, _⟩ := r; cases f; exact h2
  | bx cs rs =>
    obtain ⟨a, c, rfl, h1, h2, h3, h4⟩ := r
    rcases f with f | ⟨a', r', f, g⟩
    · cases f; exact h3
    · cases f; rw [h1] at g; cases g; exact h4
/-- the environment over the frame's slots -/
structure W (K : PySem.W.Frag) (O : Own) (H : Hp) (env : En) (σ : St) : Prop where
  own : OwnOk O H
  len : env.length = σ.length
  rep : ∀ (i : Nat) (s : Sl), env[i]? = some s → s = .no ∨ ∃ v, σ[i]? = some (some v) ∧ RepS K O H s v
  sep : ∀ (i j : Nat) (s t : Sl) (v u : V) (b : Addr), i ≠ j → env[i]? = some s → env[j]? = some t → σ[i]? = some (some v) → σ[j]? = some (some u) → Fp H s v b → Fp H t u b → False
def FpE (H : Hp) (env : En) (σ : St) (b : Addr) : Prop := ∃ (i : Nat) (s : Sl) (v : V), env[i]? = some s ∧ σ[i]? = some (some v) ∧ Fp H s v b
theorem W.fpOwn {K : PySem.W.Frag} {O : Own} {H : Hp} {env : En} {σ : St} (w : W K O H env σ) {b : Addr} (f : FpE H env σ b) : O b := by
  obtain ⟨i, s, v, h1, h2, h3⟩ := f
  rcases w.rep i s h1 with rfl | ⟨u, h4, h5⟩
  · cases h3
  · rw [h2] at h4; cases h4; exact Fp.own h5 h3
/-- from (O, H) to (O', H'): what is owned out of F stays; F' is of F or new -/
structure Step (O : Own) (H : Hp) (F : Own) (O' : Own) (H' : Hp) (F' : Own) : Prop where
  evo : Evo O H O' H'
  own : OwnOk O' H'
  keepO : ∀ b, O b → ¬ F b → O' b ∧ H' b = H b
  fps : ∀ b, F' b → F b ∨ H b = none
theorem Step.refl {O : Own} {H : Hp} {F : Own} (h : OwnOk O H) : Step O H F O H F :=
  ⟨⟨h, fun _ _ e _ => e, fun _ e => .inl e, fun _ e => e⟩, h, fun _ e _ => ⟨e, rfl⟩, fun _ e => .inl e⟩
theorem Step.trans {O O1 O2 : Own} {H H1 H2 : Hp} {F F1 G1 F2 : Own} (a : Step O H F O1 H1 F1) (b : Step O1 H1 G1 O2 H2 F2) (s : ∀ x, G1 x → F1 x) : Step O H F O2 H2 F2 := by
  refine ⟨⟨a.evo.own, fun x o e n => ?_, fun x e => ?_, fun x e => b.evo.there x (a.evo.there x e)⟩, b.own, fun x e n => ?_, fun x e => ?_⟩
  · refine b.evo.keepH x o (a.evo.keepH x o e n) fun z => ?_
    rcases a.evo.newO x z with z | z
    · exact n z
    · rw [z] at e; cases e
  · rcases b.evo.newO x e with z | z
    · exact a.evo.newO x z
    · refine .inr ?_
      cases q : H x with
      | none => rfl
      | some u => exact absurd z (a.evo.there x (by rw [q]; exact Option.some_ne_none _))
  · obtain ⟨h1, h2⟩ := a.keepO x e n
    have nf : ¬ G1 x := fun z => by
      rcases a.fps x (s x z) with z | z
      · exact n z
      · obtain ⟨xs, q, _⟩ := a.evo.own x e
        rw [q] at z; cases z
    obtain ⟨h3, h4⟩ := b.keepO x h1 nf
    exact ⟨h3, h4.trans h2⟩
  · rcases b.fps x e with z | z
    · exact a.fps x (s x z)
    · refine .inr ?_
      cases q : H x with
      | none => rfl
      | some u => exact absurd z (a.evo.there x (by rw [q]; exact Option.some_ne_none _))
theorem Step.sub {O O' : Own} {H H' : Hp} {F F' G : Own} (a : Step O H F O' H' F') (s : ∀ x, G x → F' x) : Step O H F O' H' G := ⟨a.evo, a.own, a.keepO, fun x e => a.fps x (s x e)⟩
theorem Step.wide {O O' : Own} {H H' : Hp} {F F' G : Own} (a : Step O H F O' H' F') (s : ∀ x, F x → G x) : Step O H G O' H' F' :=
  ⟨a.evo, a.own, fun x e n => a.keepO x e fun z => n (s x z), fun x e => (a.fps x e).imp (s x) id⟩
/-- nothing owned is touched -/
def F0 : Own := fun _ => False
section
variable {K : PySem.W.Frag} {O O' : Own} {H H' : Hp} {env : En} {σ : St} {F' : Own}
/-- a slot out of the touched part -/
theorem RepS.keep {F : Own} (st : Step O H F O' H' F') {s : Sl} {v : V} (r : RepS K O H s v) (n : ∀ b, Fp H s v b → ¬ F b) : RepS K O' H' s v ∧ ∀ b, Fp H' s v b → Fp H s v b := by
  cases s with
  | no => exact ⟨trivial, fun b f => f.elim⟩
  | v d => exact ⟨RepD.evo st.evo d v r, fun b f => f.elim⟩
  | sc ns => obtain ⟨a, rfl, h⟩ := r; exact ⟨⟨a, rfl, ScL.evo st.evo h⟩, fun b f => f.elim⟩
  | l xs =>
    obtain ⟨a, vs, rfl, h1, h2, h3⟩ := r
    obtain ⟨k1, k2⟩ := st.keepO a h2 (n a rfl)
    exact ⟨⟨a, vs, rfl, k2.trans h1, k1, RepDs.evo st.evo _ _ h3⟩, fun b f => f⟩
  | dk xs =>
    obtain ⟨a, vs, rfl, h1, h2, h3, h4⟩ := r
    obtain ⟨k1, k2⟩ := st.keepO a h2 (n a rfl)
    exact ⟨⟨a, vs, rfl, k2.trans h1, k1, h3, RepDs.evo st.evo _ _ h4⟩, fun b f => f⟩
  | dt xs =>
    obtain ⟨a, vs, rfl, h1, h2, h3, h4⟩ := r
    obtain ⟨k1, k2⟩ := st.keepO a h2 (n a rfl)
    exact ⟨⟨a, vs, rfl, k2.trans h1, k1, h3, RepDs.evo st.evo _ _ h4⟩, fun b f => f⟩
  | bx cs rs =>
    obtain ⟨a, c, rfl, h1, h2, h3, h4⟩ := r
    obtain ⟨k1, k2⟩ := st.keepO a h3 (n a (.inl rfl))
    obtain ⟨m1, m2⟩ := st.keepO c h4 (n c (.inr ⟨a, _, rfl, h1⟩))
    refine ⟨⟨a, c, rfl, k2.trans h1, m2.trans h2, k1, m1⟩, fun b f => ?_⟩
    rcases f with f | ⟨a', r', f, g⟩
    · exact .inl f
    · cases f
      rw [k2.trans h1] at g; cases g
      exact .inr ⟨a, _, rfl, h1⟩
theorem W.keep (w : W K O H env σ) (st : Step O H F0 O' H' F') : W K O' H' env σ ∧ ∀ b, FpE H' env σ b → FpE H env σ b := by
  have kp : ∀ (i : Nat) (s : Sl) (v : V), env[i]? = some s → σ[i]? = some (some v) → s = .no ∨ (RepS K O' H' s v ∧ ∀ b, Fp H' s v b → Fp H s v b) := fun i s v e1 e2 => by
    rcases w.rep i s e1 with z | ⟨u, h1, h2⟩
    · exact .inl z
    · rw [e2] at h1; cases h1
      exact .inr (RepS.keep st h2 fun _ _ z => z)
  have fb : ∀ (i : Nat) (s : Sl) (v : V) (b : Addr), env[i]? = some s → σ[i]? = some (some v) → Fp H' s v b → Fp H s v b := fun i s v b e1 e2 f => by
    rcases kp i s v e1 e2 with rfl | h
    · exact f.elim
    · exact h.2 b f
  refine ⟨⟨st.own, w.len, fun i s e => ?_, fun i j s t v u b n e1 e2 e3 e4 f1 f2 => w.sep i j s t v u b n e1 e2 e3 e4 (fb i s v b e1 e3 f1) (fb j t u b e2 e4 f2)⟩, fun b ⟨i, s, v, e1, e2, f⟩ => ⟨i, s, v, e1, e2, fb i s v b e1 e2 f⟩⟩
  rcases w.rep i s e with z | ⟨v, h1, h2⟩
  · exact .inl z
  · rcases kp i s v e h1 with z | z
    · exact .inl z
    · exact .inr ⟨v, h1, z.1⟩
/-- a result r at v beside the environment -/
structure WR (K : PySem.W.Frag) (O : Own) (H : Hp) (env : En) (σ : St) (r : Sl) (v : V) : Prop where
  w : W K O H env σ
  val : RepS K O H r v
  sep : ∀ b, Fp H r v b → ¬ FpE H env σ b
def FpR (H : Hp) (env : En) (σ : St) (r : Sl) (v : V) : Own := fun b => FpE H env σ b ∨ Fp H r v b
end
/-! readings -/
section
variable (K : PySem.W.Frag)
def tE (f : En → Option (Sl × En)) : TE := fun σ H Q => ∃ O env r env', W K O H env σ ∧ f env = some (r, env') ∧
  ∀ O' H' v, Step O H (FpE H env σ) O' H' (FpR H' env' σ r v) → WR K O' H' env' σ r v → Q v H'
def tD (f : En → Option (D × En)) : TE := fun σ H Q => ∃ O env d env', W K O H env σ ∧ f env = some (d, env') ∧
  ∀ O' H' v, Step O H (FpE H env σ) O' H' (FpE H' env' σ) → W K O' H' env' σ → RepD K O' H' d v → Q v H'
def RepO (O : Own) (H : Hp) (σ : St) : Opd → V → Prop
  | .d d, v => RepD K O H d v
  | .s i, v => σ[i]? = some (some v)
def tO (f : En → Option (Opd × En)) : TE := fun σ H Q => ∃ O env p env', W K O H env σ ∧ f env = some (p, env') ∧
  ∀ O' H' v, Step O H (FpE H env σ) O' H' (FpE H' env' σ) → W K O' H' env' σ → RepO K O' H' σ p v → Q v H'
def tT (f : En → Option (Bool × En)) : TT := fun σ H Q => ∃ O env b env', W K O H env σ ∧ f env = some (b, env') ∧
  ∀ O' H', Step O H (FpE H env σ) O' H' (FpE H' env' σ) → W K O' H' env' σ → Q b H'
def tAr (f : En → Option (List D × En)) : TA := fun σ H Q => ∃ O env ds env', W K O H env σ ∧ f env = some (ds, env') ∧
  ∀ O' H' vs, Step O H (FpE H env σ) O' H' (FpE H' env' σ) → W K O' H' env' σ → RepDs K O' H' ds vs → Q vs H'
def RepOs (O : Own) (H : Hp) (σ : St) : List Opd → List V → Prop
  | [], vs => vs = []
  | p :: ps, vs => ∃ v r, vs = v :: r ∧ RepO K O H σ p v ∧ RepOs O H σ ps r
def tOs (f : En → Option (List Opd × En)) : TA := fun σ H Q => ∃ O env ps env', W K O H env σ ∧ f env = some (ps, env') ∧
  ∀ O' H' vs, Step O H (FpE H env σ) O' H' (FpE H' env' σ) → W K O' H' env' σ → RepOs K O' H' σ ps vs → Q vs H'
/-- a data value that may be looked at: frozen, or owned by a slot -/
def RepP (O : Own) (H : Hp) (d : D) (v : V) : Prop := RepD K O H d v ∨ ∃ xs a vs, d = .list xs ∧ v = .ref a ∧ H a = some (.lst vs) ∧ RepDs K O H xs vs
/-- what an operation may hand back -/
def RP (O : Own) (H : Hp) (r : Sl) (Q : VK) : Prop := ∀ O' H' v, Step O H F0 O' H' (fun b => Fp H' r v b) → RepS K O' H' r v → Q v H'
end
section
variable {K : PySem.W.Frag} {O O' : Own} {H H' : Hp} {env : En} {σ : St} {Q : VK}
theorem RepO.evo (e : Evo O H O' H') : ∀ {p : Opd} {v : V}, RepO K O H σ p v → RepO K O' H' σ p v
  | .d d, v, h => RepD.evo e d v h
  | .s i, v, h => h
theorem RepOs.evo (e : Evo O H O' H') : ∀ {ps : List Opd} {vs : List V}, RepOs K O H σ ps vs → RepOs K O' H' σ ps vs
  | [], vs, h => h
  | p :: ps, vs, ⟨v, r, e1, h1, h2⟩ => ⟨v, r, e1, RepO.evo e h1, RepOs.evo e h2⟩
theorem RepS.rd {s : Sl} {v : V} {d : D} (r : RepS K O H s v) (e : s.rd = some d) : RepP K O H d v := by
  cases s with
  | no => cases e
  | v d' => cases e; exact .inl r
  | l xs => cases e; obtain ⟨a, vs, rfl, h1, h2, h3⟩ := r; exact .inr ⟨xs, a, vs, rfl, rfl, h1, h3⟩
  | bx _ _ => cases e
  | sc _ => cases e
  | dk _ => cases e
  | dt _ => cases e
theorem RepO.get (w : W K O H env σ) {p : Opd} {v : V} {d : D} (r : RepO K O H σ p v) (e : p.get env = some d) : RepP K O H d v := by
  cases p with
  | d x => cases e; exact .inl r
  | s i =>
    simp only [Opd.get, Option.bind_eq_some_iff] at e
    obtain ⟨s, e1, e2⟩ := e
    rcases w.rep i s e1 with rfl | ⟨u, h1, h2⟩
    · cases e2
    · have r' : σ[i]? = some (some v) := r
      rw [h1] at r'; cases r'
      exact RepS.rd h2 e2
def RepPs (K : PySem.W.Frag) (O : Own) (H : Hp) : List D → List V → Prop
  | [], vs => vs = []
  | d :: ds, vs => ∃ v r, vs = v :: r ∧ RepP K O H d v ∧ RepPs K O H ds r
theorem RepOs.gets (w : W K O H env σ) : ∀ {ps : List Opd} {vs : List V} {ds : List D}, RepOs K O H σ ps vs → gets env ps = some ds → RepPs K O H ds vs
  | [], vs, ds, h, e => by
    have e' : ([] : List D) = ds := Option.some.inj e
    subst e'; exact h
  | p :: ps, vs, ds, h, e => by
    obtain ⟨v, r, rfl, h1, h2⟩ := h
    have e' : ((p.get env).bind fun d => (Mini.gets env ps).map (d :: ·)) = some ds := e
    simp only [Option.bind_eq_some_iff, Option.map_eq_some_iff] at e'
    obtain ⟨d, e1, es, e2, rfl⟩ := e'
    exact ⟨v, r, rfl, RepO.get w h1 e1, RepOs.gets w h2 e2⟩
/-! results -/
theorem RP.same {d : D} {v : V} (h : OwnOk O H) (q : RP K O H (.v d) Q) (r : RepD K O H d v) : Q v H :=
  q O H v ⟨⟨h, fun _ _ e _ => e, fun _ e => .inl e, fun _ e => e⟩, h, fun _ e _ => ⟨e, rfl⟩, fun _ e => e.elim⟩ r
theorem OwnOk.new {p : Addr} {o : HO} (h : OwnOk O H) (hp : H p = none) : Step O H F0 O (upd H p o) F0 := by
  have ne : ∀ b u, H b = some u → b ≠ p := fun b u e z => by rw [z, hp] at e; cases e
  refine ⟨⟨h, fun b u e _ => by rw [upd_ne (ne b u e)]; exact e, fun b e => .inl e, fun b e => ?_⟩, fun b e => ?_, fun b e _ => ?_, fun _ e => e.elim⟩
  · cases q : H b with
    | none => exact absurd q e
    | some u => rw [upd_ne (ne b u q), q]; exact Option.some_ne_none _
  · obtain ⟨xs, q, hw⟩ := h b e
    exact ⟨xs, by rw [upd_ne (ne b _ q)]; exact q, hw⟩
  · obtain ⟨xs, q, _⟩ := h b e
    exact ⟨e, upd_ne (ne b _ q)⟩
theorem RP.tup {ds : List D} {vs : List V} (h : OwnOk O H) (q : RP K O H (.v (.tuple ds)) Q) (r : RepDs K O H ds vs) (p : Addr) (hp : H p = none) : Q (.ref p) (upd H p (.tup vs)) :=
  q O _ _ ((OwnOk.new h hp).sub fun _ e => e.elim) (by
    show RepD K O _ _ _
    simp only [RepD]
    exact ⟨p, vs, rfl, SqT.of upd_same, RepDs.evo (OwnOk.new h hp).evo _ _ r⟩)
theorem RP.lst {ds : List D} {vs : List V} (h : OwnOk O H) (q : RP K O H (.l ds) Q) (r : RepDs K O H ds vs) (p : Addr) (hp : H p = none) : Q (.ref p) (upd H p (.lst vs)) := by
  have n := OwnOk.new (o := .lst vs) h hp
  have st : Step O H F0 (fun b => O b ∨ b = p) (upd H p (.lst vs)) (fun b => Fp (upd H p (.lst vs)) (.l ds) (.ref p) b) := by
    refine ⟨⟨h, n.evo.keepH, fun b e => ?_, n.evo.there⟩, fun b e => ?_, fun b e f => ⟨.inl e, (n.keepO b e f).2⟩, fun b e => ?_⟩
    · rcases e with e | rfl
      · exact .inl e
      · exact .inr hp
    · rcases e with e | rfl
      · exact n.own b e
      · exact ⟨_, upd_same, .l vs⟩
    · cases e; exact .inr hp
  exact q _ _ _ st ⟨p, vs, rfl, upd_same, .inr rfl, RepDs.evo st.evo _ _ r⟩
/-- an operation's end, beside an environment -/
theorem RP.end_ {env : En} {r : Sl} (w : W K O H env σ) (q : ∀ O' H' v, Step O H (FpE H env σ) O' H' (FpR H' env σ r v) → WR K O' H' env σ r v → Q v H') : RP K O H r Q := by
  intro O' H' v st rv
  obtain ⟨w', k⟩ := w.keep st
  have dis : ∀ b, Fp H' r v b → ¬ FpE H' env σ b := fun b f g => by
    rcases st.fps b f with z | z
    · exact z
    · obtain ⟨xs, e, _⟩ := w.own b (w.fpOwn (k b g))
      rw [z] at e; cases e
  refine q O' H' v ⟨st.evo, st.own, fun b e _ => st.keepO b e id, fun b f => ?_⟩ ⟨w', rv, dis⟩
  rcases f with f | f
  · exact .inl (k b f)
  · rcases st.fps b f with z | z
    · exact z.elim
    · exact .inr z
theorem tE.of {f : En → Option (Sl × En)} {r : Sl} {env' : En} (w : W K O H env σ) (e : f env = some (r, env')) (q : ∀ O' H' v, Step O H (FpE H env σ) O' H' (FpR H' env' σ r v) → WR K O' H' env' σ r v → Q v H') : tE K f σ H Q := ⟨O, env, r, env', w, e, q⟩
end
end Mini

namespace Mini
open PySem PySem.Spec L2
/-! rules over readings -/
theorem _root_.L2.PE.imp {X : Cx} {e : Expr} {t t' : TE} (h : PE X e t) (i : ∀ σ H Q, t' σ H Q → t σ H Q) : PE X e t' := ⟨fun pins s σ H Q I q => h.run pins s σ H Q I (i σ H Q q)⟩
theorem _root_.L2.PT.imp {X : Cx} {e : Expr} {t t' : TT} (h : PT X e t) (i : ∀ σ H Q, t' σ H Q → t σ H Q) : PT X e t' := ⟨fun pins s σ H Q I q => h.run pins s σ H Q I (i σ H Q q)⟩
theorem _root_.L2.PW.imp {X : Cx} {e : Expr} {t t' : TT} (h : PW X e t) (i : ∀ σ H Q, t' σ H Q → t σ H Q) : PW X e t' := ⟨fun wh pins s σ H Q I q => h.run wh pins s σ H Q I (i σ H Q q)⟩
theorem _root_.L2.PA.imp {X : Cx} {es : List Expr} {t t' : TA} (h : PA X es t) (i : ∀ σ H Q, t' σ H Q → t σ H Q) : PA X es t' := ⟨fun pos pins s σ H Q I q => h.run pos pins s σ H Q I (i σ H Q q)⟩
theorem _root_.L2.PS.imp {X : Cx} {e : Stmt} {t t' : TS} (h : PS X e t) (i : ∀ D σ H, t' D σ H → t D σ H) : PS X e t' := ⟨fun pins s σ H D I q => h.run pins s σ H D I (i D σ H q)⟩
theorem _root_.L2.PSs.imp {X : Cx} {e : List Stmt} {t t' : TS} (h : PSs X e t) (i : ∀ D σ H, t' D σ H → t D σ H) : PSs X e t' := ⟨fun pins s σ H D I q => h.run pins s σ H D I (i D σ H q)⟩
section
variable {K : PySem.W.Frag} {O O' : Own} {H H' : Hp} {env : En} {σ : St} {Q : VK}
/-- what is owned only shrinks: frozen stays frozen -/
theorem evo_less {O1 : Own} (h : OwnOk O H) (l : ∀ b, O1 b → O b) : Evo O H O1 H := ⟨h, fun _ _ e _ => e, fun b e => .inl (l b e), fun _ e => e⟩
/-- a result, frozen -/
theorem WR.freeze {r : Sl} {v : V} {d : D} (w : WR K O H env σ r v) (e : r.frz = some d) : ∃ O1 : Own, (∀ b, O1 b → O b) ∧ (∀ b, O b → ¬ Fp H r v b → O1 b) ∧ W K O1 H env σ ∧ RepD K O1 H d v := by
  cases r with
  | no => cases e
  | bx _ _ => cases e
  | sc _ => cases e
  | dk _ => cases e
  | dt _ => cases e
  | v d' => cases e; exact ⟨O, fun _ e => e, fun _ e _ => e, w.w, w.val⟩
  | l xs =>
    cases e
    obtain ⟨a, vs, rfl, h1, h2, h3⟩ := w.val
    have ev : Evo O H (fun b => O b ∧ b ≠ a) H := evo_less w.w.own fun b e => e.1
    refine ⟨fun b => O b ∧ b ≠ a, fun b e => e.1, fun b e f => ⟨e, fun z => f (by rw [z]; rfl)⟩, ⟨fun b e => w.w.own b e.1, w.w.len, fun i s e => ?_, w.w.sep⟩, ?_⟩
    · rcases w.w.rep i s e with z | ⟨u, e1, e2⟩
      · exact .inl z
      · refine .inr ⟨u, e1, ?_⟩
        have na : ∀ b, Fp H s u b → b ≠ a := fun b f z => w.sep a rfl ⟨i, s, u, e, e1, z ▸ f⟩
        cases s with
        | no => trivial
        | v d => exact RepD.evo ev _ _ e2
        | sc ns => obtain ⟨c, rfl, g⟩ := e2; exact ⟨c, rfl, ScL.evo ev g⟩
        | l ys =>
          obtain ⟨c, us, rfl, g1, g2, g3⟩ := e2
          exact ⟨c, us, rfl, g1, ⟨g2, na c rfl⟩, RepDs.evo ev _ _ g3⟩
        | dk ys =>
          obtain ⟨c, us, rfl, g1, g2, g3, g4⟩ := e2
          exact ⟨c, us, rfl, g1, ⟨g2, na c rfl⟩, g3, RepDs.evo ev _ _ g4⟩
        | dt ys =>
          obtain ⟨c, us, rfl, g1, g2, g3, g4⟩ := e2
          exact ⟨c, us, rfl, g1, ⟨g2, na c rfl⟩, g3, RepDs.evo ev _ _ g4⟩
        | bx cs rs =>
          obtain ⟨c, d, rfl, g1, g2, g3, g4⟩ := e2
          exact ⟨c, d, rfl, g1, g2, ⟨g3, na c (.inl rfl)⟩, ⟨g4, na d (.inr ⟨c, _, rfl, g1⟩)⟩⟩
    · show RepD K _ H (.list xs) (.ref a)
      simp only [RepD]
      exact ⟨a, vs, rfl, h1, fun z => z.2 rfl, RepDs.evo ev _ _ h3⟩
theorem Step.less {F F' G : Own} {O1 : Own} (st : Step O H F O' H' F') (l : ∀ b, O1 b → O' b) (k : ∀ b, O' b → (F' b → G b) → O1 b) (hg : ∀ b, F' b → ¬ G b → F b ∨ H b = none) : Step O H F O1 H' G → Step O H F O1 H' G := id
/-- a step whose result is frozen -/
theorem frz_step {r : Sl} {v : V} {env' : En} {O1 : Own} (own : OwnOk O H) (st : Step O H (FpE H env σ) O' H' (FpR H' env' σ r v)) (l : ∀ b, O1 b → O' b) (k : ∀ b, O' b → ¬ Fp H' r v b → O1 b) : Step O H (FpE H env σ) O1 H' (FpE H' env' σ) := by
  refine ⟨⟨own, st.evo.keepH, fun b e => st.evo.newO b (l b e), st.evo.there⟩, fun b e => st.own b (l b e), fun b e n => ?_, fun b f => st.fps b (.inl f)⟩
  obtain ⟨h1, h2⟩ := st.keepO b e n
  refine ⟨k b h1 fun f => ?_, h2⟩
  rcases st.fps b (.inr f) with z | z
  · exact n z
  · obtain ⟨xs, q, _⟩ := own b e
    rw [z] at q; cases q
theorem te_frz {f : En → Option (Sl × En)} (h : tD K (frzM f) σ H Q) : tE K f σ H Q := by
  obtain ⟨O, env, d, env', w, e, q⟩ := h
  simp only [frzM, Option.bind_eq_some_iff, Option.map_eq_some_iff] at e
  obtain ⟨⟨r, e1⟩, h1, d', h2, h3⟩ := e
  cases h3
  refine ⟨O, env, r, e1, w, h1, fun O' H' v st wr => ?_⟩
  obtain ⟨O1, l, k, w1, rd⟩ := wr.freeze h2
  exact q O1 H' v (frz_step w.own st l k) w1 rd
end
section
variable {X : Cx} {e a b : Expr} {pos : Pos}
theorem pe_frz {f : En → Option (Sl × En)} (h : PE X e (tE X.K f)) : PE X e (tD X.K (frzM f)) := h.imp fun _ _ _ q => te_frz q
theorem pe_opd {f : En → Option (D × En)} (h : PE X e (tD X.K f)) : PE X e (tO X.K fun env => (f env).map fun (d, e1) => (.d d, e1)) := h.imp fun σ H Q q => by
  obtain ⟨O, env, p, env', w, e, q⟩ := q
  simp only [Option.map_eq_some_iff] at e
  obtain ⟨⟨d, e1⟩, h1, h2⟩ := e
  cases h2
  exact ⟨O, env, d, e1, w, h1, q⟩
/-- truth -/
theorem truth_tru {K : PySem.W.Frag} {O : Own} {H : Hp} {d : D} {v : V} {k : Bool} (r : RepP K O H d v) (e : truth d = some k) : TruV K v H k := by
  rcases r with r | ⟨xs, a, vs, rfl, rfl, h1, h2⟩
  · cases d with
    | none => simp only [RepD] at r; subst r; cases e; rfl
    | bool b => simp only [RepD] at r; subst r; cases e; rfl
    | int i => simp only [RepD] at r; subst r; cases e; rfl
    | str s =>
      simp only [RepD] at r; subst r
      simp only [truth] at e
      split at e
      · rename_i h; cases e; exact ⟨h, rfl⟩
      · cases e
    | list xs =>
      simp only [RepD] at r
      obtain ⟨a, vs, rfl, h1, h2, h3⟩ := r
      cases e
      refine .inl ⟨vs, SqL.of h1, ?_⟩
      have := h3.length
      cases xs <;> cases vs <;> simp_all
    | tuple xs =>
      simp only [RepD] at r
      obtain ⟨a, vs, rfl, h1, h3⟩ := r
      cases e
      refine .inr (.inl ⟨vs, h1, ?_⟩)
      have := h3.length
      cases xs <;> cases vs <;> simp_all
    | dict _ => cases e
  · cases e
    refine .inl ⟨vs, SqL.of h1, ?_⟩
    have := h2.length
    cases xs <;> cases vs <;> simp_all
def PlainT (e : Expr) : Bool := match e with
  | .BoolOp _ _ _ => false
  | .UnaryOp .Not _ _ => false
  | .Compare _ _ _ _ => false
  | .NamedExpr _ _ _ => false
  | .IfExp _ _ _ _ => false
  | _ => true
theorem plainT {e : Expr} {env : PySem.Env} (h : PlainT e = true) (whole : Sem Value) : isTrue e env whole = (do let v ← whole; standAt e.pos; holding [v] (truthy v)) := by
  cases e with
  | UnaryOp op a p => cases op <;> first | rfl | cases h
  | _ => first | rfl | cases h
theorem pt_tr {X : Cx} {e : Expr} {g : En → Option (Opd × En)} (p : PlainT e = true) (h : PE X e (tO X.K g)) : PT X e (tT X.K (trM g)) := (pt_truth h (plainT p)).imp fun σ H Q q => by
  obtain ⟨O, env, b, env', w, e, q⟩ := q
  simp only [trM, Option.bind_eq_some_iff, Option.map_eq_some_iff] at e
  obtain ⟨⟨p, e1⟩, h1, d, h2, k, h3, h4⟩ := e
  cases h4
  refine ⟨O, env, p, e1, w, h1, fun O' H' v st w' r => ⟨_, truth_tru (RepO.get w' r h2) h3, ?_⟩⟩
  exact q O' H' st w'
/-- an expression of a plain kind -/
structure SE (X : Cx) (e : Expr) (m : M) : Prop where
  val : PE X e (tE X.K m.val)
  opd : PE X e (tO X.K m.opd)
  tst : PT X e (tT X.K m.tst)
theorem SE.ofVal {X : Cx} {e : Expr} {f : En → Option (Sl × En)} (p : PlainT e = true) (h : PE X e (tE X.K f)) : SE X e (.ofVal f) :=
  ⟨h, pe_opd (pe_frz h), pt_tr p (pe_opd (pe_frz h))⟩
theorem SE.d {X : Cx} {e : Expr} {m : M} (h : SE X e m) : PE X e (tD X.K (frzM m.val)) := pe_frz h.val
end
/-! operations of one and two operands -/
section
variable {X : Cx} {e a b : Expr} {ma mb : M} {K : PySem.W.Frag}
theorem te_op1 {f : D → Option Sl} {r : V → Hp → VK → Prop} (hop : ∀ (O : Own) (H : Hp) (d : D) (x : V) (res : Sl) (Q : VK), OwnOk O H → RepP K O H d x → f d = some res → RP K O H res Q → r x H Q) {σ : St} {H : Hp} {Q : VK} (q : tE K (op1 f ma).val σ H Q) : tO K ma.opd σ H fun x H1 => r x H1 Q := by
  obtain ⟨O, env, s, env', w, e, q⟩ := q
  simp only [op1, M.ofVal, Option.bind_eq_some_iff, Option.map_eq_some_iff] at e
  obtain ⟨⟨p, e1⟩, h1, d, h2, res, h3, h4⟩ := e
  cases h4
  refine ⟨O, env, p, e1, w, h1, fun O' H' v st w' rp => hop O' H' d v _ _ w'.own (RepO.get w' rp h2) h3 (RP.end_ w' fun O2 H2 v2 st2 wr => q O2 H2 v2 (st.trans st2 fun _ z => z) wr)⟩
theorem te_op2 {f : D → D → Option Sl} {r : R2} (hop : ∀ (O : Own) (H : Hp) (d1 d2 : D) (x y : V) (res : Sl) (Q : VK), OwnOk O H → RepP K O H d1 x → RepP K O H d2 y → f d1 d2 = some res → RP K O H res Q → r x y H Q) {σ : St} {H : Hp} {Q : VK} (q : tE K (op2 f ma mb).val σ H Q) : tOp r (tO K ma.opd) (tO K mb.opd) σ H Q := by
  obtain ⟨O, env, s, env', w, e, q⟩ := q
  simp only [op2, M.ofVal, Option.bind_eq_some_iff, Option.map_eq_some_iff] at e
  obtain ⟨⟨p, e1⟩, h1, ⟨p2, e2⟩, h2, d, h3, d2, h4, res, h5, h6⟩ := e
  cases h6
  refine ⟨O, env, p, e1, w, h1, fun O1 H1 v1 st1 w1 rp1 => ⟨O1, e1, p2, e2, w1, h2, fun O2 H2 v2 st2 w2 rp2 => ?_⟩⟩
  exact hop O2 H2 d d2 v1 v2 _ _ w2.own (RepO.get w2 (RepO.evo st2.evo rp1) h3) (RepO.get w2 rp2 h4) h5 (RP.end_ w2 fun O3 H3 v3 st3 wr => q O3 H3 v3 ((st1.trans st2 fun _ z => z).trans st3 fun _ z => z) wr)
end
end Mini

set_option maxHeartbeats 4000000
namespace Mini
open PySem PySem.Spec PyProof.Rows L2
/-! a tuple times nought, and times one -/
theorem tuple_mul1 (l : Addr) (items : Array Value) (n : Nat) (dd : Option Addr) (sl : Array (Option Value)) (u : Tok) :
    Meets (Builtin.«tuple.__mul__» ⟨[.ref l, .int 1 u], []⟩) (fun _ R s => s.heap.get? l = some { cls := .type "tuple", dict := dd, data := .seq items n, slots := sl } ∧ R (.ok (.ret (Value.ref l))) s) :=
  .of_wp fun prog w A R s h => by
    obtain ⟨hp, g, d, tk, os⟩ := s
    obtain ⟨hl, h⟩ := h
    have f1 := AutoSeq1.idx_int
    have c1 : (items.isEmpty || (1 : Int) == 1) = true := by simp
    wp_walk using wpAny_loadPart' hl
    repeat (first
      | (refine wpAny_ite_true (decide_eq_true c1) ?_; wp_walk using wpAny_loadPart' hl)
      | (refine wpAny_ite_false (by decide) ?_; wp_walk using wpAny_loadPart' hl))
    exact ⟨_, rfl, h⟩
theorem tuple_mul0 (l : Addr) (items : Array Value) (n : Nat) (dd : Option Addr) (sl : Array (Option Value)) (u : Tok) (c1 : items.isEmpty = false) :
    Meets (Builtin.«tuple.__mul__» ⟨[.ref l, .int 0 u], []⟩) (fun _ R s => s.heap.get? l = some { cls := .type "tuple", dict := dd, data := .seq items n, slots := sl } ∧
      R (.ok (.ret (Value.ref s.heap.objs.size))) { s with heap := s.heap.push { cls := Value.type "tuple", data := Data.seq #[] }, toks := s.toks }) :=
  .of_wp fun prog w A R s h => by
    obtain ⟨hp, g, d, tk, os⟩ := s
    obtain ⟨hl, h⟩ := h
    have f1 := AutoSeq1.idx_int
    have c2 : (items.isEmpty || (0 : Int) == 1) = false := by rw [c1]; rfl
    have c3 : (decide ((0 : Int) ≤ 0) || items.isEmpty) = true := by simp
    wp_walk using wpAny_loadPart' hl
    repeat (first
      | (refine wpAny_ite_false (decide_eq_false (by rw [c2]; exact Bool.false_ne_true)) ?_; wp_walk using wpAny_loadPart' hl)
      | (refine wpAny_ite_true (decide_eq_true c3) ?_; wp_walk using wpAny_loadPart' hl)
      | (refine wpAny_ite_false (by decide) ?_; wp_walk using wpAny_loadPart' hl))
    exact ⟨_, rfl, h⟩
def rRep1 (K : PySem.W.Frag) : R2 := fun x y H Q => ∃ l xs, x = .ref l ∧ y = .int 1 ∧ SqT K H l xs ∧ Q (.ref l) H
def rRep0 (K : PySem.W.Frag) : R2 := fun x y H Q => ∃ l xs, x = .ref l ∧ y = .int 0 ∧ SqT K H l xs ∧ xs ≠ [] ∧ ∀ p, H p = none → Q (.ref p) (upd H p (.tup []))
section
variable {X : Cx}
theorem op_rep1 : OpR X (binaryOp .Mult) (rRep1 X.K) := by
  intro pins s σ H x y v u Q I rx ry h
  obtain ⟨l, xs, rfl, rfl, hT, q⟩ := h
  cases rx
  obtain ⟨t, rfl⟩ := ry
  obtain ⟨its, r, ⟨⟨cls, dd, data, sl⟩, ho, hc, n, hd⟩, hs⟩ := I.tuple hT
  simp only at hc hd
  subst hc hd
  refine wpAny_binaryOp_repeat_ref (T := "tuple") (U := "int") (by decide) ⟨_, ho, rfl⟩ (fun s' => typeIs_int s' 1 t) noFill_tuple_mul F.fills_int_mul F.slot_int_rmul repeat_tuple F.slot_int_index.lookup
    (call_meets F.slot_int_rmul (typeIs_int s 1 t) F.entry_int_rmul (F.args_int_rmul_2 _ _) (int_rmul_tuple 1 t l its.toArray n dd sl)
      ⟨ho, rfl, ⟨_, ho, rfl⟩, call_meets F.slot_tuple_mul ⟨_, ho, rfl⟩ F.entry_tuple_mul (F.args_tuple_mul_2 _ _) (tuple_mul1 l its.toArray n dd sl t) ⟨ho, ?_⟩⟩)
  exact ⟨.ref l, H, I, rfl, q⟩
theorem op_rep0 : OpR X (binaryOp .Mult) (rRep0 X.K) := by
  intro pins s σ H x y v u Q I rx ry h
  obtain ⟨l, xs, rfl, rfl, hT, hne, q⟩ := h
  cases rx
  obtain ⟨t, rfl⟩ := ry
  obtain ⟨its, r, ⟨⟨cls, dd, data, sl⟩, ho, hc, n, hd⟩, hs⟩ := I.tuple hT
  simp only at hc hd
  subst hc hd
  have hle : its.length = xs.length := r.length.symm
  have hi : its.toArray.isEmpty = false := by
    cases its with
    | nil => exact absurd (List.eq_nil_of_length_eq_zero hle.symm) hne
    | cons a b => rfl
  refine wpAny_binaryOp_repeat_ref (T := "tuple") (U := "int") (by decide) ⟨_, ho, rfl⟩ (fun s' => typeIs_int s' 0 t) noFill_tuple_mul F.fills_int_mul F.slot_int_rmul repeat_tuple F.slot_int_index.lookup
    (call_meets F.slot_int_rmul (typeIs_int s 0 t) F.entry_int_rmul (F.args_int_rmul_2 _ _) (int_rmul_tuple 0 t l its.toArray n dd sl)
      ⟨ho, rfl, ⟨_, ho, rfl⟩, call_meets F.slot_tuple_mul ⟨_, ho, rfl⟩ F.entry_tuple_mul (F.args_tuple_mul_2 _ _) (tuple_mul0 l its.toArray n dd sl t hi) ⟨ho, ?_⟩⟩)
  refine ⟨.ref s.heap.objs.size, _, I.laid (t' := s.toks) (o := .tup []) (fun b ob q => Heap.get?_push_of_some _ q) (Nat.le_refl _) ?_, rfl, q _ (I.hok.fresh (Nat.le_refl _))⟩
  exact ⟨by show 0 ≤ sizeLine; exact Nat.zero_le _, [], .nil, IsTup.new _ _⟩
end
end Mini

namespace Mini
open PySem PySem.Spec L2
section
variable {K : PySem.W.Frag} {O : Own} {H : Hp}
theorem RepP.none {v : V} (r : RepP K O H .none v) : v = .non := by
  rcases r with r | ⟨_, _, _, e, _⟩
  · simpa only [RepD] using r
  · cases e
theorem RepP.bool {v : V} {b : Bool} (r : RepP K O H (.bool b) v) : v = .bl b := by
  rcases r with r | ⟨_, _, _, e, _⟩
  · simpa only [RepD] using r
  · cases e
theorem RepP.int {v : V} {i : Int} (r : RepP K O H (.int i) v) : v = .int i := by
  rcases r with r | ⟨_, _, _, e, _⟩
  · simpa only [RepD] using r
  · cases e
theorem RepP.str {v : V} {i : Str} (r : RepP K O H (.str i) v) : v = .str i := by
  rcases r with r | ⟨_, _, _, e, _⟩
  · simpa only [RepD] using r
  · cases e
theorem RepP.tuple {v : V} {ds : List D} (r : RepP K O H (.tuple ds) v) : ∃ a vs, v = .ref a ∧ SqT K H a vs ∧ RepDs K O H ds vs := by
  rcases r with r | ⟨_, _, _, e, _⟩
  · simpa only [RepD] using r
  · cases e
theorem RepP.list {v : V} {ds : List D} (r : RepP K O H (.list ds) v) : ∃ a vs, v = .ref a ∧ H a = some (.lst vs) ∧ RepDs K O H ds vs := by
  rcases r with r | ⟨_, a, vs, e, e2, h1, h2⟩
  · simp only [RepD] at r
    obtain ⟨a, vs, e, h1, _, h2⟩ := r
    exact ⟨a, vs, e, h1, h2⟩
  · cases e; exact ⟨a, vs, e2, h1, h2⟩
theorem RepP.dict {v : V} {ds : List (D × D)} (r : RepP K O H (.dict ds) v) : False := by
  rcases r with r | ⟨_, _, _, e, _⟩
  · simpa only [RepD] using r
  · cases e
mutual
theorem RepD.dp : ∀ (d : D) (v : V), RepD K O H d v → Dp K H v d
  | .none, v, h => by simp only [RepD] at h; subst h; exact .non
  | .bool b, v, h => by simp only [RepD] at h; subst h; exact .bl b
  | .int b, v, h => by simp only [RepD] at h; subst h; exact .int b
  | .str b, v, h => by simp only [RepD] at h; subst h; exact .str b
  | .tuple ds, v, h => by
    simp only [RepD] at h
    obtain ⟨a, vs, rfl, h1, h2⟩ := h
    exact .tup h1 (RepDs.dp ds vs h2)
  | .list ds, v, h => by
    simp only [RepD] at h
    obtain ⟨a, vs, rfl, h1, _, h2⟩ := h
    exact .lst (SqL.of h1) (RepDs.dp ds vs h2)
  | .dict _, v, h => by simp only [RepD] at h
theorem RepDs.dp : ∀ (ds : List D) (vs : List V), RepDs K O H ds vs → DpAll K H vs ds
  | [], vs, h => by simp only [RepDs] at h; subst h; exact .nil
  | d :: ds, vs, h => by
    simp only [RepDs] at h
    obtain ⟨v, r, rfl, h1, h2⟩ := h
    exact .cons (RepD.dp d v h1) (RepDs.dp ds r h2)
end
theorem RepP.dp {d : D} {v : V} (r : RepP K O H d v) : Dp K H v d := by
  rcases r with r | ⟨_, a, vs, rfl, rfl, h1, h2⟩
  · exact RepD.dp d v r
  · exact .lst (SqL.of h1) (RepDs.dp _ _ h2)
end
theorem _root_.L2.PE.never {X : Cx} {e : Expr} : PE X e (fun _ _ _ => False) := ⟨fun _ _ _ _ _ _ q => q.elim⟩
theorem OpR.never {X : Cx} {f : Value → Value → Sem Value} : OpR X f (fun _ _ _ _ => False) := fun _ _ _ _ _ _ _ _ _ _ _ _ q => q.elim
/-- what an operator is asked -/
def HOp2 (K : PySem.W.Frag) (f : D → D → Option Sl) (r : R2) : Prop :=
  ∀ (O : Own) (H : Hp) (d1 d2 : D) (x y : V) (res : Sl) (Q : VK), OwnOk O H → RepP K O H d1 x → RepP K O H d2 y → f d1 d2 = some res → RP K O H res Q → r x y H Q
def HOp1 (K : PySem.W.Frag) (f : D → Option Sl) (r : V → Hp → VK → Prop) : Prop :=
  ∀ (O : Own) (H : Hp) (d : D) (x : V) (res : Sl) (Q : VK), OwnOk O H → RepP K O H d x → f d = some res → RP K O H res Q → r x H Q
section
variable {X : Cx} {K : PySem.W.Frag}
def rAdd4 (K : PySem.W.Frag) : R2 := fun x y H Q => (rI0 fun i j => .int (i + j)) x y H Q ∨ ((fun x y H Q => ∃ i j, x = .str i ∧ y = .str j ∧ i.length + j.length ≤ sizeLine ∧ Q (.str (i ++ j)) H) : R2) x y H Q ∨ rCatA K x y H Q ∨ rCat x y H Q
theorem or_add : OpR X (binaryOp .Add) (rAdd4 X.K) := OpR.or op_add (OpR.or op_add_str (OpR.or op_catA op_cat))
theorem ho_add : HOp2 K (binD .Add) (rAdd4 K) := by
  intro O H d1 d2 x y res Q own h1 h2 e q
  cases d1 with
  | int i =>
    cases d2 with
    | int j => cases e; exact .inl ⟨i, j, h1.int, h2.int, q.same own (by simp only [RepD])⟩
    | _ => cases e
  | str i =>
    cases d2 with
    | str j =>
      simp only [binD] at e
      split at e
      · rename_i h; cases e; exact .inr (.inl ⟨i, j, h1.str, h2.str, h, q.same own (by simp only [RepD])⟩)
      · cases e
    | _ => cases e
  | tuple xs =>
    cases d2 with
    | tuple ys =>
      simp only [binD] at e
      split at e
      · rename_i h
        cases e
        obtain ⟨a, vs, rfl, s1, r1⟩ := h1.tuple
        obtain ⟨b, us, rfl, s2, r2⟩ := h2.tuple
        have l1 := r1.length
        have l2 := r2.length
        refine .inr (.inr (.inl ⟨a, b, vs, us, rfl, rfl, s1, s2, by omega, fun z => ?_, fun _ z => ?_, fun _ _ p hp => q.tup own (r1.append r2) p hp⟩))
        · subst z
          have : xs = [] := List.length_eq_zero_iff.mp (by simpa using l1)
          subst this
          exact q.same own (by simp only [RepD, List.nil_append]; exact ⟨b, us, rfl, s2, r2⟩)
        · subst z
          have : ys = [] := List.length_eq_zero_iff.mp (by simpa using l2)
          subst this
          exact q.same own (by simp only [RepD, List.append_nil]; exact ⟨a, vs, rfl, s1, r1⟩)
      · cases e
    | _ => cases e
  | list xs =>
    cases d2 with
    | list ys =>
      simp only [binD] at e
      split at e
      · rename_i h
        cases e
        obtain ⟨a, vs, rfl, s1, r1⟩ := h1.list
        obtain ⟨b, us, rfl, s2, r2⟩ := h2.list
        have l1 := r1.length
        have l2 := r2.length
        exact .inr (.inr (.inr ⟨a, b, vs, us, rfl, rfl, s1, s2, by omega, fun p hp => q.lst own (r1.append r2) p hp⟩))
      · cases e
    | _ => cases e
  | _ => cases e
theorem ho_int {op : Operator} {C : Int → Int → Prop} [∀ i j, Decidable (C i j)] {g : Int → Int → Int} (hb : ∀ d1 d2 res, binD op d1 d2 = some res → ∃ i j, d1 = .int i ∧ d2 = .int j ∧ C i j ∧ res = .v (.int (g i j))) : HOp2 K (binD op) (rI C fun i j => .int (g i j)) := by
  intro O H d1 d2 x y res Q own h1 h2 e q
  obtain ⟨i, j, rfl, rfl, c, rfl⟩ := hb _ _ _ e
  exact ⟨i, j, h1.int, h2.int, c, q.same own (by simp only [RepD])⟩
theorem ho_sub : HOp2 K (binD .Sub) (rI0 fun i j => .int (i - j)) := by
  intro O H d1 d2 x y res Q own h1 h2 e q
  cases d1 with
  | int i =>
    cases d2 with
    | int j => cases e; exact ⟨i, j, h1.int, h2.int, q.same own (by simp only [RepD])⟩
    | _ => cases e
  | _ => cases e
theorem ho_div : HOp2 K (binD .FloorDiv) (rI CDivW fun i j => .int (i / j)) := by
  intro O H d1 d2 x y res Q own h1 h2 e q
  cases d1 with
  | int i =>
    cases d2 with
    | int j =>
      simp only [binD] at e
      split at e
      · rename_i h; cases e; exact ⟨i, j, h1.int, h2.int, h, q.same own (by simp only [RepD])⟩
      · cases e
    | _ => cases e
  | _ => cases e
theorem ho_mod : HOp2 K (binD .Mod) (rI (fun _ j => 0 < j) fun i j => .int (i % j)) := by
  intro O H d1 d2 x y res Q own h1 h2 e q
  cases d1 with
  | int i =>
    cases d2 with
    | int j =>
      simp only [binD] at e
      split at e
      · rename_i h; cases e; exact ⟨i, j, h1.int, h2.int, h, q.same own (by simp only [RepD])⟩
      · cases e
    | _ => cases e
  | _ => cases e
theorem ho_pow : HOp2 K (binD .Pow) (rI CPow fun i j => .int (i ^ j.toNat)) := by
  intro O H d1 d2 x y res Q own h1 h2 e q
  cases d1 with
  | int i =>
    cases d2 with
    | int j =>
      simp only [binD] at e
      split at e
      · rename_i h; cases e; exact ⟨i, j, h1.int, h2.int, h, q.same own (by simp only [RepD])⟩
      · cases e
    | _ => cases e
  | _ => cases e
def rMul4 (K : PySem.W.Frag) : R2 := fun x y H Q => (rI CMulW fun i j => .int (i * j)) x y H Q ∨ (rI CMul fun i j => .int (i * j)) x y H Q ∨ rRepT K x y H Q ∨ rRep x y H Q ∨ rRep1 K x y H Q ∨ rRep0 K x y H Q
theorem or_mul : OpR X (binaryOp .Mult) (rMul4 X.K) := OpR.or op_mulW (OpR.or op_mul (OpR.or op_repT (OpR.or op_rep (OpR.or op_rep1 op_rep0))))
theorem ho_mul : HOp2 K (binD .Mult) (rMul4 K) := by
  intro O H d1 d2 x y res Q own h1 h2 e q
  cases d1 with
  | int i =>
    cases d2 with
    | int j =>
      simp only [binD] at e
      split at e
      · rename_i h
        cases e
        rcases h with h | h
        · exact .inl ⟨i, j, h1.int, h2.int, h, q.same own (by simp only [RepD])⟩
        · exact .inr (.inl ⟨i, j, h1.int, h2.int, h, q.same own (by simp only [RepD])⟩)
      · cases e
    | _ => cases e
  | tuple xs =>
    cases d2 with
    | int k =>
      simp only [binD] at e
      split at e
      · rename_i h
        cases e
        obtain ⟨a, vs, rfl, s1, r1⟩ := h1.tuple
        have l1 := r1.length
        obtain ⟨n0, n1, n2, n3⟩ := h
        refine .inr (.inr (.inl ⟨a, k, vs, rfl, h2.int, s1, fun z => n0 ?_, n1, n2, by omega, fun p hp => q.tup own (r1.flat _) p hp⟩))
        subst z
        exact List.length_eq_zero_iff.mp (by simpa using l1)
      · split at e
        · rename_i hk
          subst hk
          cases e
          obtain ⟨a, vs, rfl, s1, r1⟩ := h1.tuple
          exact .inr (.inr (.inr (.inr (.inl ⟨a, vs, rfl, h2.int, s1, q.same own (by simp only [RepD]; exact ⟨a, vs, rfl, s1, r1⟩)⟩))))
        · split at e
          · rename_i hk
            obtain ⟨rfl, hne⟩ := hk
            cases e
            obtain ⟨a, vs, rfl, s1, r1⟩ := h1.tuple
            have l1 := r1.length
            refine .inr (.inr (.inr (.inr (.inr ⟨a, vs, rfl, h2.int, s1, fun z => hne ?_, fun p hp => q.tup own (by simp only [RepDs]) p hp⟩))))
            subst z
            exact List.length_eq_zero_iff.mp (by simpa using l1)
          · cases e
    | _ => cases e
  | list xs =>
    cases d2 with
    | int k =>
      simp only [binD] at e
      split at e
      · rename_i h
        cases e
        obtain ⟨a, vs, rfl, s1, r1⟩ := h1.list
        have l1 := r1.length
        obtain ⟨n1, n2, n3⟩ := h
        exact .inr (.inr (.inr (.inl ⟨a, k, vs, rfl, h2.int, s1, n1, n2, by rw [← l1]; exact n3, fun p hp => q.lst own (r1.flat _) p hp⟩)))
      · cases e
    | _ => cases e
  | _ => cases e
/-- + - * and so on -/
def rBin (K : PySem.W.Frag) : Operator → R2
  | .Add => rAdd4 K
  | .Sub => rI0 fun i j => .int (i - j)
  | .Mult => rMul4 K
  | .FloorDiv => rI CDivW fun i j => .int (i / j)
  | .Mod => rI (fun _ j => 0 < j) fun i j => .int (i % j)
  | .Pow => rI CPow fun i j => .int (i ^ j.toNat)
  | .BitAnd => rI0 fun i j => .int (Builtin.bitAnd i j)
  | .LShift => fun x y H Q => ∃ k : Nat, x = .int 1 ∧ y = .int (k : Int) ∧ k ≤ 134217727 ∧ Q (.int (2 ^ k)) H
  | .RShift => rI (fun _ j => 0 ≤ j) fun i j => .int (i / 2 ^ j.toNat)
  | _ => fun _ _ _ _ => False
theorem or_bin (op : Operator) : OpR X (binaryOp op) (rBin X.K op) := by
  cases op with
  | Add => exact or_add
  | Sub => exact op_sub
  | Mult => exact or_mul
  | FloorDiv => exact op_fdivW
  | Mod => exact op_mod
  | Pow => exact op_pow
  | BitAnd => exact op_and
  | LShift => exact op_oneShl
  | RShift => exact op_shr
  | _ => exact OpR.never
theorem ho_band : HOp2 K (binD .BitAnd) (rI0 fun i j => .int (Builtin.bitAnd i j)) := by
  intro O H d1 d2 x y res Q own h1 h2 e q
  cases d1 with
  | int i =>
    cases d2 with
    | int j => cases e; exact ⟨i, j, h1.int, h2.int, q.same own (by simp only [RepD])⟩
    | _ => cases e
  | _ => cases e
theorem ho_shl : HOp2 K (binD .LShift) (fun x y H Q => ∃ k : Nat, x = .int 1 ∧ y = .int (k : Int) ∧ k ≤ 134217727 ∧ Q (.int (2 ^ k)) H) := by
  intro O H d1 d2 x y res Q own h1 h2 e q
  cases d1 with
  | int i =>
    cases d2 with
    | int j =>
      simp only [binD] at e
      split at e
      · rename_i h
        cases e
        obtain ⟨rfl, g1, g2⟩ := h
        have e2 := h2.int
        refine ⟨j.toNat, h1.int, ?_, by omega, q.same own (by simp only [RepD])⟩
        rw [e2, Int.toNat_of_nonneg g1]
      · cases e
    | _ => cases e
  | _ => cases e
theorem ho_shr : HOp2 K (binD .RShift) (rI (fun _ j => 0 ≤ j) fun i j => .int (i / 2 ^ j.toNat)) := by
  intro O H d1 d2 x y res Q own h1 h2 e q
  cases d1 with
  | int i =>
    cases d2 with
    | int j =>
      simp only [binD] at e
      split at e
      · rename_i h; cases e; exact ⟨i, j, h1.int, h2.int, h, q.same own (by simp only [RepD])⟩
      · cases e
    | _ => cases e
  | _ => cases e
theorem ho_bin (op : Operator) : HOp2 K (binD op) (rBin K op) := by
  cases op with
  | Add => exact ho_add
  | Sub => exact ho_sub
  | Mult => exact ho_mul
  | FloorDiv => exact ho_div
  | Mod => exact ho_mod
  | Pow => exact ho_pow
  | BitAnd => exact ho_band
  | LShift => exact ho_shl
  | RShift => exact ho_shr
  | _ => intro O H d1 d2 x y res Q own h1 h2 e q; cases d1 <;> cases d2 <;> cases e
/-- in a tuple of any data -/
def rInT (K : PySem.W.Frag) : R2 := fun x y H Q => ∃ d ds, Dp K H x d ∧ Dp K H y (.tuple ds) ∧ SeqAt.shaped d = true ∧ SeqAt.shaped (.tuple ds) = true ∧ Q (.bl (ds.any fun z => PyData.eqv z d)) H
def rNotInT (K : PySem.W.Frag) : R2 := fun x y H Q => ∃ d ds, Dp K H x d ∧ Dp K H y (.tuple ds) ∧ SeqAt.shaped d = true ∧ SeqAt.shaped (.tuple ds) = true ∧ Q (.bl (!ds.any fun z => PyData.eqv z d)) H
theorem op_inT (hu : X.A.units + 65 < cLine) : OpR X (compareOp .In) (rInT X.K) := by
  intro pins s σ H x y v u Q I rx ry h
  obtain ⟨d, ds, hd, he, sd, se, q⟩ := h
  obtain ⟨as, r1⟩ := Dp.reads I d x v hd rx
  obtain ⟨bs, r2⟩ := Dp.reads I (.tuple ds) y u he ry
  exact SeqAt.in_tuple_reads r2 r1 (SeqAt.canLay_of_shaped se) (SeqAt.canLay_of_shaped sd) (PyProof.Rows.room_in_shaped sd hu) ⟨.bl _, H, I, rfl, q⟩
theorem op_notInT (hu : X.A.units + 65 < cLine) : OpR X (compareOp .NotIn) (rNotInT X.K) := by
  intro pins s σ H x y v u Q I rx ry h
  obtain ⟨d, ds, hd, he, sd, se, q⟩ := h
  obtain ⟨as, r1⟩ := Dp.reads I d x v hd rx
  obtain ⟨bs, r2⟩ := Dp.reads I (.tuple ds) y u he ry
  exact SeqAt.notIn_tuple_reads r2 r1 (SeqAt.canLay_of_shaped se) (SeqAt.canLay_of_shaped sd) (PyProof.Rows.room_in_shaped sd hu) ⟨.bl _, H, I, rfl, q⟩
def rLt2 (K : PySem.W.Frag) : R2 := fun x y H Q => (rI0 fun i j => .bl (decide (i < j))) x y H Q ∨ rLtT K x y H Q
def rIn2 (K : PySem.W.Frag) : R2 := fun x y H Q => rInD K x y H Q ∨ rInT K x y H Q
def rNotIn2 (K : PySem.W.Frag) : R2 := fun x y H Q => rNotInD K x y H Q ∨ rNotInT K x y H Q
/-- comparisons -/
def rCmp (K : PySem.W.Frag) : CmpOp → R2
  | .Eq => rEqD K
  | .NotEq => rNeD K
  | .Lt => rLt2 K
  | .LtE => rI0 fun i j => .bl (decide (i ≤ j))
  | .Gt => rI0 fun i j => .bl (decide (j < i))
  | .GtE => rI0 fun i j => .bl (decide (j ≤ i))
  | .In => rIn2 K
  | .NotIn => rNotIn2 K
  | _ => fun _ _ _ _ => False
theorem or_cmp {k : Nat} (hr : Room k X.A) (op : CmpOp) : OpR X (compareOp op) (rCmp X.K op) := by
  have hu : X.A.units + 65 < cLine := by have := hr.un; omega
  cases op with
  | Eq => exact op_eqD hr.units
  | NotEq => exact op_neD hr.units
  | Lt => exact OpR.or op_lt (op_ltT hr.units0)
  | LtE => exact op_le
  | Gt => exact op_gt
  | GtE => exact op_ge
  | In => exact OpR.or (op_inD hu) (op_inT hu)
  | NotIn => exact OpR.or (op_notInD hu) (op_notInT hu)
  | _ => exact OpR.never
theorem ho_cmp (op : CmpOp) : HOp2 K (cmpD op) (rCmp K op) := by
  intro O H d1 d2 x y res Q own h1 h2 e q
  have eqs : ∀ (f : Bool), (if SeqAt.shaped d1 = true ∧ SeqAt.shaped d2 = true then b2s f else none) = some res → SeqAt.shaped d1 = true ∧ SeqAt.shaped d2 = true ∧ res = .v (.bool f) := fun f e => by
    split at e
    · rename_i h; cases e; exact ⟨h.1, h.2, rfl⟩
    · cases e
  cases op with
  | Eq =>
    obtain ⟨s1, s2, rfl⟩ := eqs _ e
    exact ⟨d1, d2, h1.dp, h2.dp, s1, s2, q.same own (by simp only [RepD])⟩
  | NotEq =>
    obtain ⟨s1, s2, rfl⟩ := eqs _ e
    exact ⟨d1, d2, h1.dp, h2.dp, s1, s2, q.same own (by simp only [RepD])⟩
  | Is => cases d1 <;> cases d2 <;> cases e
  | IsNot => cases d1 <;> cases d2 <;> cases e
  | In =>
    cases d2 with
    | list ds =>
      have e' : (if SeqAt.shaped d1 = true ∧ SeqAt.shaped (.list ds) = true then b2s (ds.any fun z => PyData.eqv z d1) else none) = some res := by cases d1 <;> exact e
      obtain ⟨s1, s2, rfl⟩ := eqs _ e'
      exact .inl ⟨d1, ds, h1.dp, h2.dp, s1, s2, q.same own (by simp only [RepD])⟩
    | tuple ds =>
      have e' : (if SeqAt.shaped d1 = true ∧ SeqAt.shaped (.tuple ds) = true then b2s (ds.any fun z => PyData.eqv z d1) else none) = some res := by cases d1 <;> exact e
      obtain ⟨s1, s2, rfl⟩ := eqs _ e'
      exact .inr ⟨d1, ds, h1.dp, h2.dp, s1, s2, q.same own (by simp only [RepD])⟩
    | _ => cases d1 <;> cases e
  | NotIn =>
    cases d2 with
    | list ds =>
      have e' : (if SeqAt.shaped d1 = true ∧ SeqAt.shaped (.list ds) = true then b2s (!ds.any fun z => PyData.eqv z d1) else none) = some res := by cases d1 <;> exact e
      obtain ⟨s1, s2, rfl⟩ := eqs _ e'
      exact .inl ⟨d1, ds, h1.dp, h2.dp, s1, s2, q.same own (by simp only [RepD])⟩
    | tuple ds =>
      have e' : (if SeqAt.shaped d1 = true ∧ SeqAt.shaped (.tuple ds) = true then b2s (!ds.any fun z => PyData.eqv z d1) else none) = some res := by cases d1 <;> exact e
      obtain ⟨s1, s2, rfl⟩ := eqs _ e'
      exact .inr ⟨d1, ds, h1.dp, h2.dp, s1, s2, q.same own (by simp only [RepD])⟩
    | _ => cases d1 <;> cases e
  | Lt =>
    cases d1 with
    | int i =>
      cases d2 with
      | int j => cases e; exact .inl ⟨i, j, h1.int, h2.int, q.same own (by simp only [RepD])⟩
      | _ => cases e
    | tuple xs =>
      cases d2 with
      | tuple ys =>
        simp only [cmpD, Option.bind_eq_some_iff] at e
        obtain ⟨ns, e1, ms, e2, e3⟩ := e
        cases e3
        obtain ⟨a, vs, rfl, s1, r1⟩ := h1.tuple
        obtain ⟨b, us, rfl, s2, r2⟩ := h2.tuple
        have i1 := r1.intsOf e1
        have i2 := r2.intsOf e2
        subst i1 i2
        exact .inr ⟨a, b, ns, ms, rfl, rfl, s1, s2, q.same own (by simp only [RepD])⟩
      | _ => cases e
    | _ => cases d2 <;> cases e
  | _ =>
    cases d1 with
    | int i =>
      cases d2 with
      | int j => cases e; exact ⟨i, j, h1.int, h2.int, q.same own (by simp only [RepD])⟩
      | _ => cases e
    | _ => cases d2 <;> cases e
def rIdx (K : PySem.W.Frag) : R2 := fun x y H Q => rIxL K x y H Q ∨ rIxT K x y H Q
theorem atI_rep {O : Own} {H : Hp} {xs : List D} {vs : List V} {i : Int} {d : D} (r : RepDs K O H xs vs) (e : atI xs i = some d) : ∃ v, atI vs i = some v ∧ RepD K O H d v := by
  unfold atI at e ⊢
  simp only [Option.bind_eq_some_iff] at e
  obtain ⟨j, h1, h2⟩ := e
  obtain ⟨v, h3, h4⟩ := r.get h2
  exact ⟨v, by rw [← r.length, h1]; exact h3, h4⟩
theorem ho_idx : HOp2 K idxD (rIdx K) := by
  intro O H d1 d2 x y res Q own h1 h2 e q
  cases d2 with
  | int i =>
    cases d1 with
    | list xs =>
      simp only [idxD, Option.map_eq_some_iff] at e
      obtain ⟨d, e1, rfl⟩ := e
      obtain ⟨a, vs, rfl, s1, r1⟩ := h1.list
      obtain ⟨v, e2, r2⟩ := atI_rep r1 e1
      exact .inl ⟨a, vs, i, v, rfl, h2.int, SqL.of s1, e2, q.same own r2⟩
    | tuple xs =>
      simp only [idxD, Option.map_eq_some_iff] at e
      obtain ⟨d, e1, rfl⟩ := e
      obtain ⟨a, vs, rfl, s1, r1⟩ := h1.tuple
      obtain ⟨v, e2, r2⟩ := atI_rep r1 e1
      exact .inr ⟨a, vs, i, v, rfl, h2.int, s1, e2, q.same own r2⟩
    | _ => cases e
  | _ => cases d1 <;> cases e
theorem ho_neg : HOp1 K negD (rU fun i => .int (-i)) := by
  intro O H d x res Q own h e q
  cases d with
  | int i => cases e; exact ⟨i, h.int, q.same own (by simp only [RepD])⟩
  | _ => cases e
def dNone : D → Bool
  | .none => true
  | _ => false
theorem isn_rep {O : Own} {H : Hp} {d : D} {x : V} (h : RepP K O H d x) : decide (x = .non) = dNone d := by
  cases d with
  | none => have e := h.none; subst e; rfl
  | bool b => have e := h.bool; subst e; rfl
  | int b => have e := h.int; subst e; rfl
  | str b => have e := h.str; subst e; rfl
  | list b => obtain ⟨a, vs, e, _⟩ := h.list; subst e; rfl
  | tuple b => obtain ⟨a, vs, e, _⟩ := h.tuple; subst e; rfl
  | dict b => exact h.dict.elim
theorem isnD_eq (ng : Bool) (d : D) : isnD ng d = some (.v (.bool (if ng then !dNone d else dNone d))) := by
  cases d <;> cases ng <;> rfl
end
end Mini

namespace Mini
open PySem PySem.Spec L2 PySem.W
section
variable {X : Cx}
/-- sum of a tuple of ints -/
def rSumT (K : PySem.W.Frag) : List V → Hp → VK → Prop := fun vs H Q => ∃ (a : Addr) (ns : List Int), vs = [V.ref a] ∧ SqT K H a (ns.map V.int) ∧ Q (.int ns.sum) H
theorem cr_sumT (hc : X.calm = true) : CallR X (.builtin "sum") (rSumT X.K) := by
  intro pins s σ H vs us Q I r h
  obtain ⟨a, ns, rfl, hs, q⟩ := h
  obtain ⟨its, rv, hl, _⟩ := I.tuple hs
  rw [Vals.ref1 r]
  have hi := rv.ints
  obtain ⟨xs, e⟩ := hi.allInts.items
  have hn : numsOf (intItems xs).toList = ns := by rw [← e]; exact hi.numsOf
  rw [nums_intItems] at hn
  rw [e] at hl
  refine ktm_sumG (I.ok.hd hc) hl fun h' tk t' hk => ?_
  have : Q (.int ns.sum) H := q
  rw [preSum_eq, List.take_of_length_le (by simp), hn]
  exact ⟨.int _, H, I.kept hk, ⟨_, rfl⟩, q⟩
theorem dpAll_get {K : PySem.W.Frag} {H : Hp} : ∀ {vs : List V} {ds : List D} {i : Nat} {v : V}, DpAll K H vs ds → vs[i]? = some v → ∃ d, ds[i]? = some d ∧ Dp K H v d
  | [], _, i, v, h, e => by simp at e
  | x :: vs, _, i, v, h, e => by
    cases h with
    | cons h1 h2 =>
      cases i with
      | zero => simp at e; subst e; exact ⟨_, rfl, h1⟩
      | succ i =>
        obtain ⟨d, e2, h3⟩ := dpAll_get h2 (by simpa using e)
        exact ⟨d, by simpa using e2, h3⟩
theorem dpAll_len {K : PySem.W.Frag} {H : Hp} : ∀ {vs : List V} {ds : List D}, DpAll K H vs ds → vs.length = ds.length
  | [], _, h => by cases h; rfl
  | x :: vs, _, h => by cases h with | cons h1 h2 => simp [dpAll_len h2]
theorem vals_get : ∀ {xs : List V} {us : List Value} {i : Nat} {u : Value}, Vals xs us → us[i]? = some u → ∃ v, xs[i]? = some v ∧ RelV v u
  | [], _, i, u, h, e => by cases h; simp at e
  | x :: xs, _, i, u, h, e => by
    cases h with
    | cons h1 h2 =>
      cases i with
      | zero => simp at e; subst e; exact ⟨_, rfl, h1⟩
      | succ i =>
        obtain ⟨v, e2, h3⟩ := vals_get h2 (by simpa using e)
        exact ⟨v, by simpa using e2, h3⟩
/-- the least, the greatest item of a row of data that can be told apart -/
def rBest (K : PySem.W.Frag) (best : D → List D → D) : List V → Hp → VK → Prop := fun vs H Q => ∃ (a : Addr) (xs : List V) (d : D) (ds : List D), vs = [V.ref a] ∧ (SqL K H a xs ∨ SqT K H a xs) ∧ DpAll K H xs (d :: ds) ∧ AlikeAll (d :: ds) ∧ PyData.depthAll (d :: ds) ≤ 60 ∧
  ∀ (i : Nat) (v : V), xs[i]? = some v → (d :: ds)[i]? = some (best d ds) → Q v H
theorem best_end {K : PySem.W.Frag} {pins : List (Addr × Obj)} {s : Shared} {σ : St} {H : Hp} {xs : List V} {d b : D} {ds : List D} {its : List Value} {Q : VK} (I : Inv X pins σ H s) (rv : Vals xs its) (hd : DpAll X.K H xs (d :: ds)) (ha : AlikeAll (d :: ds)) (hb : b ∈ d :: ds)
    (q : ∀ (i : Nat) (v : V), xs[i]? = some v → (d :: ds)[i]? = some b → Q v H) (i : Nat) (v : Value) (h' : Heap) (tk : Nat) (bs : List Addr) (hi : its.toArray[i]? = some v) (hr : Reads h' v b bs) (hk : ∀ b o, s.heap.get? b = some o → h'.get? b = some o) :
    ∃ (w : V) (H2 : Hp), Inv X pins σ H2 { s with heap := h', toks := tk } ∧ RelV w v ∧ Q w H2 := by
  have hi' : its[i]? = some v := by simpa using hi
  obtain ⟨w, e1, rw_⟩ := vals_get rv hi'
  obtain ⟨d', e2, dp⟩ := dpAll_get hd e1
  obtain ⟨as, r1⟩ := Dp.reads I d' w v dp rw_
  have r2 := PyProof.Rows.Reads.keeps hk r1
  have m : d' ∈ d :: ds := List.mem_of_getElem? e2
  have e3 := alike_unique d' b v _ _ (ha.1 d' m b hb) r2 hr
  exact ⟨w, H, I.kept hk, rw_, q i w e1 (by rw [e2, e3])⟩
theorem minD_mem (d : D) (ds : List D) : minD d ds ∈ d :: ds := by
  unfold minD
  induction ds generalizing d with
  | nil => simp
  | cons x r ih =>
    rw [List.foldl_cons]
    have := ih (if dataLt x d = true then x else d)
    rcases List.mem_cons.mp this with h | h
    · rw [h]; split <;> simp
    · exact List.mem_cons_of_mem _ (List.mem_cons_of_mem _ h)
theorem maxD_mem (d : D) (ds : List D) : maxD d ds ∈ d :: ds := by
  unfold maxD
  induction ds generalizing d with
  | nil => simp
  | cons x r ih =>
    rw [List.foldl_cons]
    have := ih (if dataLt d x = true then x else d)
    rcases List.mem_cons.mp this with h | h
    · rw [h]; split <;> simp
    · exact List.mem_cons_of_mem _ (List.mem_cons_of_mem _ h)
theorem cr_minD (hc : X.calm = true) (hu : X.A.units + 65 < cLine) : CallR X (.builtin "min") (rBest X.K minD) := by
  intro pins s σ H vs us Q I r h
  obtain ⟨a, xs, d, ds, rfl, hs, hd, ha, hz, q⟩ := h
  rw [Vals.ref1 r]
  rcases hs with hs | hs
  · obtain ⟨its, rv, hl, _⟩ := I.list hs
    obtain ⟨as, rs⟩ := Dp.readsAll I (d :: ds) xs its hd rv
    exact min_list_data (I.ok.hd hc) hl.isList rs ha (by omega) fun i v h' tk bs hi hr hk => best_end (K := X.K) I rv hd ha (minD_mem d ds) q i v h' tk bs hi hr hk
  · obtain ⟨its, rv, hl, _⟩ := I.tuple hs
    obtain ⟨as, rs⟩ := Dp.readsAll I (d :: ds) xs its hd rv
    exact min_tuple_data (I.ok.hd hc) hl rs ha (by omega) fun i v h' tk bs hi hr hk => best_end (K := X.K) I rv hd ha (minD_mem d ds) q i v h' tk bs hi hr hk
theorem cr_maxD' (hc : X.calm = true) (hu : X.A.units + 65 < cLine) : CallR X (.builtin "max") (rBest X.K maxD) := by
  intro pins s σ H vs us Q I r h
  obtain ⟨a, xs, d, ds, rfl, hs, hd, ha, hz, q⟩ := h
  rw [Vals.ref1 r]
  rcases hs with hs | hs
  · obtain ⟨its, rv, hl, _⟩ := I.list hs
    obtain ⟨as, rs⟩ := Dp.readsAll I (d :: ds) xs its hd rv
    exact max_list_data (I.ok.hd hc) hl.isList rs ha (by omega) fun i v h' tk bs hi hr hk => best_end (K := X.K) I rv hd ha (maxD_mem d ds) q i v h' tk bs hi hr hk
  · obtain ⟨its, rv, hl, _⟩ := I.tuple hs
    obtain ⟨as, rs⟩ := Dp.readsAll I (d :: ds) xs its hd rv
    exact max_tuple_data (I.ok.hd hc) hl rs ha (by omega) fun i v h' tk bs hi hr hk => best_end (K := X.K) I rv hd ha (maxD_mem d ds) q i v h' tk bs hi hr hk
/-! sorted -/
/-- .. or one item, of any kind -/
def SortableX (ds : List D) : Prop := Sortable ds ∨ (ds.length ≤ 1 ∧ ∀ d ∈ ds, d ≠ .none)
theorem SortsAt.one {prog : Program} {w : World} {A : Around} {s : Shared} {vs : List Value} {ds : List PyData} (e : EachIs (fun v d => ∃ as, Reads s.heap v d as) vs ds) (hal : AllAlike ds) (hl : ds.length ≤ 1) (hn : ∀ d ∈ ds, d ≠ .none) (hu : ∀ d, d ∈ ds → A.units + d.depth < cLine) : SortsAt prog w A s (dataKind s.heap ds) vs := by
  refine ⟨fun v hv => ?_, PyProof.Rows.general', ?_, fun h2 => ?_⟩
  · obtain ⟨d, hd, as, r⟩ := e.left v hv
    exact ⟨_, dataKind_some hal hd r⟩
  · intro E x y a b Q ha hb hq
    obtain ⟨d, as, hd, ra, rfl⟩ := dataKind_inv ha
    obtain ⟨d', as', hd', rb, rfl⟩ := dataKind_inv hb
    show wpAny (model prog w) A (PyProof.Rows.oneLt' false x y) Q E s
    exact kat_one _ _ (lt_data ra rb (hal d hd d' hd') (hn d hd) (Nat.lt_of_le_of_lt (Nat.add_le_add_left (Nat.min_le_left _ _) _) (hu d hd)) hq)
  · rw [e.length] at h2
    omega
theorem SortsAt.dataX {prog : Program} {w : World} {A : Around} {s : Shared} {vs : List Value} {ds : List PyData} (e : EachIs (fun v d => ∃ as, Reads s.heap v d as) vs ds) (hal : AllAlike ds) (hk : SortableX ds) (hu : ∀ d, d ∈ ds → A.units + d.depth < cLine) : SortsAt prog w A s (dataKind s.heap ds) vs := by
  rcases hk with hk | ⟨h1, h2⟩
  · exact SortsAt.data e hal hk hu
  · exact SortsAt.one e hal h1 h2 hu
theorem sorted_dataX {prog : Program} {w : World} {A : Around} {E : Value → Shared → Prop} {s : Shared} {β : Type} {vs : List Value} {bs : List β} {enc : β → PyData} {R : Value → β → Prop} {l : Addr} {Q : Value → Shared → Prop} (hl : s.heap.IsList l vs.toArray) (e : EachIs R vs bs) (er : EachIs (fun v b => ∃ as, Reads s.heap v (enc b) as) vs bs) (hal : AllAlike (bs.map enc)) (hk : SortableX (bs.map enc)) (hL : bs.length ≤ sizeLine)
    (hu : ∀ b, b ∈ bs → A.units + 2 + (enc b).depth < cLine) (h : ∀ out, out.length = bs.length → EachIs R out (bs.mergeSort (dataLe false enc)) → Q (.ref (s.heap.objs.size + 1)) { s with heap := PyProof.Rows.sortedAll s.heap vs (List.toArray out) }) :
    wpAny (model prog w) A (call (.builtin "sorted") [.ref l]) Q E s := by
  have er' : EachIs (fun v b => ∃ as, Reads (sortingHeap (copyHeap s.heap vs) (s.heap.objs.size + 1) vs) v (enc b) as) vs bs := er.mono fun _ _ ⟨as, r⟩ => ⟨as, PyProof.Rows.Reads.keeps (fun _ _ => sorting_copy_old) r⟩
  exact sorted_vals hl (SortsAt.dataX (s := { s with heap := sortingHeap (copyHeap s.heap vs) (s.heap.objs.size + 1) vs }) (each_map (R := fun v d => ∃ as, Reads (sortingHeap (copyHeap s.heap vs) (s.heap.objs.size + 1) vs) v d as) enc er') hal hk (bound_map hu)) (by rw [e.length]; exact hL)
    (h _ (by rw [sortVals_length false rfl]; exact e.length) (sortVals_data false e er' hal))
/-- pairs of what stands there and what it reads as -/
def rSortD (K : PySem.W.Frag) : List V → Hp → VK → Prop := fun vs H Q => ∃ (a : Addr) (ps : List (V × D)), vs = [V.ref a] ∧ SqL K H a (ps.map (·.1)) ∧ DpAll K H (ps.map (·.1)) (ps.map (·.2)) ∧ AllAlike (ps.map (·.2)) ∧ SortableX (ps.map (·.2)) ∧ (∀ p ∈ ps, p.2.depth ≤ 60) ∧
  ∀ l, H l = none → Q (.ref l) (upd H l (.lst ((ps.mergeSort (dataLe false (fun p : V × D => p.2))).map (·.1))))
theorem each_vals {ps : List (V × D)} : ∀ {its : List Value}, Vals (ps.map (·.1)) its → EachIs (fun (u : Value) (p : V × D) => RelV p.1 u) its ps := by
  induction ps with
  | nil => intro its h; cases h; exact .nil
  | cons p ps ih =>
    intro its h
    rw [List.map_cons] at h
    cases h with
    | cons h1 h2 => exact .cons h1 (ih h2)
theorem vals_each {ps : List (V × D)} : ∀ {its : List Value}, EachIs (fun (u : Value) (p : V × D) => RelV p.1 u) its ps → Vals (ps.map (·.1)) its := by
  induction ps with
  | nil => intro its h; cases h; exact .nil
  | cons p ps ih =>
    intro its h
    cases h with
    | cons h1 h2 => exact .cons h1 (ih h2)
theorem each_reads {pins : List (Addr × Obj)} {s : Shared} {σ : St} {H : Hp} (I : Inv X pins σ H s) {ps : List (V × D)} : ∀ {its : List Value}, DpAll X.K H (ps.map (·.1)) (ps.map (·.2)) → Vals (ps.map (·.1)) its → EachIs (fun (u : Value) (p : V × D) => ∃ as, Reads s.heap u p.2 as) its ps := by
  induction ps with
  | nil => intro its hd h; cases h; exact .nil
  | cons p ps ih =>
    intro its hd h
    rw [List.map_cons] at h hd
    cases h with
    | cons h1 h2 =>
      cases hd with
      | cons d1 d2 => exact .cons (Dp.reads I _ _ _ d1 h1) (ih d2 h2)
theorem cr_sortD (hu : X.A.units + 65 < cLine) : CallR X (.builtin "sorted") (rSortD X.K) := by
  intro pins s σ H vs us Q I r h
  obtain ⟨a, ps, rfl, hs, hd, hal, hk, hz, q⟩ := h
  rw [Vals.ref1 r]
  obtain ⟨its, rv, hl, hn⟩ := I.list hs
  refine sorted_dataX (R := fun (u : Value) (p : V × D) => RelV p.1 u) (enc := fun p : V × D => p.2) hl.isList (each_vals rv) (each_reads I hd rv) hal hk (by simpa using hn) (fun b hb => by have := hz b hb; omega) fun out ho eo => ?_
  obtain ⟨ep, he'⟩ := PyProof.Rows.sortedAll_at s.heap its out.toArray
  refine ⟨.ref _, upd H (s.heap.objs.size + 1) (.lst ((ps.mergeSort (dataLe false (fun p : V × D => p.2))).map (·.1))), I.laid (t' := s.toks) (fun _ _ => PyProof.Rows.sortedAll_old) (Nat.le_succ _) ⟨?_, out, ep, vals_each eo, he'⟩, rfl, q _ (I.hok.fresh (Nat.le_succ _))⟩
  rw [List.length_map, List.length_mergeSort]
  simpa using hn
end
end Mini

namespace Mini
open PySem PySem.Spec L2
section
variable {K : PySem.W.Frag} {O O' : Own} {H H' : Hp} {env : En} {σ : St} {i : Nat}
theorem W.lt (w : W K O H env σ) {s : Sl} (e : env[i]? = some s) : i < env.length ∧ i < σ.length := by
  have := (List.getElem?_eq_some_iff.mp e).1
  exact ⟨this, w.len ▸ this⟩
/-- slot i's content is replaced (σ the same there): the rest stands -/
theorem W.put {s t : Sl} {v : V} (w : W K O H env σ) (st : Step O H (Fp H s v) O' H' (Fp H' t v)) (e : env[i]? = some s) (es : σ[i]? = some (some v)) (r : RepS K O' H' t v) :
    W K O' H' (env.set i t) σ ∧ Step O H (FpE H env σ) O' H' (FpE H' (env.set i t) σ) := by
  obtain ⟨l1, l2⟩ := w.lt e
  have other : ∀ (j : Nat) (u : Sl) (x : V), j ≠ i → env[j]? = some u → σ[j]? = some (some x) → u = .no ∨ (RepS K O' H' u x ∧ ∀ b, Fp H' u x b → Fp H u x b) := fun j u x n e1 e2 => by
    rcases w.rep j u e1 with z | ⟨y, h1, h2⟩
    · exact .inl z
    · rw [e2] at h1; cases h1
      exact .inr (RepS.keep st h2 fun b f g => w.sep j i u s x v b n e1 e e2 es f g)
  have ofp : ∀ (j : Nat) (u : Sl) (x : V) (b : Addr), j ≠ i → env[j]? = some u → σ[j]? = some (some x) → Fp H' u x b → Fp H u x b := fun j u x b n e1 e2 f => by
    rcases other j u x n e1 e2 with rfl | z
    · exact f.elim
    · exact z.2 b f
  have get : ∀ (j : Nat) (u : Sl), (env.set i t)[j]? = some u → (j = i ∧ u = t) ∨ (j ≠ i ∧ env[j]? = some u) := fun j u z => by
    by_cases hj : j = i
    · subst hj; rw [List.getElem?_set_self l1] at z; exact .inl ⟨rfl, (Option.some.inj z).symm⟩
    · rw [List.getElem?_set_ne (Ne.symm hj)] at z; exact .inr ⟨hj, z⟩
  -- t's addresses are s's or new
  have tn : ∀ b, Fp H' t v b → Fp H s v b ∨ H b = none := fun b f => st.fps b f
  have apart : ∀ (j : Nat) (u : Sl) (x : V) (b : Addr), j ≠ i → env[j]? = some u → σ[j]? = some (some x) → Fp H' u x b → Fp H' t v b → False := fun j u x b n e1 e2 f g => by
    have f' := ofp j u x b n e1 e2 f
    rcases tn b g with z | z
    · exact w.sep j i u s x v b n e1 e e2 es f' z
    · obtain ⟨xs, q, _⟩ := w.own b (w.fpOwn ⟨j, u, x, e1, e2, f'⟩)
      rw [q] at z; cases z
  refine ⟨⟨st.own, by rw [List.length_set]; exact w.len, fun j u z => ?_, fun j k u y x z b n e1 e2 e3 e4 f1 f2 => ?_⟩, ⟨st.evo, st.own, fun b ob nf => st.keepO b ob fun f => nf ⟨i, s, v, e, es, f⟩, fun b ⟨j, u, x, e1, e2, f⟩ => ?_⟩⟩
  · rcases get j u z with ⟨rfl, rfl⟩ | ⟨n, z⟩
    · exact .inr ⟨v, es, r⟩
    · rcases w.rep j u z with q | ⟨y, h1, h2⟩
      · exact .inl q
      · rcases other j u y n z h1 with q | q
        · exact .inl q
        · exact .inr ⟨y, h1, q.1⟩
  · rcases get j u e1 with ⟨rfl, rfl⟩ | ⟨n1, q1⟩ <;> rcases get k y e2 with ⟨rfl, rfl⟩ | ⟨n2, q2⟩
    · exact n rfl
    · rw [es] at e3; cases e3; exact apart k y z b n2 q2 e4 f2 f1
    · rw [es] at e4; cases e4; exact apart j u x b n1 q1 e3 f1 f2
    · exact w.sep j k u y x z b n q1 q2 e3 e4 (ofp j u x b n1 q1 e3 f1) (ofp k y z b n2 q2 e4 f2)
  · rcases get j u e1 with ⟨rfl, rfl⟩ | ⟨n, q⟩
    · rw [es] at e2; cases e2
      rcases st.fps b f with z | z
      · exact .inl ⟨j, s, v, e, es, z⟩
      · exact .inr z
    · exact .inl ⟨j, u, x, q, e2, ofp j u x b n q e2 f⟩
/-- an owned list frozen where it stands -/
theorem W.freeze {xs : List D} (w : W K O H env σ) (e : env[i]? = some (.l xs)) : ∃ v O1, σ[i]? = some (some v) ∧ W K O1 H (env.set i (.v (.list xs))) σ ∧ Step O H (FpE H env σ) O1 H (FpE H (env.set i (.v (.list xs))) σ) ∧ RepD K O1 H (.list xs) v := by
  rcases w.rep i _ e with z | ⟨v, es, r⟩
  · cases z
  obtain ⟨a, vs, rfl, h1, h2, h3⟩ := id r
  have ev : Evo O H (fun b => O b ∧ b ≠ a) H := evo_less w.own fun b z => z.1
  have rd : RepD K (fun b => O b ∧ b ≠ a) H (.list xs) (.ref a) := by
    simp only [RepD]
    exact ⟨a, vs, rfl, h1, fun z => z.2 rfl, RepDs.evo ev _ _ h3⟩
  have st : Step O H (Fp H (.l xs) (.ref a)) (fun b => O b ∧ b ≠ a) H (Fp H (.v (.list xs)) (.ref a)) :=
    ⟨ev, fun b z => w.own b z.1, fun b z n => ⟨⟨z, fun q => n (by rw [q]; rfl)⟩, rfl⟩, fun b f => f.elim⟩
  obtain ⟨w1, s1⟩ := w.put st e es rd
  exact ⟨.ref a, _, es, w1, s1, rd⟩
/-- an owned list changed in place -/
theorem W.write {xs ys : List D} {us : List V} (w : W K O H env σ) (e : env[i]? = some (.l xs)) (a : Addr) (es : σ[i]? = some (some (.ref a))) (ry : RepDs K O H ys us) :
    W K O (upd H a (.lst us)) (env.set i (.l ys)) σ ∧ Step O H (FpE H env σ) O (upd H a (.lst us)) (FpE (upd H a (.lst us)) (env.set i (.l ys)) σ) := by
  rcases w.rep i _ e with z | ⟨v, es', r⟩
  · cases z
  rw [es] at es'; cases es'
  obtain ⟨a', vs, z, h1, h2, h3⟩ := r
  cases z
  have ev : Evo O H O (upd H a (.lst us)) := ⟨w.own, fun b o q n => by rw [upd_ne (fun z => n (by rw [z]; exact h2))]; exact q, fun b z => .inl z, fun b z => by
    by_cases hb : b = a
    · rw [hb, upd_same]; exact Option.some_ne_none _
    · rw [upd_ne hb]; exact z⟩
  have own' : OwnOk O (upd H a (.lst us)) := fun b z => by
    by_cases hb : b = a
    · rw [hb]; exact ⟨_, upd_same, .l us⟩
    · rw [upd_ne hb]; exact w.own b z
  have st : Step O H (Fp H (.l xs) (.ref a)) O (upd H a (.lst us)) (Fp (upd H a (.lst us)) (.l ys) (.ref a)) :=
    ⟨ev, own', fun b z n => ⟨z, upd_ne fun q => n (by rw [q]; rfl)⟩, fun b f => .inl f⟩
  exact w.put st e es ⟨a, us, rfl, upd_same, h2, RepDs.evo ev _ _ ry⟩
/-- a result stored: the slot's name takes it -/
theorem WR.store {r s : Sl} {v : V} (w : WR K O H env σ r v) (e : env[i]? = some s) (nb : s.isBx = false) :
    W K O H (env.set i r) (σ.set i (some v)) ∧ ∀ b, FpE H (env.set i r) (σ.set i (some v)) b → FpE H env σ b ∨ Fp H r v b := by
  obtain ⟨l1, l2⟩ := w.w.lt e
  have get : ∀ (j : Nat) (u : Sl), (env.set i r)[j]? = some u → (j = i ∧ u = r) ∨ (j ≠ i ∧ env[j]? = some u) := fun j u z => by
    by_cases hj : j = i
    · subst hj; rw [List.getElem?_set_self l1] at z; exact .inl ⟨rfl, (Option.some.inj z).symm⟩
    · rw [List.getElem?_set_ne (Ne.symm hj)] at z; exact .inr ⟨hj, z⟩
  have ge2 : ∀ (j : Nat), j ≠ i → (σ.set i (some v))[j]? = σ[j]? := fun j n => List.getElem?_set_ne (Ne.symm n)
  have ge1 : (σ.set i (some v))[i]? = some (some v) := List.getElem?_set_self l2
  refine ⟨⟨w.w.own, by rw [List.length_set, List.length_set]; exact w.w.len, fun j u z => ?_, fun j k u y x z b n e1 e2 e3 e4 f1 f2 => ?_⟩, fun b ⟨j, u, x, e1, e2, f⟩ => ?_⟩
  · rcases get j u z with ⟨rfl, rfl⟩ | ⟨n, z⟩
    · exact .inr ⟨v, ge1, w.val⟩
    · rw [ge2 j n]; exact w.w.rep j u z
  · rcases get j u e1 with ⟨rfl, rfl⟩ | ⟨n1, q1⟩ <;> rcases get k y e2 with ⟨rfl, rfl⟩ | ⟨n2, q2⟩
    · exact n rfl
    · rw [ge1] at e3; cases e3; rw [ge2 k n2] at e4; exact w.sep b f1 ⟨k, y, z, q2, e4, f2⟩
    · rw [ge1] at e4; cases e4; rw [ge2 j n1] at e3; exact w.sep b f2 ⟨j, u, x, q1, e3, f1⟩
    · rw [ge2 j n1] at e3; rw [ge2 k n2] at e4; exact w.w.sep j k u y x z b n q1 q2 e3 e4 f1 f2
  · rcases get j u e1 with ⟨rfl, rfl⟩ | ⟨n, q⟩
    · rw [ge1] at e2; cases e2; exact .inr f
    · rw [ge2 j n] at e2; exact .inl ⟨j, u, x, q, e2, f⟩
/-- a slot forgotten -/
theorem W.wipe1 (w : W K O H env σ) (i : Nat) : W K O H (env.set i .no) σ ∧ ∀ b, FpE H (env.set i .no) σ b → FpE H env σ b := by
  have get : ∀ (j : Nat) (u : Sl), (env.set i .no)[j]? = some u → u = .no ∨ env[j]? = some u := fun j u z => by
    by_cases hj : j = i
    · subst hj
      by_cases hl : j < env.length
      · rw [List.getElem?_set_self hl] at z; exact .inl (Option.some.inj z).symm
      · rw [List.getElem?_eq_none (by simpa using hl)] at z; cases z
    · rw [List.getElem?_set_ne (Ne.symm hj)] at z; exact .inr z
  refine ⟨⟨w.own, by rw [List.length_set]; exact w.len, fun j u z => ?_, fun j k u y x z b n e1 e2 e3 e4 f1 f2 => ?_⟩, fun b ⟨j, u, x, e1, e2, f⟩ => ?_⟩
  · rcases get j u z with q | q
    · exact .inl q
    · exact w.rep j u q
  · rcases get j u e1 with rfl | q1
    · exact f1
    · rcases get k y e2 with rfl | q2
      · exact f2
      · exact w.sep j k u y x z b n q1 q2 e3 e4 f1 f2
  · rcases get j u e1 with rfl | q
    · exact f.elim
    · exact ⟨j, u, x, q, e2, f⟩
theorem W.wipeE (w : W K O H env σ) : ∀ (own : List Nat), W K O H (wipeE env own) σ ∧ ∀ b, FpE H (wipeE env own) σ b → FpE H env σ b
  | [] => ⟨w, fun _ f => f⟩
  | v :: vs => by
    obtain ⟨w1, k1⟩ := W.wipeE w vs
    obtain ⟨w2, k2⟩ := w1.wipe1 v
    exact ⟨w2, fun b f => k1 b (k2 b f)⟩
end
end Mini

namespace Mini
open PySem PySem.Spec L2
theorem bOf_some {s : Sl} {k : Bool} (h : bOf s = some k) : s = .v (.bool k) := by
  unfold bOf at h
  split at h
  · cases h; rfl
  · cases h
section
variable {X : Cx} {e a b c : Expr} {ma mb mc : M} {pos : Pos}
/-! names, constants -/
theorem se_var {i : Nat} {x : Str} (hN : X.N[i]? = some x) (hv : Vis X.env.scope x) (hd : (x == ("__debug__" : Str)) = false) (hcd : (x == ("__classdict__" : Str)) = false) : SE X (.Name x pos) (varM i) := by
  have pe : PE X (.Name x pos) (tVar i) := pe_var hN hv hd hcd
  have po : PE X (.Name x pos) (tO X.K (varM i).opd) := pe.imp fun σ H Q q => by
    obtain ⟨O, env, p, env', w, h, q⟩ := q
    simp only [varM] at h
    split at h
    · rename_i d hd'
      cases h
      rcases w.rep i _ hd' with z | ⟨v, e1, e2⟩
      · cases z
      · exact ⟨v, e1, q O H v (Step.refl w.own) w e2⟩
    · rename_i xs hd'
      cases h
      rcases w.rep i _ hd' with z | ⟨v, e1, e2⟩
      · cases z
      · exact ⟨v, e1, q O H v (Step.refl w.own) w e1⟩
    · cases h
  refine ⟨pe.imp fun σ H Q q => ?_, po, pt_tr rfl po⟩
  obtain ⟨O, env, r, env', w, h, q⟩ := q
  simp only [varM] at h
  split at h
  · rename_i d hd'
    cases h
    rcases w.rep i _ hd' with z | ⟨v, e1, e2⟩
    · cases z
    · exact ⟨v, e1, q O H v ((Step.refl w.own).sub fun b f => f.elim id fun z => z.elim) ⟨w, e2, fun b f => f.elim⟩⟩
  · rename_i xs hd'
    cases h
    obtain ⟨v, O1, e1, w1, st, rd⟩ := w.freeze hd'
    exact ⟨v, e1, q O1 H v (st.sub fun b f => f.elim id fun z => z.elim) ⟨w1, rd, fun b f => f.elim⟩⟩
  · cases h
theorem te_cst {K : PySem.W.Frag} {d : D} {v : V} (r : ∀ (O : Own) (H : Hp), RepD K O H d v) {σ : St} {H : Hp} {Q : VK} (q : tE K (fun env => some (.v d, env)) σ H Q) : tC v σ H Q := by
  obtain ⟨O, env, s, env', w, h, q⟩ := q
  cases h
  exact q O H v ((Step.refl w.own).sub fun b f => f.elim id fun z => z.elim) ⟨w, r O H, fun b f => f.elim⟩
def cstD : Const → Option D
  | .none => some .none
  | .bool b => some (.bool b)
  | .int i => some (.int i)
  | .str s => some (.str s)
  | _ => none
theorem se_cst {k : Const} {j : Nat} {d : D} (h : cstD k = some d) : SE X (.Constant k j pos) (.ofVal fun env => some (.v d, env)) := by
  refine .ofVal rfl ?_
  cases k with
  | none => cases h; exact pe_non.imp fun _ _ _ q => te_cst (fun _ _ => by simp only [RepD]) q
  | bool b => cases h; exact pe_bl.imp fun _ _ _ q => te_cst (fun _ _ => by simp only [RepD]) q
  | int b => cases h; exact pe_int.imp fun _ _ _ q => te_cst (fun _ _ => by simp only [RepD]) q
  | str b => cases h; exact pe_str.imp fun _ _ _ q => te_cst (fun _ _ => by simp only [RepD]) q
  | _ => cases h
/-- a constant of the module -/
def GlOk (X : Cx) (x : Str) (d : D) : Prop := ∃ v u, X.mg x = some u ∧ RelV v u ∧ ∀ (O : Own) (H : Hp), RepD X.K O H d v
theorem se_glob {x : Str} {d : D} (hg : Gl X x) (h : GlOk X x d) (hd : (x == ("__debug__" : Str)) = false) : SE X (.Name x pos) (.ofVal fun env => some (.v d, env)) := by
  obtain ⟨v, u, hm, r, rd⟩ := h
  exact .ofVal rfl ((pe_glob hg hm r hd).imp fun _ _ _ q => te_cst rd q)
/-! operators -/
theorem se_bin {op : Operator} (ha : SE X a ma) (hb : SE X b mb) : SE X (.BinOp a op b pos) (op2 (binD op) ma mb) :=
  .ofVal rfl ((pe_op (or_bin op) ha.opd hb.opd).imp fun _ _ _ q => te_op2 (ho_bin op) q)
theorem se_neg (ha : SE X a ma) : SE X (.UnaryOp .USub a pos) (op1 negD ma) :=
  .ofVal rfl ((pe_un un_neg ha.opd).imp fun _ _ _ q => te_op1 ho_neg q)
theorem se_idx (ha : SE X a ma) (hb : SE X b mb) (hs : PlainIx b) : SE X (.Subscript a b pos) (op2 idxD ma mb) :=
  .ofVal rfl ((pe_ix (ix_list.or ix_tup) ha.opd hb.opd hs).imp fun _ _ _ q => te_op2 ho_idx q)
/-- a comparison, as a value and as a test -/
theorem se_of_cmp {f : En → Option (Sl × En)} (h : PE X e (tE X.K f)) (ht : PT X e (tT X.K (M.cmp f).tst)) : SE X e (.cmp f) :=
  ⟨h, pe_opd (pe_frz h), ht⟩
theorem tt_of_te {K : PySem.W.Frag} {f : En → Option (Sl × En)} {σ : St} {H : Hp} {Q : Bool → Hp → Prop} (q : tT K (M.cmp f).tst σ H Q) : tE K f σ H fun x H' => ∃ k, x = .bl k ∧ Q k H' := by
  obtain ⟨O, env, b, env', w, h, q⟩ := q
  simp only [M.cmp, Option.bind_eq_some_iff, Option.map_eq_some_iff] at h
  obtain ⟨⟨s, e1⟩, h1, b', h2, h3⟩ := h
  cases h3
  refine ⟨O, env, s, e1, w, h1, fun O' H' v st wr => ?_⟩
  have e2 : s = .v (.bool b) := bOf_some h2
  subst e2
  have e3 : v = .bl b := by simpa only [RepS, RepD] using wr.val
  exact ⟨b, e3, q O' H' (st.sub fun b f => .inl f) wr.w⟩
theorem se_cmp {k : Nat} (hr : Room k X.A) {op : CmpOp} (ha : SE X a ma) (hb : SE X b mb) (hm : behindInMarks op b = false) : SE X (.Compare a [op] [b] pos) (cmpM op ma mb) :=
  se_of_cmp ((pe_cmpR (or_cmp hr op) ha.opd hb.opd hm).imp fun _ _ _ q => te_op2 (ho_cmp op) q)
    ((pt_cmpR (or_cmp hr op) ha.opd hb.opd hm).imp fun σ H Q q => te_op2 (ho_cmp op) (tt_of_te q))
theorem te_isn {K : PySem.W.Frag} {ng : Bool} {σ : St} {H : Hp} {Q : VK} (q : tE K (op1 (isnD ng) ma).val σ H Q) : tO K ma.opd σ H fun x H1 => Q (.bl (if ng then !decide (x = .non) else decide (x = .non))) H1 := by
  refine te_op1 (r := fun x H Q => Q (.bl (if ng then !decide (x = .non) else decide (x = .non))) H) (fun O H d x res Q own h e q => ?_) q
  rw [isnD_eq] at e
  cases e
  rw [isn_rep h]
  exact q.same own (by simp only [RepD])
theorem se_is {j : Nat} {p : Pos} (ha : SE X a ma) : SE X (.Compare a [.Is] [.Constant .none j p] pos) (isnM false ma) :=
  se_of_cmp ((pe_cmp (pc_isN ha.opd)).imp fun _ _ _ q => te_isn (ng := false) q) ((pt_cmp (pc_isN ha.opd)).imp fun _ _ _ q => te_isn (ng := false) (tt_of_te q))
theorem se_isnot {j : Nat} {p : Pos} (ha : SE X a ma) : SE X (.Compare a [.IsNot] [.Constant .none j p] pos) (isnM true ma) :=
  se_of_cmp ((pe_cmp (pc_notN ha.opd)).imp fun _ _ _ q => te_isn (ng := true) q) ((pt_cmp (pc_notN ha.opd)).imp fun _ _ _ q => te_isn (ng := true) (tt_of_te q))
/-! a < b < c -/
theorem te_chn {K : PySem.W.Frag} {o1 o2 : CmpOp} {σ : St} {H : Hp} {Q : VK} (q : tE K (chnM o1 o2 ma mb mc).val σ H Q) : tChain (rCmp K o1) (rCmp K o2) (tO K ma.opd) (tO K mb.opd) (tO K mc.opd) σ H Q := by
  obtain ⟨O, env, s, env', w, e, q⟩ := q
  simp only [chnM, M.cmp, M.ofVal, Option.bind_eq_some_iff] at e
  obtain ⟨⟨p, e1⟩, h1, ⟨p2, e2⟩, h2, d, h3, d2, h4, r, h5, k, h6, h7⟩ := e
  have er := bOf_some h6
  subst er
  refine ⟨O, env, p, e1, w, h1, fun O1 H1 v1 st1 w1 rp1 => ⟨O1, e1, p2, e2, w1, h2, fun O2 H2 v2 st2 w2 rp2 => ?_⟩⟩
  have st12 := st1.trans st2 fun _ z => z
  refine ho_cmp o1 O2 H2 d d2 v1 v2 _ _ w2.own (RepO.get w2 (RepO.evo st2.evo rp1) h3) (RepO.get w2 rp2 h4) h5 (RP.end_ w2 fun O3 H3 v3 st3 wr => ?_)
  have e3 : v3 = .bl k := by simpa only [RepS, RepD] using wr.val
  have st123 := st12.trans st3 fun _ z => z
  refine ⟨k, e3, ?_⟩
  cases k with
  | false =>
    rw [if_neg (by decide)] at h7
    cases h7
    rw [if_neg (by decide)]
    exact q O3 H3 (.bl false) st123 ⟨wr.w, by simp only [RepS, RepD], fun b f => f.elim⟩
  | true =>
    rw [if_pos rfl] at h7
    simp only [Option.bind_eq_some_iff, Option.map_eq_some_iff] at h7
    obtain ⟨⟨p3, e4⟩, h8, y2, h9, z, h10, r2, h11, h12⟩ := h7
    cases h12
    rw [if_pos rfl]
    refine ⟨O3, e2, p3, e4, wr.w, h8, fun O4 H4 v4 st4 w4 rp4 => ?_⟩
    refine ho_cmp o2 O4 H4 y2 z v2 v4 _ _ w4.own (RepO.get w4 (RepO.evo st4.evo (RepO.evo st3.evo rp2)) h9) (RepO.get w4 rp4 h10) h11 (RP.end_ w4 fun O5 H5 v5 st5 wr5 => ?_)
    exact q O5 H5 v5 ((st123.trans st4 fun _ z => .inl z).trans st5 fun _ z => z) wr5
theorem se_chn {k : Nat} (hr : Room k X.A) {o1 o2 : CmpOp} (ha : SE X a ma) (hb : SE X b mb) (hc : SE X c mc) (pe : PE X (.Compare a [o1, o2] [b, c] pos) (tChain (rCmp X.K o1) (rCmp X.K o2) (tO X.K ma.opd) (tO X.K mb.opd) (tO X.K mc.opd)))
    (pt : PT X (.Compare a [o1, o2] [b, c] pos) (tTest (tChain (rCmp X.K o1) (rCmp X.K o2) (tO X.K ma.opd) (tO X.K mb.opd) (tO X.K mc.opd)))) : SE X (.Compare a [o1, o2] [b, c] pos) (chnM o1 o2 ma mb mc) :=
  se_of_cmp (pe.imp fun _ _ _ q => te_chn q) (pt.imp fun _ _ _ q => te_chn (tt_of_te q))
/-! not, and, or, if else -/
theorem te_tru {K : PySem.W.Frag} {g : En → Option (Opd × En)} {σ : St} {H : Hp} {Q : Bool → Hp → Prop} (q : tT K (trM g) σ H Q) : tO K g σ H fun x H' => ∃ k, TruV K x H' k ∧ Q k H' := by
  obtain ⟨O, env, b, env', w, h, q⟩ := q
  simp only [trM, Option.bind_eq_some_iff, Option.map_eq_some_iff] at h
  obtain ⟨⟨p, e1⟩, h1, d, h2, k, h3, h4⟩ := h
  cases h4
  exact ⟨O, env, p, e1, w, h1, fun O' H' v st w' r => ⟨b, truth_tru (RepO.get w' r h2) h3, q O' H' st w'⟩⟩
theorem se_not (ha : SE X a ma) : SE X (.UnaryOp .Not a pos) (notM ma) := by
  have pe : PE X (.UnaryOp .Not a pos) (tE X.K (notM ma).val) := (pe_notT ha.opd).imp fun σ H Q q => by
    obtain ⟨O, env, s, env', w, h, q⟩ := q
    simp only [notM, M.ofVal, Option.map_eq_some_iff] at h
    obtain ⟨⟨k, e1⟩, h1, h2⟩ := h
    cases h2
    exact te_tru (Q := fun k H1 => Q (.bl (!k)) H1) ⟨O, env, k, e1, w, h1, fun O' H' st w' => q O' H' (.bl (!k)) (st.sub fun b f => f.elim id fun z => z.elim) ⟨w', by simp only [RepS, RepD], fun b f => f.elim⟩⟩
  refine ⟨pe, pe_opd (pe_frz pe), (pt_not ha.tst).imp fun σ H Q q => ?_⟩
  obtain ⟨O, env, s, env', w, h, q⟩ := q
  simp only [notM, Option.map_eq_some_iff] at h
  obtain ⟨⟨k, e1⟩, h1, h2⟩ := h
  cases h2
  exact ⟨O, env, k, e1, w, h1, q⟩
/-- the items of and, or -/
inductive SEs (X : Cx) : List Expr → List M → Prop
  | nil : SEs X [] []
  | cons {e es m ms} : SE X e m → SEs X es ms → SEs X (e :: es) (m :: ms)
theorem bopV_two {o : BoolOp} {a b : M} {r : List M} {env : En} : bopV o (a :: b :: r) env = (frzM a.val env).bind fun (d, e1) => (truth d).bind fun k => if k == isAnd o then bopV o (b :: r) e1 else some (d, e1) := rfl
theorem bopT_two {o : BoolOp} {a b : M} {r : List M} {env : En} : bopT o (a :: b :: r) env = (a.tst env).bind fun (k, e1) => if k == isAnd o then bopT o (b :: r) e1 else some (k, e1) := rfl
theorem pe_bop {o : BoolOp} : ∀ {es : List Expr} {ms : List M}, es ≠ [] → SEs X es ms → PE X (.BoolOp o es pos) (tD X.K (bopV o ms))
  | [], _, n, _ => absurd rfl n
  | [e], _, _, .cons h .nil => pe_one h.d
  | e :: e2 :: es, _, _, .cons (ms := m2 :: ms) (m := m) h (.cons h2 hs) => by
    have ih := pe_bop (o := o) (es := e2 :: es) (by simp) (.cons h2 hs)
    have key : ∀ {σ : St} {H : Hp} {Q : VK}, tD X.K (bopV o (m :: m2 :: ms)) σ H Q → tD X.K (frzM m.val) σ H fun x H1 => ∃ k, TruV X.K x H1 k ∧ if (k == isAnd o) = true then tD X.K (bopV o (m2 :: ms)) σ H1 Q else Q x H1 := by
      intro σ H Q q
      obtain ⟨O, env, d, env', w, h, q⟩ := q
      rw [bopV_two] at h
      simp only [Option.bind_eq_some_iff] at h
      obtain ⟨⟨d1, e1⟩, h1, k, h2, h3⟩ := h
      refine ⟨O, env, d1, e1, w, h1, fun O1 H1 v1 st1 w1 r1 => ⟨k, truth_tru (.inl r1) h2, ?_⟩⟩
      split at h3
      · rename_i hk
        rw [if_pos hk]
        exact ⟨O1, e1, d, env', w1, h3, fun O2 H2 v2 st2 w2 r2 => q O2 H2 v2 (st1.trans st2 fun _ z => z) w2 r2⟩
      · rename_i hk
        cases h3
        rw [if_neg hk]
        exact q O1 H1 v1 st1 w1 r1
    cases o with
    | And =>
      refine (pe_andT h.d ih).imp fun σ H Q q => ?_
      obtain ⟨O, env, d, env', w, h, q⟩ := key q
      refine ⟨O, env, d, env', w, h, fun O' H' v st w' r => ?_⟩
      obtain ⟨k, t, q⟩ := q O' H' v st w' r
      refine ⟨k, t, ?_⟩
      cases k <;> exact q
    | Or =>
      refine (pe_orT h.d ih).imp fun σ H Q q => ?_
      obtain ⟨O, env, d, env', w, h, q⟩ := key q
      refine ⟨O, env, d, env', w, h, fun O' H' v st w' r => ?_⟩
      obtain ⟨k, t, q⟩ := q O' H' v st w' r
      refine ⟨k, t, ?_⟩
      cases k <;> exact q
theorem pw_bop {o : BoolOp} : ∀ {es : List Expr} {ms : List M}, es ≠ [] → SEs X es ms → PW X (.BoolOp o es pos) (tT X.K (bopT o ms))
  | [], _, n, _ => absurd rfl n
  | [e], _, _, .cons h .nil => by cases o; exact pw_and1 h.tst; exact pw_or1 h.tst
  | e :: e2 :: es, _, _, .cons (ms := m2 :: ms) (m := m) h (.cons h2 hs) => by
    have ih := pw_bop (o := o) (es := e2 :: es) (by simp) (.cons h2 hs)
    have key : ∀ {σ : St} {H : Hp} {Q : Bool → Hp → Prop}, tT X.K (bopT o (m :: m2 :: ms)) σ H Q → tT X.K m.tst σ H fun k H1 => if (k == isAnd o) = true then tT X.K (bopT o (m2 :: ms)) σ H1 Q else Q k H1 := by
      intro σ H Q q
      obtain ⟨O, env, d, env', w, h, q⟩ := q
      rw [bopT_two] at h
      simp only [Option.bind_eq_some_iff] at h
      obtain ⟨⟨k, e1⟩, h1, h3⟩ := h
      refine ⟨O, env, k, e1, w, h1, fun O1 H1 st1 w1 => ?_⟩
      split at h3
      · rename_i hk
        rw [if_pos hk]
        exact ⟨O1, e1, d, env', w1, h3, fun O2 H2 st2 w2 => q O2 H2 (st1.trans st2 fun _ z => z) w2⟩
      · rename_i hk
        cases h3
        rw [if_neg hk]
        exact q O1 H1 st1 w1
    cases o with
    | And =>
      refine (pw_and h.tst ih).imp fun σ H Q q => ?_
      obtain ⟨O, env, k, env', w, h, q⟩ := key q
      refine ⟨O, env, k, env', w, h, fun O' H' st w' => ?_⟩
      have q := q O' H' st w'
      cases k <;> exact q
    | Or =>
      refine (pw_or h.tst ih).imp fun σ H Q q => ?_
      obtain ⟨O, env, k, env', w, h, q⟩ := key q
      refine ⟨O, env, k, env', w, h, fun O' H' st w' => ?_⟩
      have q := q O' H' st w'
      cases k <;> exact q
theorem pe_v {f : En → Option (D × En)} (h : PE X e (tD X.K f)) : PE X e (tE X.K fun env => (f env).map fun (d, e1) => (.v d, e1)) := h.imp fun σ H Q q => by
  obtain ⟨O, env, s, env', w, e, q⟩ := q
  simp only [Option.map_eq_some_iff] at e
  obtain ⟨⟨d, e1⟩, h1, h2⟩ := e
  cases h2
  exact ⟨O, env, d, e1, w, h1, fun O' H' v st w' r => q O' H' v (st.sub fun b f => f.elim id fun z => z.elim) ⟨w', r, fun b f => f.elim⟩⟩
theorem se_bop {o : BoolOp} {es : List Expr} {ms : List M} (n : es ≠ []) (h : SEs X es ms) : SE X (.BoolOp o es pos) (bopM o ms) :=
  ⟨pe_v (pe_bop n h), pe_opd (pe_frz (pe_v (pe_bop n h))), (pw_bop n h).pt⟩
theorem te_ite {K : PySem.W.Frag} {σ : St} {H : Hp} {Q : VK} (q : tE K (iteM mc ma mb).val σ H Q) : tIf (tT K mc.tst) (tE K ma.val) (tE K mb.val) σ H Q := by
  obtain ⟨O, env, s, env', w, h, q⟩ := q
  simp only [iteM, M.ofVal, Option.bind_eq_some_iff] at h
  obtain ⟨⟨k, e1⟩, h1, h2⟩ := h
  refine ⟨O, env, k, e1, w, h1, fun O1 H1 st1 w1 => ?_⟩
  split at h2
  · rename_i hk
    rw [if_pos hk]
    exact ⟨O1, e1, s, env', w1, h2, fun O2 H2 v st2 wr => q O2 H2 v (st1.trans st2 fun _ z => z) wr⟩
  · rename_i hk
    rw [if_neg hk]
    exact ⟨O1, e1, s, env', w1, h2, fun O2 H2 v st2 wr => q O2 H2 v (st1.trans st2 fun _ z => z) wr⟩
theorem pt_ite (hc : PT X c (tT X.K mc.tst)) (ha : PT X a (tT X.K ma.tst)) (hb : PT X b (tT X.K mb.tst)) : PT X (.IfExp c a b pos) (tT X.K (iteM mc ma mb).tst) := by
  refine ⟨fun pins s σ H Q I q => ?_⟩
  obtain ⟨O, env, k, env', w, h, q⟩ := q
  simp only [iteM, Option.bind_eq_some_iff] at h
  obtain ⟨⟨k1, e1⟩, h1, h2⟩ := h
  have e : ∀ wh, PySem.isTrue (.IfExp c a b pos) X.env wh = (do
    if ← PySem.isTrue c X.env (eval c X.env) then PySem.isTrue a X.env (eval a X.env) else PySem.isTrue b X.env (eval b X.env)) := by
    intro wh; simp only [PySem.isTrue]
  rw [e]
  refine wpAny_bind (thn (hc.run pins s σ H (fun k H1 => if k = true then tT X.K ma.tst σ H1 Q else tT X.K mb.tst σ H1 Q) I ⟨O, env, k1, e1, w, h1, fun O1 H1 st1 w1 => ?_⟩) fun d s1 ⟨H1, I1, q1⟩ => ?_)
  · split at h2
    · rename_i hk
      rw [if_pos hk]
      exact ⟨O1, e1, k, env', w1, h2, fun O2 H2 st2 w2 => q O2 H2 (st1.trans st2 fun _ z => z) w2⟩
    · rename_i hk
      rw [if_neg hk]
      exact ⟨O1, e1, k, env', w1, h2, fun O2 H2 st2 w2 => q O2 H2 (st1.trans st2 fun _ z => z) w2⟩
  · cases d with
    | true => exact ha.run pins s1 σ H1 Q I1 q1
    | false => exact hb.run pins s1 σ H1 Q I1 q1
theorem se_ite (hc : SE X c mc) (ha : SE X a ma) (hb : SE X b mb) : SE X (.IfExp c a b pos) (iteM mc ma mb) := by
  have pe : PE X (.IfExp c a b pos) (tE X.K (iteM mc ma mb).val) := (pe_ifExp hc.tst ha.val hb.val).imp fun _ _ _ q => te_ite q
  exact ⟨pe, pe_opd (pe_frz pe), pt_ite hc.tst ha.tst hb.tst⟩
/-! argument lists -/
def notStar : Expr → Bool
  | .Starred _ _ => false
  | _ => true
theorem star_of {e : Expr} {es : List Expr} {env : PySem.Env} (h : notStar e = true) : starEach (e :: es) env = (false, eval e env) :: starEach es env := by
  cases e <;> first | rfl | cases h
theorem pa_args : ∀ {es : List Expr} {ms : List M}, es.all notStar = true → SEs X es ms → PA X es (tAr X.K (argsM ms))
  | [], _, _, .nil => pa_nil.imp fun σ H Q q => by
    obtain ⟨O, env, ds, env', w, h, q⟩ := q
    cases h
    exact q O H [] (Step.refl w.own) w (by simp only [RepDs])
  | e :: es, _, n, .cons (m := m) (ms := ms) h hs => by
    simp only [List.all_cons, Bool.and_eq_true] at n
    refine (pa_cons h.d (pa_args n.2 hs) (star_of n.1)).imp fun σ H Q q => ?_
    obtain ⟨O, env, ds, env', w, h, q⟩ := q
    simp only [argsM, Option.bind_eq_some_iff, Option.map_eq_some_iff] at h
    obtain ⟨⟨d, e1⟩, h1, ⟨ds', e2⟩, h2, h3⟩ := h
    cases h3
    refine ⟨O, env, d, e1, w, h1, fun O1 H1 v1 st1 w1 r1 => ⟨O1, e1, ds', e2, w1, h2, fun O2 H2 vs st2 w2 r2 => ?_⟩⟩
    exact q O2 H2 (v1 :: vs) (st1.trans st2 fun _ z => z) w2 (by simp only [RepDs]; exact ⟨v1, vs, rfl, RepD.evo st2.evo _ _ r1, r2⟩)
theorem pa_ops : ∀ {es : List Expr} {ms : List M}, es.all notStar = true → SEs X es ms → PA X es (tOs X.K (opsM ms))
  | [], _, _, .nil => pa_nil.imp fun σ H Q q => by
    obtain ⟨O, env, ds, env', w, h, q⟩ := q
    cases h
    exact q O H [] (Step.refl w.own) w rfl
  | e :: es, _, n, .cons (m := m) (ms := ms) h hs => by
    simp only [List.all_cons, Bool.and_eq_true] at n
    refine (pa_cons h.opd (pa_ops n.2 hs) (star_of n.1)).imp fun σ H Q q => ?_
    obtain ⟨O, env, ds, env', w, h, q⟩ := q
    simp only [opsM, Option.bind_eq_some_iff, Option.map_eq_some_iff] at h
    obtain ⟨⟨d, e1⟩, h1, ⟨ds', e2⟩, h2, h3⟩ := h
    cases h3
    refine ⟨O, env, d, e1, w, h1, fun O1 H1 v1 st1 w1 r1 => ⟨O1, e1, ds', e2, w1, h2, fun O2 H2 vs st2 w2 r2 => ?_⟩⟩
    exact q O2 H2 (v1 :: vs) (st1.trans st2 fun _ z => z) w2 ⟨v1, vs, rfl, RepO.evo st2.evo r1, r2⟩
/-- displays -/
theorem se_tup {es : List Expr} {ms : List M} {k : Nat} (n : es.all notStar = true) (h : SEs X es ms) : SE X (.Tuple es k pos) (tupM ms) :=
  .ofVal rfl ((L2.pe_tup (pa_args n h)).imp fun σ H Q q => by
    obtain ⟨O, env, s, env', w, h, q⟩ := q
    simp only [Option.bind_eq_some_iff] at h
    obtain ⟨⟨ds, e1⟩, h1, h2⟩ := h
    split at h2
    · rename_i hl
      cases h2
      refine ⟨O, env, ds, e1, w, h1, fun O1 H1 vs st1 w1 r1 => ⟨by rw [← r1.length]; exact hl, fun p hp => ?_⟩⟩
      exact RP.tup w1.own (RP.end_ w1 fun O2 H2 v2 st2 wr => q O2 H2 v2 (st1.trans st2 fun _ z => z) wr) r1 p hp
    · cases h2)
theorem se_lst {es : List Expr} {ms : List M} (n : es.all notStar = true) (h : SEs X es ms) : SE X (.List es pos) (lstM ms) :=
  .ofVal rfl ((L2.pe_lst (pa_args n h)).imp fun σ H Q q => by
    obtain ⟨O, env, s, env', w, h, q⟩ := q
    simp only [Option.bind_eq_some_iff] at h
    obtain ⟨⟨ds, e1⟩, h1, h2⟩ := h
    split at h2
    · rename_i hl
      cases h2
      refine ⟨O, env, ds, e1, w, h1, fun O1 H1 vs st1 w1 r1 => ⟨by rw [← r1.length]; exact hl, fun p hp => ?_⟩⟩
      exact RP.lst w1.own (RP.end_ w1 fun O2 H2 v2 st2 wr => q O2 H2 v2 (st1.trans st2 fun _ z => z) wr) r1 p hp
    · cases h2)
end
end Mini

namespace HT
open PySem PySem.Spec PyProof.Rows
section
variable {prog : Program} {w : World} {A : Around} {E : Value → Shared → Prop} {s : Shared}
theorem places_rev (n : Nat) : Builtin.Slice.slicePlaces ((n : Int) - 1) (-1) (-1) = n := by
  unfold Builtin.Slice.slicePlaces
  have h1 : ¬ (-1 : Int) > 0 := by omega
  simp only [h1, if_false]
  try simp
  try omega
theorem adjust_rev (n : Nat) : Builtin.Slice.sliceAdjust none none (-1) (n : Int) = ((n : Int) - 1, -1) := by
  unfold Builtin.Slice.sliceAdjust
  simp
theorem sliceApplied_rev {sl : Addr} {t : Tok} {n : Nat} {Q : Int × Int × Nat → Shared → Prop} (hs : s.heap.IsSliceOf sl .none .none (.int (-1) t))
    (h : Q ((n : Int) - 1, -1, n) s) : wpAny (model prog w) A (Builtin.Slice.sliceApplied (.ref sl) (pure (n : Int))) Q E s := by
  obtain ⟨os, hos, hcs, hds⟩ := id hs
  unfold Builtin.Slice.sliceApplied Builtin.Slice.sliceFields
  refine wpAny_bind (wpAny_bind (wpAny_field hos hds (x := .none) rfl (wpAny_bind (wpAny_field hos hds (x := .none) rfl (wpAny_bind (wpAny_field hos hds (x := .int (-1) t) rfl (wpAny_pure ?_)))))))
  refine wpAny_bind (slicePart_ (.int (-1) t) ?_)
  show wpAny _ _ (if ((-1 : Int) == 0) = true then _ else _) _ _ s
  rw [if_neg (by decide)]
  refine wpAny_bind (slicePart_ .none (wpAny_bind (slicePart_ .none (wpAny_bind (wpAny_pure ?_)))))
  show wpAny _ _ (match Builtin.Slice.sliceAdjust none none (-1) (n : Int) with | (lo, hi) => pure (lo, (-1 : Int), Builtin.Slice.slicePlaces lo hi (-1))) _ _ s
  rw [adjust_rev n]
  show wpAny _ _ (pure (((n : Int) - 1), (-1 : Int), Builtin.Slice.slicePlaces ((n : Int) - 1) (-1) (-1))) _ _ s
  rw [places_rev]
  exact wpAny_pure h
theorem fm_congr {α β : Type} {f g : α → Option β} : ∀ {xs : List α}, (∀ x ∈ xs, f x = g x) → xs.filterMap f = xs.filterMap g
  | [], _ => rfl
  | x :: xs, h => by
    rw [List.filterMap_cons, List.filterMap_cons, h x List.mem_cons_self, fm_congr fun y hy => h y (List.mem_cons_of_mem _ hy)]
theorem pick_rev (xs : Array Value) : ((List.range xs.size).filterMap fun (m : Nat) => xs[(((xs.size : Int) - 1) + (m : Int) * (-1)).toNat]?).toArray = xs.toList.reverse.toArray := by
  have e : (List.range xs.size).filterMap (fun (m : Nat) => xs[(((xs.size : Int) - 1) + (m : Int) * (-1)).toNat]?) = (List.range xs.size).filterMap (fun m => xs[xs.size - 1 - m]?) := by
    apply fm_congr
    intro m hm
    have := List.mem_range.mp hm
    have e2 : (((xs.size : Int) - 1) + (m : Int) * (-1)).toNat = xs.size - 1 - m := by omega
    rw [e2]
  rw [e]
  have e3 : (List.range xs.size).filterMap (fun m => xs[xs.size - 1 - m]?) = ((List.range xs.size).map fun k => xs.size - 1 - k).filterMap (xs[·]?) := by
    rw [List.filterMap_map]; rfl
  rw [e3, PySem.W.krv_range, List.filterMap_reverse, PySem.W.krv_all]
theorem getItem_tuple_rev {t sl : Addr} {items : Array Value} {tk : Tok} {Q : Value → Shared → Prop} (ht : IsTup s.heap t items) (hs : s.heap.IsSliceOf sl .none .none (.int (-1) tk))
    (h : Q (.ref s.heap.objs.size) { s with heap := s.heap.push { cls := .type "tuple", data := .seq items.toList.reverse.toArray } })
    (hsz : items.size ≤ sizeLine) : wpAny (model prog w) A (getItem (.ref t) (.ref sl)) Q E s := by
  have htake : sizeOk (.seq items.toList.reverse.toArray) := by
    show items.toList.reverse.toArray.size ≤ sizeLine
    rw [List.size_toArray, List.length_reverse, Array.length_toList]
    omega
  obtain ⟨os, hos, hcs, hds⟩ := id hs
  have hTs : s.TypeIs (.ref sl) "slice" := ⟨os, hos, hcs⟩
  unfold getItem
  try with_reducible refine wpAny_holding ?_
  first | refine wpAny_bind (wpAny_pure ?_) | skip
  refine wpAny_bind (wpAny_sequenceKey ht.typeIs (by decide) ?_)
  refine wpAny_bind (wpAny_callSpecial?_slot (name := Str.ofString "__getitem__") ht.typeIs PyProof.Rows.slot_tuple_getitem
    (wpAny_call_entry PyProof.Rows.slot_tuple_getitem ht.typeIs entry_tuple_getitem ?_ (args_tuple_getitem _ _)))
  show wpAny _ _ (Builtin.Tuple.tupleItemsOf (.ref t) >>= _) _ _ s
  refine wpAny_bind (tupleItemsOf_ ht ?_)
  refine wpAny_bind (wpAny_typeOf hTs ?_)
  rw [if_pos (by decide)]
  refine wpAny_bind (sliceApplied_rev hs ?_)
  have hno : ¬ ((((items.size : Int) - 1) == 0 && (-1 : Int) == 1 && items.size == items.size) = true) := by
    intro q
    rw [Bool.and_eq_true, Bool.and_eq_true] at q
    exact absurd (eq_of_beq q.1.2) (by decide)
  show wpAny _ _ (if (((items.size : Int) - 1) == 0 && (-1 : Int) == 1 && items.size == items.size) = true then _ else _) _ _ s
  rw [if_neg hno, pick_rev]
  first
    | exact wpAny_bind (m := Builtin.Tuple.tupleExact _) (wpAny_newObj_type (wpAny_pure ⟨_, rfl, wpAny_pure h⟩) htake)
    | exact wpAny_bind (m := Builtin.Tuple.tupleExact _) (wpAny_newObj_type (wpAny_bind (wpAny_pure (wpAny_pure ⟨_, rfl, wpAny_pure h⟩))) htake)
    | exact wpAny_bind (wpAny_bind (m := Builtin.Tuple.tupleExact _) (wpAny_newObj_type (wpAny_pure (wpAny_pure ⟨_, rfl, wpAny_pure h⟩)) htake))
    | exact wpAny_bind (wpAny_bind (m := Builtin.Tuple.tupleExact _) (wpAny_newObj_type (wpAny_pure ⟨_, rfl, wpAny_pure h⟩) htake))
end
end HT
namespace HT
open PySem PySem.Spec PyProof.Rows
section
variable {prog : Program} {w : World} {A : Around} {E : Value → Shared → Prop} {s : Shared}
theorem noI_tuple_add : typeLookup (.type "tuple") (dunderI "add") = pure none := by
  rw [typeLookup_type, builtinLookup_eq_fast]; kernel_rfl
theorem icat_tup0 {t b : Addr} {ws : List Value} {Q : Value → Shared → Prop} (ht : IsTup s.heap t ([] : List Value).toArray) (hb : IsTup s.heap b ws.toArray) (h : Q (.ref b) s) : wpAny (model prog w) A (inplaceOp .Add (.ref t) (.ref b)) Q E s := by
  obtain ⟨⟨cls, dd, data, sl⟩, ho, hc, n, hd⟩ := id ht
  obtain ⟨⟨cls2, dd2, data2, sl2⟩, ho2, hc2, n2, hd2⟩ := id hb
  simp only at hc hd hc2 hd2
  subst hc hd hc2 hd2
  exact wpAny_inplaceOp_concat ⟨_, ho, rfl⟩ ⟨_, ho2, rfl⟩ noI_tuple_add noFill_tuple_add seq_tuple_add (call_meets PySem.F.slot_tuple_add ⟨_, ho, rfl⟩ PySem.F.entry_tuple_add (PySem.F.args_tuple_add_2 _ _)
    (tuple_addW0 t b ([] : List Value).toArray ws.toArray n n2 dd dd2 sl sl2 (by simp)) ⟨ho, ho2, h⟩)
theorem icat_tup {t b : Addr} {vs ws : List Value} {Q : Value → Shared → Prop} (ht : IsTup s.heap t vs.toArray) (hb : IsTup s.heap b ws.toArray) (hv : vs ≠ [])
    (h1 : ws = [] → Q (.ref t) s) (h2 : ws ≠ [] → Q (.ref s.heap.objs.size) { s with heap := s.heap.push { cls := .type "tuple", data := .seq (vs ++ ws).toArray } })
    (hsz : vs.length + ws.length ≤ sizeLine) : wpAny (model prog w) A (inplaceOp .Add (.ref t) (.ref b)) Q E s := by
  obtain ⟨⟨cls, dd, data, sl⟩, ho, hc, n, hd⟩ := id ht
  obtain ⟨⟨cls2, dd2, data2, sl2⟩, ho2, hc2, n2, hd2⟩ := id hb
  simp only at hc hd hc2 hd2
  subst hc hd hc2 hd2
  have e : vs.toArray ++ ws.toArray = (vs ++ ws).toArray := by simp
  by_cases hw : ws = []
  · exact wpAny_inplaceOp_concat ⟨_, ho, rfl⟩ ⟨_, ho2, rfl⟩ noI_tuple_add noFill_tuple_add seq_tuple_add (call_meets PySem.F.slot_tuple_add ⟨_, ho, rfl⟩ PySem.F.entry_tuple_add (PySem.F.args_tuple_add_2 _ _)
      (tuple_addW1 t b vs.toArray ws.toArray n n2 dd dd2 sl sl2 (by simpa using hv) (by simp [hw])) ⟨ho, ho2, h1 hw⟩)
  · refine wpAny_inplaceOp_concat ⟨_, ho, rfl⟩ ⟨_, ho2, rfl⟩ noI_tuple_add noFill_tuple_add seq_tuple_add (call_meets PySem.F.slot_tuple_add ⟨_, ho, rfl⟩ PySem.F.entry_tuple_add (PySem.F.args_tuple_add_2 _ _)
      (tuple_addW2 t b vs.toArray ws.toArray n n2 dd dd2 sl sl2 (by simpa using hv) (by simpa using hw) (by rw [List.size_toArray, List.size_toArray]; exact hsz)) ⟨ho, ho2, ?_⟩)
    rw [e]
    exact h2 hw
end
end HT
namespace Mini
open PySem PySem.Spec L2 PyProof.Rows
/-- t += u -/
theorem iop_catA {X : Cx} : OpR X (inplaceOp .Add) (rCatA X.K) := by
  intro pins s σ H x y v u Q I rx ry h
  obtain ⟨a, b, xs, ys, rfl, rfl, ha, hb, hz, q0, q1, q2⟩ := h
  cases rx
  cases ry
  obtain ⟨its, r1, p1, _⟩ := I.tuple ha
  obtain ⟨its2, r2, p2, _⟩ := I.tuple hb
  by_cases hx : xs = []
  · subst hx
    cases r1
    exact HT.icat_tup0 p1 p2 ⟨.ref b, H, I, rfl, q0 rfl⟩
  · refine HT.icat_tup p1 p2 (fun z => hx (r1.nil_iff.mp z)) (fun z => ⟨.ref a, H, I, rfl, q1 hx (r2.nil_iff.mp z)⟩) (fun z => ?_) (by rw [← r1.length, ← r2.length]; exact hz)
    refine ⟨.ref s.heap.objs.size, _, I.laid (t' := s.toks) (o := .tup (xs ++ ys)) (fun b ob q => Heap.get?_push_of_some _ q) (Nat.le_refl _) ?_, rfl, q2 hx (fun w => z (r2.nil_iff.mpr w)) _ (I.hok.fresh (Nat.le_refl _))⟩
    exact ⟨by rw [List.length_append]; exact hz, _, r1.append r2, IsTup.new _ _⟩
/-- x[::-1], a list or a tuple -/
def tRevA (K : PySem.W.Frag) (te : TE) : TE := fun σ H Q => te σ H fun x H1 => (∃ a xs, x = .ref a ∧ SqL K H1 a xs ∧ ∀ p, H1 p = none → Q (.ref p) (upd H1 p (.lst xs.reverse))) ∨
  (∃ a xs, x = .ref a ∧ SqT K H1 a xs ∧ ∀ p, H1 p = none → Q (.ref p) (upd H1 p (.tup xs.reverse)))
theorem pe_revA {X : Cx} {e : Expr} {te : TE} {k : Nat} {p1 p2 p3 pos : Pos} (he : PE X e te) : PE X (.Subscript e (.Slice none none (some (.UnaryOp .USub (.Constant (.int 1) k p1) p2)) p3) pos) (tRevA X.K te) := by
  refine ⟨fun pins s σ H Q I h => ?_⟩
  refine Subscript_ (thn (he.run pins s σ H _ I h) fun v s1 ⟨x, H1, I1, r1, q1⟩ => ?_)
  have hst : PO X (some (.UnaryOp .USub (.Constant (.int 1) k p1) p2)) (tPart (tUn (rU fun i => .int (-i)) (tC (.int 1)))) := po_some (pe_un un_neg pe_int)
  refine wpAny_Slice (thn (po_none.run pins s1 σ H1 (fun o H2 => o = none ∧ H2 = H1) I1 ⟨rfl, rfl⟩) fun vl s2 ⟨l, H2, I2, pl, el, e2⟩ => ?_)
  subst el e2
  refine thn (po_none.run pins s2 σ H2 (fun o H3 => o = none ∧ H3 = H2) I2 ⟨rfl, rfl⟩) fun vu s3 ⟨u, H3, I3, pu, eu, e3⟩ => ?_
  subst eu e3
  refine thn (hst.run pins s3 σ H3 (fun o H4 => o = some (-1) ∧ H4 = H3) I3 ⟨1, rfl, -1, rfl, rfl, rfl⟩) fun vs s4 ⟨o, H4, I4, ps, eo, e4⟩ => ?_
  subst eo e4
  have I5 : Inv X pins σ H4 { s4 with heap := s4.heap.push { cls := .type "slice", data := .fields #[vl, vu, vs] } } := I4.kept (t' := s4.toks) fun b ob q => Heap.get?_push_of_some _ q
  rcases q1 with ⟨a, xs, ex, hx, q⟩ | ⟨a, xs, ex, hx, q⟩
  · subst ex
    cases r1
    obtain ⟨its, r, ht, hz⟩ := I5.list hx
    have hlen := r.length
    show wpAny (model X.prog X.w) X.A (subscriptTail e (.Slice none none (some (.UnaryOp .USub (.Constant (.int 1) k p1) p2)) p3) (.ref a) (.ref s4.heap.objs.size)) (EP X pins σ Q) X.xe { s4 with heap := s4.heap.push { cls := .type "slice", data := .fields #[vl, vu, vs] } }
    refine tail_any (ops := [.ref a, .ref s4.heap.objs.size]) ht.isList.typeIs (PySem.slot_list_getitem.lookup) ?_ (by with_unfolding_all rfl)
    refine wpAny_getItem_list_slice ht.isList (Heap.IsSliceOf.new _ vl vu vs) pl pu ps (by decide) ?_ (by rw [List.size_toArray]; omega)
    rw [PySem.W.krv_pick]
    refine ⟨.ref _, _, I5.laid (t' := s4.toks) (o := .lst xs.reverse) (fun b ob q => Heap.get?_push_of_some _ q) (Nat.le_refl _) ?_, rfl, q _ (I5.hok.fresh (Nat.le_refl _))⟩
    exact ⟨by rw [List.length_reverse]; exact hz, _, 0, r.reverse, Heap.get?_push_size _ rfl⟩
  · subst ex
    cases r1
    cases pl
    cases pu
    cases ps with
    | int _ tk =>
    obtain ⟨its, r, ht, hz⟩ := I5.tuple hx
    have hlen : its.toArray.size = xs.length := by rw [List.size_toArray]; exact r.length.symm
    show wpAny (model X.prog X.w) X.A (subscriptTail e (.Slice none none (some (.UnaryOp .USub (.Constant (.int 1) k p1) p2)) p3) (.ref a) (.ref s4.heap.objs.size)) (EP X pins σ Q) X.xe { s4 with heap := s4.heap.push { cls := .type "slice", data := .fields #[.none, .none, .int (-1) tk] } }
    refine tail_any (ops := [.ref a, .ref s4.heap.objs.size]) ht.typeIs PyProof.Rows.slot_tuple_getitem.lookup ?_ (by with_unfolding_all rfl)
    refine HT.getItem_tuple_rev ht (Heap.IsSliceOf.new _ .none .none (.int (-1) tk)) ?_ (by rw [hlen]; exact hz)
    refine ⟨.ref _, _, I5.laid (t' := s4.toks) (o := .tup xs.reverse) (fun b ob q => Heap.get?_push_of_some _ q) (Nat.le_refl _) ?_, rfl, q _ (I5.hok.fresh (Nat.le_refl _))⟩
    exact ⟨by rw [List.length_reverse]; exact hz, _, r.reverse, IsTup.new _ _⟩
end Mini

namespace Mini
open PySem PySem.Spec L2 PyProof.Rows
/-! sorted(set(t)), t a tuple of ints -/
theorem ins_mem {x k : Int} : ∀ {ys : List Int}, k ∈ insU x ys ↔ k = x ∨ k ∈ ys
  | [] => by simp [insU]
  | y :: ys => by
    simp only [insU]
    split
    · simp
    · split
      · rename_i h; subst h; simp
      · simp only [List.mem_cons, ins_mem (ys := ys)]
        constructor
        · rintro (h | h | h)
          · exact .inr (.inl h)
          · exact .inl h
          · exact .inr (.inr h)
        · rintro (h | h | h)
          · exact .inr (.inl h)
          · exact .inl h
          · exact .inr (.inr h)
theorem ins_asc {x : Int} : ∀ {ys : List Int}, ys.Pairwise (· < ·) → (insU x ys).Pairwise (· < ·)
  | [], _ => by simp [insU]
  | y :: ys, h => by
    obtain ⟨h1, h2⟩ := List.pairwise_cons.mp h
    simp only [insU]
    split
    · rename_i hx
      refine List.pairwise_cons.mpr ⟨fun z hz => ?_, h⟩
      rcases List.mem_cons.mp hz with rfl | hz
      · exact hx
      · have := h1 z hz; omega
    · split
      · exact h
      · refine List.pairwise_cons.mpr ⟨fun z hz => ?_, ins_asc h2⟩
        rcases ins_mem.mp hz with rfl | hz
        · omega
        · exact h1 z hz
theorem sset_mem {k : Int} : ∀ {ns : List Int}, k ∈ sset ns ↔ k ∈ ns
  | [] => by simp [sset]
  | n :: ns => by
    have ih := sset_mem (k := k) (ns := ns)
    show k ∈ insU n (sset ns) ↔ _
    rw [ins_mem, ih, List.mem_cons]
theorem sset_asc : ∀ (ns : List Int), (sset ns).Pairwise (· < ·)
  | [] => List.Pairwise.nil
  | n :: ns => ins_asc (sset_asc ns)
theorem asc_uniq : ∀ {xs ys : List Int}, xs.Pairwise (· < ·) → ys.Pairwise (· < ·) → (∀ k, k ∈ xs ↔ k ∈ ys) → xs = ys
  | [], [], _, _, _ => rfl
  | [], y :: ys, _, _, h => by have := (h y).mpr List.mem_cons_self; cases this
  | x :: xs, [], _, _, h => by have := (h x).mp List.mem_cons_self; cases this
  | x :: xs, y :: ys, h1, h2, h => by
    obtain ⟨a1, a2⟩ := List.pairwise_cons.mp h1
    obtain ⟨b1, b2⟩ := List.pairwise_cons.mp h2
    have e : x = y := by
      rcases List.mem_cons.mp ((h x).mp List.mem_cons_self) with q | q
      · exact q
      · rcases List.mem_cons.mp ((h y).mpr List.mem_cons_self) with r | r
        · exact r.symm
        · have := b1 x q; have := a1 y r; omega
    subst e
    rw [asc_uniq a2 b2 fun k => ?_]
    constructor
    · intro hk
      rcases List.mem_cons.mp ((h k).mp (List.mem_cons_of_mem _ hk)) with q | q
      · have := a1 k hk; omega
      · exact q
    · intro hk
      rcases List.mem_cons.mp ((h k).mpr (List.mem_cons_of_mem _ hk)) with q | q
      · have := b1 k hk; omega
      · exact q
/-- set(t), t a tuple of ints -/
def rSetT (K : PySem.W.Frag) (w : World) : List V → Hp → VK → Prop := fun xs H Q => ∃ (p : Addr) (ns : List Int), xs = [V.ref p] ∧ SqT K H p (ns.map V.int) ∧ ns.length ≤ 1000 ∧ ∀ (a : Addr) (c : Nat), H a = none → c ≤ ns.length → Q (.ref a) (upd H a (SetO w a (fun j => decide (j ∈ ns)) c))
theorem cr_setT {X : Cx} (hc : X.calm = true) : CallR X (.type "set") (rSetT X.K X.w) := by
  intro pins s σ H xs us Q I r h
  obtain ⟨p0, ns, rfl, hq, hl, q⟩ := h
  rw [Vals.ref1 r]
  obtain ⟨its, rv, pt, hz⟩ := I.tuple hq
  have hi : IntsAre its.toArray.toList ns := ints_of_vals rv
  refine call_set_tupI ns (I.ok.hd hc) (show s.heap.IsTuple p0 its.toArray from pt) hi (by unfold scanBound; omega) fun h' tk c R1 hcn k => ?_
  have hn : H s.heap.objs.size = none := I.hok.fresh (Nat.le_refl _)
  have J : Inv X pins σ (upd H s.heap.objs.size (SetO X.w s.heap.objs.size (fun j => decide (j ∈ ns)) c)) { s with heap := h', toks := tk } :=
    I.call (ch := []) (Un.laid k (Nat.le_refl _) hn) (I.hok.laid k (Nat.le_refl _) (setO_new R1)) I.bare (fun _ z => nomatch z)
  exact ⟨.ref s.heap.objs.size, _, J, rfl, q _ c hn hcn⟩
theorem ho_sset {K : PySem.W.Frag} {w : World} (O : Own) (H : Hp) (d : D) (x : V) (res : Sl) (Q : VK) (own : OwnOk O H) (h : RepP K O H d x) (e : ssetD d = some res) (q : RP K O H res Q) : rSetT K w [x] H fun v H2 => rSortedSet w [v] H2 Q := by
  cases d with
  | tuple xs =>
    simp only [ssetD, Option.bind_eq_some_iff] at e
    obtain ⟨ns, e1, e2⟩ := e
    split at e2
    case isFalse => cases e2
    rename_i hl
    cases e2
    have rd : RepD K O H (.tuple xs) x := by
      rcases h with h | ⟨_, _, _, z, _⟩
      · exact h
      · cases z
    simp only [RepD] at rd
    obtain ⟨a, vs, rfl, s1, r1⟩ := rd
    have i1 := r1.intsOf e1
    subst i1
    refine ⟨a, ns, rfl, s1, by omega, fun b c hb hc => ?_⟩
    refine ⟨b, _, c, rfl, upd_same, by omega, fun ms p h1 h2 h3 hp => ?_⟩
    have em : ms = sset ns := asc_uniq h1 (sset_asc ns) fun k => by rw [h2 k, sset_mem]; simp
    subst em
    have st := OwnOk.new (o := SetO w b (fun j => decide (j ∈ ns)) c) own hb
    have q2 : RP K O (upd H b (SetO w b (fun j => decide (j ∈ ns)) c)) (.l ((sset ns).map PyData.int)) Q := fun O' H' v st2 r => q O' H' v (st.trans st2 fun _ z => z) r
    exact q2.lst st.own (RepDs.ints (sset ns)) p hp
  | _ => cases e
/-! len(set(t)), t a tuple or a list of ints -/
theorem nodup_le : ∀ {a b : List Int}, a.Nodup → (∀ k ∈ a, k ∈ b) → a.length ≤ b.length
  | [], b, _, _ => Nat.zero_le _
  | x :: a, b, ha, h => by
    obtain ⟨h1, h2⟩ := List.nodup_cons.mp ha
    have hx := h x List.mem_cons_self
    have e := List.length_erase_of_mem hx
    have p : 0 < b.length := List.length_pos_of_mem hx
    have ih := nodup_le (a := a) (b := b.erase x) h2 fun k hk => (List.mem_erase_of_ne (fun z : k = x => h1 (by rw [← z]; exact hk))).mpr (h k (List.mem_cons_of_mem _ hk))
    simp only [List.length_cons]; omega
theorem nodup_len {a b : List Int} (ha : a.Nodup) (hb : b.Nodup) (h : ∀ k, k ∈ a ↔ k ∈ b) : a.length = b.length := Nat.le_antisymm (nodup_le ha fun k hk => (h k).mp hk) (nodup_le hb fun k hk => (h k).mpr hk)
theorem firstMet_facts (ns : List Int) : ∀ i, i ≤ ns.length → (firstMet (fun i => ns.getD i 0) i).Nodup ∧ ∀ k, k ∈ firstMet (fun i => ns.getD i 0) i ↔ k ∈ ns.take i
  | 0, _ => ⟨by simp [firstMet_zero], fun k => by simp [firstMet_zero]⟩
  | i + 1, hi => by
    obtain ⟨h1, h2⟩ := firstMet_facts ns i (by omega)
    have e : ns.getD i 0 = ns[i] := by rw [List.getD_eq_getElem?_getD, List.getElem?_eq_getElem hi]; rfl
    have et : ∀ k, k ∈ ns.take (i + 1) ↔ k ∈ ns.take i ∨ k = ns[i] := fun k => by
      rw [List.take_add_one, List.getElem?_eq_getElem hi, List.mem_append]; simp
    rw [firstMet_succ]
    unfold step_dedup
    split
    · rename_i h
      obtain ⟨x, hx, e2⟩ := List.any_eq_true.mp h
      have ex : x = ns[i] := by rw [← e]; exact beq_iff_eq.mp e2
      refine ⟨h1, fun k => ?_⟩
      rw [h2, et]
      refine ⟨.inl, fun z => z.elim id fun z => ?_⟩
      rw [z, ← ex]; exact (h2 x).mp hx
    · rename_i h
      refine ⟨List.nodup_append.mpr ⟨h1, by simp, fun a ha b hb z => ?_⟩, fun k => ?_⟩
      · rw [List.mem_singleton] at hb
        apply h
        rw [List.any_eq_true]
        exact ⟨a, ha, by rw [z, hb]; exact beq_self_eq_true _⟩
      · rw [List.mem_append, h2, et, List.mem_singleton, e]
theorem firstMet_len (ns : List Int) : (firstMet (fun i => ns.getD i 0) ns.length).length = (sset ns).length := by
  obtain ⟨h1, h2⟩ := firstMet_facts ns ns.length (Nat.le_refl _)
  exact nodup_len h1 ((sset_asc ns).imp fun h => by omega) fun k => by rw [h2, List.take_length, sset_mem]
def rLSet (K : PySem.W.Frag) : V → Hp → VK → Prop := fun x H Q => ∃ (l : Addr) (ns : List Int), x = .ref l ∧ (SqL K H l (ns.map V.int) ∨ SqT K H l (ns.map V.int)) ∧ ns.length ≤ 1000 ∧ Q (.int (sset ns).length) H
theorem pe_lset {X : Cx} {a : Expr} {ta : TE} {p p2 q pos : Pos} (hc : X.calm = true) (hg : Gl X "len") (hm : X.mg "len" = none) (hg2 : Gl X "set") (hm2 : X.mg "set" = none) (ha : PE X a ta)
    (na : starEach [a] X.env = (false, eval a X.env) :: starEach [] X.env) : PE X (.Call (.Name "len" p) [.Call (.Name "set" p2) [a] [] q] [] pos) (fun σ H Q => ta σ H fun x H1 => rLSet X.K x H1 Q) := by
  refine ⟨fun pins s σ H Q I h => ?_⟩
  refine Call_ (ld_blt I hg hm PySem.boot_len ?_)
  refine PyProof.Rows.callWith_builtin1 (PyProof.Rows.args_cons ?_ rfl) rfl rfl
  refine Call_ (ld_blt I hg2 hm2 PyProof.Rows.boot_set ?_)
  refine PyProof.Rows.callWith_type1 (PyProof.Rows.args_cons (thn (ha.run pins s σ H _ I h) fun v s1 ⟨x, H1, I1, r1, q1⟩ => PyProof.Rows.args_nil ?_) na) na rfl
  obtain ⟨l, ns, rfl, hq, h1, q1⟩ := q1
  cases r1
  rcases hq with hq | hq
  · obtain ⟨its, r, pl, hz⟩ := I1.list hq
    have hl : its.toArray.size = ns.length := by rw [List.size_toArray, ← r.length, List.length_map]
    refine call_set_list (I1.ok.hd hc) pl.isList (ns := ns) (by simpa using r.ints) (by unfold scanBound; omega) fun h' tk hS hk => ?_
    rw [hl, firstMet_len] at hS
    refine PyProof.Rows.args_nil ?_
    obtain ⟨o, es, ep, t, ho, hex, hd, _, _, _, hf, hn⟩ := hS
    have I2 : Inv X pins σ H1 { s1 with heap := h', toks := tk } := I1.kept fun b o e => hk b o (Heap.lt_size e) e
    have hle : (sset ns).length ≤ ns.length := nodup_le ((sset_asc ns).imp fun h => by omega) fun k hk => sset_mem.mp hk
    refine call_len_set ho hex hd hf (by omega) ⟨.int (sset ns).length, H1, I2.tok _, ⟨_, by rw [hn]⟩, q1⟩
  · obtain ⟨its, r, pt, hz⟩ := I1.tuple hq
    have hi : IntsAre its.toArray.toList ns := ints_of_vals r
    refine call_set_tupI ns (I1.ok.hd hc) (show s1.heap.IsTuple l its.toArray from pt) hi (by unfold scanBound; omega) fun h' tk c R1 hcn k => ?_
    refine PyProof.Rows.args_nil ?_
    obtain ⟨o, es, ep, t, ho, hex, hd, _, nd, hmem, hb, hf, hn, _⟩ := R1
    have hlen : es.size = (sset ns).length := by
      have := nodup_len nd ((sset_asc ns).imp (S := (· ≠ ·)) fun h => by omega) fun k => by rw [sset_mem, ← hmem]; simp
      simpa using this
    have I2 : Inv X pins σ H1 { s1 with heap := h', toks := tk } := I1.kept k
    refine call_len_set ho hex hd hf (by omega) ⟨.int (sset ns).length, H1, I2.tok _, ⟨_, by rw [hlen]⟩, q1⟩
theorem ho_lset {K : PySem.W.Frag} (O : Own) (H : Hp) (d : D) (x : V) (res : Sl) (Q : VK) (own : OwnOk O H) (h : RepP K O H d x) (e : lsetD d = some res) (q : RP K O H res Q) : rLSet K x H Q := by
  have fin : ∀ (ns : List Int), res = .v (.int (sset ns).length) → Q (.int (sset ns).length) H := fun ns z => by
    subst z
    exact q.same own (by simp only [RepD])
  cases d with
  | tuple xs =>
    simp only [lsetD, Option.bind_eq_some_iff] at e
    obtain ⟨ns, e1, e2⟩ := e
    split at e2
    case isFalse => cases e2
    rename_i hl
    cases e2
    have rd : RepD K O H (.tuple xs) x := by
      rcases h with h | ⟨_, _, _, z, _⟩
      · exact h
      · cases z
    simp only [RepD] at rd
    obtain ⟨a, vs, rfl, s1, r1⟩ := rd
    have i1 := r1.intsOf e1
    subst i1
    exact ⟨a, ns, rfl, .inr s1, hl, fin ns rfl⟩
  | list xs =>
    simp only [lsetD, Option.bind_eq_some_iff] at e
    obtain ⟨ns, e1, e2⟩ := e
    split at e2
    case isFalse => cases e2
    rename_i hl
    cases e2
    rcases h with rd | ⟨xs', a, vs, z, rfl, h1, h2⟩
    · simp only [RepD] at rd
      obtain ⟨a, vs, rfl, h1, h2, h3⟩ := rd
      have i1 := h3.intsOf e1
      subst i1
      exact ⟨a, ns, rfl, .inl (SqL.of h1), hl, fin ns rfl⟩
    · cases z
      have i1 := h2.intsOf e1
      subst i1
      exact ⟨a, ns, rfl, .inl (SqL.of h1), hl, fin ns rfl⟩
  | _ => cases e
end Mini

namespace Mini
open PySem PySem.Spec L2 PySem.W
section
variable {X : Cx}
/-- what a collected row must be for its sorting -/
def SortIn (X : Cx) (pins : List (Addr × Obj)) (σ : St) (Q : VK) (its : List Value) (s1 : Shared) : Prop := ∃ (H1 : Hp) (ps : List (V × D)), Inv X pins σ H1 s1 ∧ Vals (ps.map (·.1)) its ∧ DpAll X.K H1 (ps.map (·.1)) (ps.map (·.2)) ∧
  AllAlike (ps.map (·.2)) ∧ SortableX (ps.map (·.2)) ∧ (∀ p ∈ ps, p.2.depth ≤ 60) ∧ ps.length ≤ sizeLine ∧ ∀ l, H1 l = none → Q (.ref l) (upd H1 l (.lst ((ps.mergeSort (dataLe false (fun p : V × D => p.2))).map (·.1))))
theorem sorted_by {pins : List (Addr × Obj)} {σ : St} {Q : VK} {s : Shared} {v : Value} {E : Value → Shared → Prop} (hu : X.A.units + 65 < cLine) (hc : wpAny (model X.prog X.w) X.A.in1 (collect v) (SortIn X pins σ Q) E s) :
    wpAny (model X.prog X.w) X.A (call (.builtin "sorted") [v]) (EP X pins σ Q) E s := by
  refine Calls.call_function_entry PyProof.Rows.kind_sorted PyProof.Rows.plain_sorted PyProof.Rows.entry_sorted (PyProof.Rows.args_sorted1 _) ?_
  unfold Builtin.«sorted»
  refine wpAny_bind (m := checkCount "sorted" 1 1 _) (wpAny_pure ?_)
  refine wpAny_bind (wpAny_mono hc (fun its s1 x => ?_) fun _ _ e => e)
  obtain ⟨H1, ps, I1, rv, hd, hal, hk, hz, hn, q⟩ := x
  have hl : its.length = ps.length := by rw [← rv.length, List.length_map]
  refine wpAny_bind (wpAny_newList ?_ (by omega))
  have hoL : (s1.heap.push (PyProof.Rows.seqObj "list" its.toArray 0)).get? s1.heap.objs.size = some (PyProof.Rows.seqObj "list" its.toArray 0) := Heap.get?_push_size _ rfl
  show wpAny _ _ _ _ _ { s1 with heap := s1.heap.push (PyProof.Rows.seqObj "list" its.toArray 0) }
  have er : EachIs (fun (u : Value) (p : V × D) => ∃ as, Reads (sortingHeap (s1.heap.push (PyProof.Rows.seqObj "list" its.toArray 0)) s1.heap.objs.size its) u p.2 as) its ps :=
    (each_reads I1 hd rv).mono fun _ _ ⟨as, r⟩ => ⟨as, PyProof.Rows.Reads.keeps (fun b o e => sortingHeap_old (Nat.ne_of_lt (Heap.lt_size e)) (Heap.get?_push_of_some _ e)) r⟩
  have S := SortsAt.dataX (prog := X.prog) (w := X.w) (A := X.A.in1.in1) (s := { s1 with heap := sortingHeap (s1.heap.push (PyProof.Rows.seqObj "list" its.toArray 0)) s1.heap.objs.size its }) (vs := its) (ds := ps.map (·.2)) (each_map (R := fun v d => ∃ as, Reads (sortingHeap (s1.heap.push (PyProof.Rows.seqObj "list" its.toArray 0)) s1.heap.objs.size its) v d as) (fun p : V × D => p.2) er) hal hk
    (fun d hd2 => by obtain ⟨p, hp, rfl⟩ := List.mem_map.mp hd2; have := hz p hp; show X.A.units + 1 + 1 + _ < _; omega)
  have eo := sortVals_data (R := fun (u : Value) (p : V × D) => RelV p.1 u) (enc := fun p : V × D => p.2) false (each_vals rv) er hal
  refine wpAny_bind (wpAny_holding (wpAny_call_entry PyProof.Rows.slot_list_sort ⟨_, hoL, rfl⟩ PyProof.Rows.entry_list_sort
    (list_sort_vals (s := { s1 with heap := s1.heap.push (PyProof.Rows.seqObj "list" its.toArray 0) }) hoL S (by omega) ⟨_, rfl, ?_⟩) (PyProof.Rows.args_list_sort _)))
  obtain ⟨e', he'⟩ := PyProof.Rows.sortedHeap_at (vs := its) (out := (sortVals (dataKind (sortingHeap (s1.heap.push (PyProof.Rows.seqObj "list" its.toArray 0)) s1.heap.objs.size its) (ps.map (·.2))) false its its).toArray) hoL
  refine wpAny_pure ⟨_, rfl, .ref s1.heap.objs.size, upd H1 s1.heap.objs.size (.lst ((ps.mergeSort (dataLe false (fun p : V × D => p.2))).map (·.1))), I1.laid (t' := s1.toks) (fun b u e => ?_) (Nat.le_refl _)
    (show ObjOk X.prog X.w _ _ _ (.lst _) from ⟨by rw [List.length_map, List.length_mergeSort]; exact hn, _, e', vals_each eo, he'⟩), rfl, q _ (I1.hok.fresh (Nat.le_refl _))⟩
  have hb : b < s1.heap.objs.size := Heap.lt_size e
  rw [PyProof.Rows.sortedHeap_old (Nat.ne_of_lt hb) (by show b < (s1.heap.push _).objs.size; rw [PyProof.Rows.size_push']; exact Nat.lt_succ_of_lt hb)]
  exact Heap.get?_push_of_some _ e
theorem one_ref {b : Addr} {us : List Value} (r : Vals [V.ref b] us) : us = [.ref b] := Vals.ref1 r
/-- sorted(d), its keys ints -/
def rSortK (K : PySem.W.Frag) : List V → Hp → VK → Prop := fun vs H Q => ∃ (a : Addr) (kvs : List (L2.Key × V)) (ks : List Int), vs = [V.ref a] ∧ H a = some (.dK kvs) ∧ kvs.map (·.1) = ks.map Sum.inl ∧ AllAlike (ks.map PyData.int) ∧ SortableX (ks.map PyData.int) ∧ (∀ d ∈ ks.map PyData.int, d.depth ≤ 60) ∧
  ∀ (ps : List (V × D)) (l : Addr), ps.map (·.2) = ks.map PyData.int → (∀ p ∈ ps, ∀ O H', RepD K O H' p.2 p.1) → H l = none → Q (.ref l) (upd H l (.lst ((ps.mergeSort (dataLe false (fun p : V × D => p.2))).map (·.1))))
theorem cr_sortK (hc : X.calm = true) (hu : X.A.units + 65 < cLine) : CallR X (.builtin "sorted") (rSortK X.K) := by
  intro pins s σ H xs us Q I r h
  obtain ⟨a, kvs, ks, rfl, ha, hks, hal, hk, hz, q⟩ := h
  obtain rfl := Vals.ref1 r
  obtain ⟨z, lo, vs, rel, dd⟩ := dk_of I.hok ha
  obtain ⟨ep, hat⟩ := dd.dictAt
  have hkeys : vs.map (·.1) = ks.map Sum.inl := rel.keys.symm.trans hks
  have hl : vs.length = ks.length := by
    have e := congrArg List.length hkeys
    rw [List.length_map, List.length_map] at e
    exact e
  have h16 : vs.length ≤ sizeLine := by rw [← rel.length]; exact z
  refine sorted_by hu (PySem.W.kdu_collect (A := X.A.in1) (PySem.W.kdl_dict (knd := mixKind X.prog X.w) (kvs := vs) (ep := ep) lo) (I.ok.hd hc) hat h16 fun h' tk acc hkp hacc => ?_)
  have hal' : acc.toList.length = ks.length := by rw [Array.length_toList, hacc.1, hl]
  have hS : PyProof.Rows.IntsAre acc.toList ks := ints_each hal' fun j v e => by
    obtain ⟨k, x, e1, e2⟩ := hacc.2 j v (by rw [← Array.getElem?_toList]; exact e)
    have e3 : (vs.map (·.1))[j]? = some k := by rw [List.getElem?_map, e1]; rfl
    rw [hkeys, List.getElem?_map] at e3
    cases e4 : ks[j]? with
    | none => rw [e4] at e3; cases e3
    | some y =>
      rw [e4] at e3
      have e5 : Sum.inl y = k := Option.some.inj e3
      subst e5
      rcases keyIs_shape (show keyIs (Sum.inl y) v = true from e2) with ⟨i, t, ek, ev⟩ | ⟨z, t, ek, ev⟩
      · cases ek
        exact ⟨y, t, rfl, ev⟩
      · cases ek
  have hp : ∀ p ∈ ks.map (fun i => (V.int i, PyData.int i)), ∀ O H', RepD X.K O H' p.2 p.1 := fun p hp O H' => by
    obtain ⟨i, _, rfl⟩ := List.mem_map.mp hp
    simp only [RepD]
  have e1 : (ks.map (fun i => (V.int i, PyData.int i))).map (·.1) = ks.map V.int := by rw [List.map_map]; rfl
  have e2 : (ks.map (fun i => (V.int i, PyData.int i))).map (·.2) = ks.map PyData.int := by rw [List.map_map]; rfl
  refine ⟨H, ks.map (fun i => (V.int i, PyData.int i)), I.kept hkp, by rw [e1]; exact vals_of_ints hS, by rw [e1, e2]; exact RepDs.dp (O := fun _ => False) _ _ (RepDs.ints ks), by rw [e2]; exact hal, by rw [e2]; exact hk, fun p hp => hz _ (by rw [← e2]; exact List.mem_map.mpr ⟨p, hp, rfl⟩), by rw [List.length_map, ← hl]; exact h16, fun l hl => q _ l e2 hp hl⟩
/-- sorted(d), its keys tuples of ints -/
def rSortTK (K : PySem.W.Frag) : List V → Hp → VK → Prop := fun vs H Q => ∃ (a : Addr) (kvs : List (List L2.Key × V)) (ks : List (List Int)), vs = [V.ref a] ∧ H a = some (.dT kvs) ∧ kvs.map (·.1) = ks.map (fun k => k.map Sum.inl) ∧ AllAlike (ks.map tupI) ∧ SortableX (ks.map tupI) ∧ (∀ d ∈ ks.map tupI, d.depth ≤ 60) ∧
  ∀ (ps : List (V × D)) (l : Addr), ps.map (·.2) = ks.map tupI → (∀ p ∈ ps, ∃ b k, p.1 = .ref b ∧ p.2 = tupI k ∧ H b = some (.tup (k.map V.int))) → H l = none → Q (.ref l) (upd H l (.lst ((ps.mergeSort (dataLe false (fun p : V × D => p.2))).map (·.1))))
theorem kt_zip {H : Hp} {K : PySem.W.Frag} : ∀ {kvs : List (List L2.Key × V)} {xs : List (List L2.Key × Addr × Value)} {ks : List (List Int)}, KT H kvs xs → kvs.map (·.1) = ks.map (fun k => k.map Sum.inl) →
    ∃ ps : List (V × D), ps.map (·.1) = xs.map (fun x => V.ref x.2.1) ∧ ps.map (·.2) = ks.map tupI ∧ ∀ p ∈ ps, ∃ b k, p.1 = .ref b ∧ p.2 = tupI k ∧ H b = some (.tup (k.map V.int))
  | [], xs, ks, h, e => by
    cases h
    cases ks with
    | nil => exact ⟨[], rfl, rfl, by simp⟩
    | cons _ _ => simp at e
  | kv :: kvs, xs, ks, h, e => by
    cases h with
    | @cons _ x _ xs h1 h2 =>
      cases ks with
      | nil => simp at e
      | cons k ks =>
        rw [List.map_cons, List.map_cons] at e
        injection e with e1 e2
        obtain ⟨ps, p1, p2, p3⟩ := kt_zip (K := K) h2 e2
        obtain ⟨r1, r2, r3⟩ := h1
        refine ⟨(V.ref x.2.1, tupI k) :: ps, by rw [List.map_cons, p1]; rfl, by rw [List.map_cons, p2]; rfl, fun p hp => ?_⟩
        rcases List.mem_cons.mp hp with rfl | hp
        · refine ⟨_, k, rfl, rfl, ?_⟩
          have e3 : kv.1.map kV = k.map V.int := by rw [e1, List.map_map]; rfl
          rw [← e3]; exact r2
        · exact p3 p hp
theorem reps_tup {K : PySem.W.Frag} {H : Hp} {O : Own} : ∀ {ps : List (V × D)}, (∀ p ∈ ps, ∃ b k, p.1 = .ref b ∧ p.2 = tupI k ∧ H b = some (.tup (k.map V.int))) → RepDs K O H (ps.map (·.2)) (ps.map (·.1))
  | [], _ => by simp [RepDs]
  | p :: ps, h => by
    rw [List.map_cons, List.map_cons]
    simp only [RepDs]
    obtain ⟨b, k, e1, e2, hb⟩ := h p List.mem_cons_self
    refine ⟨_, _, rfl, ?_, reps_tup fun q hq => h q (List.mem_cons_of_mem _ hq)⟩
    rw [e1, e2, tupI]
    simp only [RepD]
    exact ⟨b, _, rfl, SqT.of hb, RepDs.ints k⟩
theorem cr_sortTK (hc : X.calm = true) (hu : X.A.units + 65 < cLine) : CallR X (.builtin "sorted") (rSortTK X.K) := by
  intro pins s σ H xs us Q I r h
  obtain ⟨a, kvs, ks, rfl, ha, hks, hal, hk, hz, q⟩ := h
  obtain rfl := Vals.ref1 r
  obtain ⟨z, lo, xs', rel, dd⟩ := dt_of I.hok ha
  obtain ⟨es, ep, hraw, hsz, hes⟩ := dd.raw
  have l1 : kvs.length = xs'.length := Paired.length rel
  have h16 : es.size ≤ sizeLine := by omega
  obtain ⟨ps, p1, p2, p3⟩ := kt_zip (K := X.K) rel hks
  refine sorted_by hu (PySem.W.kdu_collect (A := X.A.in1) (PySem.KdlSrc.rawDict (es := es) (ep := ep) lo) (I.ok.hd hc) hraw h16 fun h' tk acc hkp hacc => ?_)
  have hpl : ps.length = xs'.length := by have := congrArg List.length p1; rw [List.length_map, List.length_map] at this; exact this
  have ev : Vals (ps.map (·.1)) acc.toList := by
    rw [p1]
    have el : acc.toList = xs'.map (fun x => Value.ref x.2.1) := by
      refine List.ext_getElem? fun j => ?_
      rw [List.getElem?_map]
      cases hj : acc.toList[j]? with
      | none =>
        have : acc.toList.length ≤ j := List.getElem?_eq_none_iff.mp hj
        rw [Array.length_toList, hacc.1, hsz] at this
        rw [List.getElem?_eq_none this]; rfl
      | some v =>
        obtain ⟨hi, e⟩ := hacc.2 j v (by rw [← Array.getElem?_toList]; exact hj)
        obtain ⟨y, y1, y2, _⟩ := hes j hi
        rw [y1, e, y2]; rfl
    rw [el]
    exact vals_maps (fun x : List L2.Key × Addr × Value => V.ref x.2.1) (fun x => Value.ref x.2.1) xs' fun _ _ => rfl
  exact ⟨H, ps, I.kept hkp, ev, RepDs.dp (O := fun _ => False) _ _ (reps_tup p3), by rw [p2]; exact hal, by rw [p2]; exact hk, fun p hp => hz _ (by rw [← p2]; exact List.mem_map.mpr ⟨p, hp, rfl⟩), by omega, fun l hl => q ps l p2 p3 hl⟩
/-! sorted(d.items()) -/
def rItemsK : V → List V → Hp → VK → Prop := fun x xs H Q => ∃ (a : Addr) (kvs : List (L2.Key × V)), x = .ref a ∧ xs = [] ∧ H a = some (.dK kvs) ∧ ∀ p, H p = none → Q (.ref p) (upd H p (L2.DX.itemsO p a))
theorem mt_itemsK : MtR X "dict.items" rItemsK := by
  intro pins s σ H x xs v us Q I rx rxs h
  obtain ⟨a, kvs, rfl, rfl, ha, q⟩ := h
  cases rx
  cases rxs
  obtain ⟨z, hd, vs, rel, dd⟩ := dk_of I.hok ha
  obtain ⟨ep, hat⟩ := dd.dictAt
  obtain ⟨o, es, ho, hx, hdat, _⟩ := hat
  refine DT.callItems (es := es) (ep := ep) hd ⟨o, ho, hx, hdat⟩ ?_
  have hf : H s.heap.objs.size = none := I.hok.fresh (Nat.le_refl _)
  exact ⟨.ref s.heap.objs.size, upd H s.heap.objs.size (L2.DX.itemsO s.heap.objs.size a), I.laid (t' := s.toks) (fun b u e => Heap.get?_push_of_some _ e) (Nat.le_refl _) (L2.DX.itemsO_ok (Heap.get?_push_size _ rfl)), rfl, q _ hf⟩
def itmD (p : Int × D) : D := .tuple [.int p.1, p.2]
/-- sorted(v), v the items of a dict with int keys: us are the values -/
def rSortI (K : PySem.W.Frag) : List V → Hp → VK → Prop := fun vs H Q => ∃ (p a : Addr) (us : List (Int × V × D)), vs = [V.ref p] ∧ H p = some (L2.DX.itemsO p a) ∧ H a = some (.dK (us.map fun u => (Sum.inl u.1, u.2.1))) ∧ (∀ u ∈ us, ∀ H1 : Hp, (∀ b o, H b = some o → H1 b = some o) → Dp K H1 u.2.1 u.2.2) ∧
  AllAlike (us.map fun u => itmD (u.1, u.2.2)) ∧ SortableX (us.map fun u => itmD (u.1, u.2.2)) ∧ (∀ u ∈ us, (itmD (u.1, u.2.2)).depth ≤ 60) ∧
  ∀ (H1 : Hp) (ps : List (V × Int × V × D)) (l : Addr), (∀ b o, H b = some o → H1 b = some o) → ps.map (·.2) = us → (∀ q ∈ ps, ∃ b, q.1 = .ref b ∧ H1 b = some (.tup [.int q.2.1, q.2.2.1])) → H1 l = none →
    Q (.ref l) (upd H1 l (.lst ((ps.mergeSort (dataLe false (fun q : V × Int × V × D => itmD (q.2.1, q.2.2.2)))).map (·.1))))
theorem dp_all {K : PySem.W.Frag} {H : Hp} : ∀ {ps : List (V × D)}, (∀ p ∈ ps, Dp K H p.1 p.2) → DpAll K H (ps.map (·.1)) (ps.map (·.2))
  | [], _ => .nil
  | p :: ps, h => .cons (h p List.mem_cons_self) (dp_all fun q hq => h q (List.mem_cons_of_mem _ hq))
theorem cr_sortI (hc : X.calm = true) (hu : X.A.units + 65 < cLine) : CallR X (.builtin "sorted") (rSortI X.K) := by
  intro pins s σ H xs us' Q I r h
  obtain ⟨p, a, us, rfl, hp, ha, hdp, hal, hk, hz, q⟩ := h
  obtain rfl := Vals.ref1 r
  have view : s.heap.IsItemsView p a := (show ObjOk X.prog X.w H s.heap p (L2.DX.itemsO p a) from I.hok p _ hp).1
  obtain ⟨z, lo, vs, rel, dd⟩ := dk_of I.hok ha
  obtain ⟨ep, hat⟩ := dd.dictAt
  have hl : vs.length = us.length := by have := rel.length; rw [List.length_map] at this; exact this.symm
  have hlen : us.length ≤ sizeLine := by rw [List.length_map] at z; exact z
  refine sorted_by hu (PySem.W.kdx_collect (A := X.A.in1) (knd := mixKind X.prog X.w) (kvs := vs) (ep := ep) (I.ok.hd hc) view hat (by omega) fun h' tk as hkp hla hG => ?_)
  have nd : as.Nodup := List.Pairwise.imp (fun h => Nat.ne_of_lt h) hG.rise
  have pr : ∀ (j : Nat) (b : Addr), as[j]? = some b → ∃ (u : Int × V × D) (key x : Value), us[j]? = some u ∧ RelV (.int u.1) key ∧ RelV u.2.1 x ∧ h'.get? b = some { cls := .type "tuple", data := .seq #[key, x] } := by
    intro j b hj
    obtain ⟨key, k, x, e1, e2, e3⟩ := hG.pairs j b hj
    have hju : j < us.length := by have := (List.getElem?_eq_some_iff.mp e1).1; omega
    obtain ⟨q0, r0, r1⟩ : ∃ q0, (us.map fun u => ((Sum.inl u.1 : L2.Key), u.2.1))[j]? = some q0 ∧ (q0.1 = k ∧ RelV q0.2 x) := L2.DX.pget rel e1
    rw [List.getElem?_map, List.getElem?_eq_getElem hju, Option.map_some] at r0
    have r2 : ((Sum.inl us[j].1 : L2.Key), us[j].2.1) = q0 := Option.some.inj r0
    subst r2
    obtain ⟨r3, r4⟩ := r1
    subst r3
    rcases keyIs_shape (show keyIs (Sum.inl us[j].1) key = true from e2) with ⟨i, t, ek, ev⟩ | ⟨z, t, ek, ev⟩
    · cases ek
      exact ⟨us[j], key, x, List.getElem?_eq_getElem hju, ⟨t, ev⟩, r4, e3⟩
    · cases ek
  have I1 : Inv X pins σ H { s with heap := h', toks := tk } := I.kept hkp
  obtain ⟨H2, I2, g, qt⟩ := L2.DX.takeT (P := fun b vs => ∃ (j : Nat) (u : Int × V × D), as[j]? = some b ∧ us[j]? = some u ∧ vs = [.int u.1, u.2.1]) I as _ I1 nd fun b hb => by
    obtain ⟨j, hj⟩ := List.mem_iff_getElem?.mp hb
    obtain ⟨u, key, x, e1, e2, e3, e4⟩ := pr j b hj
    have hbl : s.heap.objs.size ≤ b := Nat.le_of_lt (hG.above b hb)
    exact ⟨hbl, I.hok.fresh hbl, [.int u.1, u.2.1], ⟨j, u, hj, e1, rfl⟩, fun H3 => ⟨(by rw [sizeLine_eq]; show 2 ≤ 16777216; omega), [key, x], .cons e2 (.cons e3 .nil), ⟨_, e4, rfl, 0, rfl⟩⟩⟩
  obtain ⟨psV, hpV1, hpV2, hpV3⟩ : ∃ psV : List (V × Int × V × D), psV.map (·.1) = as.map V.ref ∧ psV.map (·.2) = us ∧ ∀ q ∈ psV, ∃ b, q.1 = .ref b ∧ H2 b = some (.tup [.int q.2.1, q.2.2.1]) := by
    refine ⟨(as.zip us).map fun z => (V.ref z.1, z.2), ?_, ?_, fun q hq => ?_⟩
    · rw [List.map_map]
      have : ((fun x : V × Int × V × D => x.1) ∘ fun z : Addr × Int × V × D => (V.ref z.1, z.2)) = V.ref ∘ (fun z : Addr × Int × V × D => z.1) := rfl
      rw [this, ← List.map_map, List.map_fst_zip (by omega)]
    · rw [List.map_map]
      exact List.map_snd_zip (by omega)
    · obtain ⟨z, hz2, rfl⟩ := List.mem_map.mp hq
      obtain ⟨j, hj⟩ := List.mem_iff_getElem?.mp hz2
      obtain ⟨j1, j2⟩ := List.getElem?_zip_eq_some.mp hj
      obtain ⟨vs', ⟨i, u, i1, i2, rfl⟩, hH⟩ := qt z.1 (List.mem_of_getElem? j1)
      have eij : i = j := (List.getElem?_inj (List.getElem?_eq_some_iff.mp i1).1 nd).mp (i1.trans j1.symm)
      subst eij
      have eu : u = z.2 := Option.some.inj (i2.symm.trans j2)
      subst eu
      exact ⟨z.1, rfl, hH⟩
  have eD : (psV.map fun q : V × Int × V × D => (q.1, itmD (q.2.1, q.2.2.2))).map (·.2) = us.map fun u => itmD (u.1, u.2.2) := by
    rw [← hpV2, List.map_map, List.map_map]; rfl
  have eV : (psV.map fun q : V × Int × V × D => (q.1, itmD (q.2.1, q.2.2.2))).map (·.1) = as.map V.ref := by
    rw [← hpV1, List.map_map]; rfl
  refine ⟨H2, psV.map fun q => (q.1, itmD (q.2.1, q.2.2.2)), I2, ?_, dp_all fun p hp => ?_, by rw [eD]; exact hal, by rw [eD]; exact hk, fun p hp => ?_, ?_, fun l hl => ?_⟩
  · rw [eV]; exact vals_maps V.ref Value.ref as fun _ _ => rfl
  · obtain ⟨q0, hq0, rfl⟩ := List.mem_map.mp hp
    obtain ⟨b, e1, hb⟩ := hpV3 q0 hq0
    have hm : q0.2 ∈ us := by rw [← hpV2]; exact List.mem_map.mpr ⟨q0, hq0, rfl⟩
    show Dp X.K H2 q0.1 (.tuple [.int q0.2.1, q0.2.2.2])
    rw [e1]
    exact .tup (SqT.of hb) (.cons (.int _) (.cons (hdp _ hm H2 g) .nil))
  · obtain ⟨q0, hq0, rfl⟩ := List.mem_map.mp hp
    exact hz q0.2 (by rw [← hpV2]; exact List.mem_map.mpr ⟨q0, hq0, rfl⟩)
  · rw [List.length_map]
    have := congrArg List.length hpV2
    rw [List.length_map] at this
    omega
  · have e5 : ((psV.map fun q : V × Int × V × D => (q.1, itmD (q.2.1, q.2.2.2))).mergeSort (dataLe false (fun p : V × D => p.2))) = (psV.mergeSort (dataLe false (fun q : V × Int × V × D => itmD (q.2.1, q.2.2.2)))).map fun q => (q.1, itmD (q.2.1, q.2.2.2)) :=
      (List.map_mergeSort (f := fun q : V × Int × V × D => (q.1, itmD (q.2.1, q.2.2.2))) (r := dataLe false (fun q : V × Int × V × D => itmD (q.2.1, q.2.2.2))) (s := dataLe false (fun p : V × D => p.2)) fun a _ b _ => rfl).symm
    rw [e5, List.map_map]
    exact q H2 psV l g hpV2 hpV3 hl
end
end Mini

namespace Mini
open PySem PySem.Spec PyProof.Rows L2
/-! enumerate over a tuple -/
set_option maxHeartbeats 1000000 in
theorem enum1_new {v : Value} {o : Obj} {H : Heap → Prop} (B : Begins v o H) :
    Meets (Builtin.«enumerate.__new__» ⟨[.type "enumerate", v], []⟩) (fun _ R s => H s.heap ∧
      R (.ok (.ret (.ref (s.heap.push o).objs.size))) { s with heap := (s.heap.push o).push { cls := .type "enumerate", data := .fields #[.none, .bool false, .ref s.heap.objs.size, rawInt 0, .none, .none] } }) :=
  .of_wp fun prog w A R s h => by
    obtain ⟨hp, g, d, tk, os⟩ := s; obtain ⟨h1, h⟩ := h
    have hsub := sub_enumerate
    have q1 : ∀ {A' : Around} {E : Value → Shared → Prop} {Q : Value → Shared → Prop}, Q (.ref hp.objs.size) ⟨hp.push o, g, d, tk, os⟩ → wpAny (model prog w) A' (pyIter v) Q E ⟨hp, g, d, tk, os⟩ :=
      fun q => B.iter prog w _ _ ⟨hp, g, d, tk, os⟩ _ h1 q
    wp_walk using q1
    refine wpAny_stack_any fun st => wpAny_pure ?_
    split
    · rename_i c _ _ _ _ _
      cases (c == Value.type "enumerate")
      · wp_walk using q1
        exact ⟨_, rfl, h⟩
      · wp_walk using q1
        exact ⟨_, rfl, h⟩
    · wp_walk using q1
      exact ⟨_, rfl, h⟩
section
variable {prog : Program} {w : World} {A : Around} {E : Value → Shared → Prop} {s : Shared}
theorem enum1_begins {v : Value} {o : Obj} {H : Heap → Prop} {Q : Value → Shared → Prop} (B : Begins v o H) (h1 : H s.heap)
    (h : ∀ h', IsEnum h' (s.heap.objs.size + 1) s.heap.objs.size 0 .none → h'.get? s.heap.objs.size = some o → h'.objs.size = s.heap.objs.size + 2 →
      (∀ b o, s.heap.get? b = some o → h'.get? b = some o) → Q (.ref (s.heap.objs.size + 1)) { s with heap := h' }) :
    wpAny (model prog w) A (call (.type "enumerate") [v]) Q E s := by
  refine callType_new F.called_enumerate (by decide) (F.typeCall_enumerate_1 _) (F.newCall_enumerate_1 _) (fun obj => F.args_object_init_2 obj _) F.entry_enumerate_new
    (enum1_new B) ⟨h1, ?_⟩
  have hz : (s.heap.push o).objs.size = s.heap.objs.size + 1 := Heap.size_push ..
  show _ ∧ _
  rw [hz]
  have he : IsEnum ((s.heap.push o).push { cls := .type "enumerate", data := .fields #[.none, .bool false, .ref s.heap.objs.size, rawInt 0, .none, .none] }) (s.heap.objs.size + 1) s.heap.objs.size 0 .none := by
    have := Heap.get?_push_size (s.heap.push o) (o := { cls := .type "enumerate", data := .fields #[.none, .bool false, .ref s.heap.objs.size, rawInt 0, .none, .none] }) rfl
    rw [hz] at this; exact this
  refine ⟨⟨_, he, rfl⟩, h _ he (Heap.get?_push_of_some _ (Heap.get?_push_size _ B.free)) (by rw [Heap.size_push, hz]) fun b o x => Heap.get?_push_of_some _ (Heap.get?_push_of_some _ x)⟩
end
section
variable {prog : Program} {w : World} {A : Around} {E : Value → Shared → Prop} {s : Shared}
theorem enumT_end {e it l : Addr} {i : Nat} {items : Array Value} {old : Value} {Q : Option Value → Shared → Prop} (hh : A.handled = none)
    (he : IsEnum s.heap e it i old) (hit : s.heap.IsTupleIter it l i) (hl : s.heap.IsTuple l items) (hx : items[i]? = none)
    (hQ : ∀ h', Heap.ExtBut it s.heap h' → Q none { s with heap := h' }) : wpAny (model prog w) A (pyNext (.ref e)) Q E s := by
  have hT : s.TypeIs (.ref e) "enumerate" := ⟨_, he, rfl⟩
  unfold pyNext
  refine wpAny_bind (wpAny_attempt (wpAny_callSpecial?_slot (name := Str.ofString "__next__") hT F.slot_enumerate_next
    (wpAny_call_entry F.slot_enumerate_next hT F.entry_enumerate_next ?_ (F.args_enumerate_next_1 _))))
  show wpAny _ _ (field (.ref e) 2 >>= _) _ _ _
  refine wpAny_bind (wpAny_field he rfl (x := .ref it) rfl ?_)
  refine wpAny_bind (wpAny_nextOf_tuple_end hh hit hl hx fun h' x he' hx' => ?_)
  obtain ⟨o, ho, hc⟩ := hx'
  refine wpAny_bind (wpAny_isInstance (T := "StopIteration") (b := true) ⟨o, ho, hc⟩ isSubtype_stop ?_)
  exact wpAny_pure (hQ _ he')
end
/-- the tuple at a as it stands at each turn, each item in a new pair -/
def IteT (K : PySem.W.Frag) (a : Addr) : It :=
  ⟨fun i H => ∃ (xs : List V) (x : V), SqT K H a xs ∧ xs[i]? = some x, fun i H v H' => ∃ T x, v = .ref T ∧ H T = none ∧ H' = upd H T (.tup [.int (i : Nat), x]) ∧ ∀ xs, SqT K H a xs → xs[i]? = some x, fun i H => ∃ xs : List V, SqT K H a xs ∧ xs.length ≤ i⟩
theorem turn_enumT {P : Program} {w : World} {K : PySem.W.Frag} {elts : List Expr} {kk : Nat} {tpos : Pos} (a e it : Addr) :
    Turn P w K (.Tuple elts kk tpos) (IteT K a) [e, it] e (fun i h => (∃ old, IsEnum h e it ((i : Nat) : Int) old) ∧ h.IsTupleIter it a i ∧ e ≠ it ∧ a ≠ it ∧ e ≠ a) where
  mem := by simp
  obj := fun i h st b hb => by
    obtain ⟨⟨old, he⟩, ⟨o, ho, hc, hd⟩, _⟩ := st
    have e' : b = e ∨ b = it := by simpa using hb
    rcases e' with z | z
    · rw [z]; exact ⟨_, he, fun v q => nomatch q⟩
    · rw [z]; exact ⟨o, ho, fun v q => by rw [hd] at q; cases q⟩
  keep := fun i h h' st k => let ⟨⟨old, he⟩, hi, hne⟩ := st; ⟨⟨old, k e (by simp) _ he⟩, hi.at fun o q => k it (by simp) o q, hne⟩
  item := by
    intro X hP hw hK hc i pins s σ H E I hf st hg
    subst hP hw hK
    obtain ⟨⟨old, he⟩, hit, hne, hai, hea⟩ := st
    obtain ⟨xs, x, hq, hx⟩ := hg
    obtain ⟨its, rv, p, hz⟩ := I.tuple hq
    obtain ⟨u, hu, ru⟩ := rv.get hx
    have hel : e < s.heap.objs.size := Heap.lt_size he
    have hil : it < s.heap.objs.size := by obtain ⟨_, q, _⟩ := hit; exact Heap.lt_size q
    have hp : s.heap.IsTuple a its.toArray := p
    have hlt : i < its.toArray.size := by
      have : i < its.length := by
        rcases Nat.lt_or_ge i its.length with q | q
        · exact q
        · rw [List.getElem?_eq_none q] at hu; cases hu
      simpa using this
    refine wpAny_pyNext_enum_itemD (Draws.tuple (A := X.A.in1) (I.ok.hd hc) it a hai its.toArray) he ⟨hit, hp⟩ hlt hne (by simp [hne, hea]) fun x' h' tk hx' ho hst hT hsz hk => ?_
    have hu' : x' = u := by
      have : its[i]? = some x' := by simpa using hx'
      rw [hu] at this; cases this; rfl
    subst hu'
    obtain ⟨hit', hp'⟩ := hst
    refine ⟨_, rfl, wpAny_letOwnedTupleGo_enum (s := { s with heap := h', toks := tk + 1 }) ho fun h'' he' sb => ?_⟩
    have hT2 : h''.get? s.heap.objs.size = some { cls := .type "tuple", data := .seq #[.int i tk, x'] } := (sb.2 _ (Nat.ne_of_gt hel)).trans hT
    have new : ObjOk X.prog X.w (upd H s.heap.objs.size (.tup [.int (i : Nat), x])) h'' s.heap.objs.size (.tup [.int (i : Nat), x]) :=
      ⟨by show 2 ≤ sizeLine; decide, [.int i tk, x'], .cons ⟨_, rfl⟩ (.cons ru .nil), ⟨_, hT2, rfl, _, rfl⟩⟩
    have I1 : Inv X pins σ (upd H s.heap.objs.size (.tup [.int (i : Nat), x])) { s with heap := h'', toks := tk + 1 } :=
      I.turnedNew (ch := [e, it]) (fun b ob hb q => (sb.2 b (fun z => hb (by simp [z]))).trans (hk b ob (fun z => hb (by simp [z])) (fun z => hb (by simp [z])) q)) hf (Nat.le_refl _) new
    refine ⟨.ref s.heap.objs.size, _, I1, rfl, ⟨_, x, rfl, I.hok.fresh (Nat.le_refl _), rfl, fun ys hy => by rw [I.tuple_inj hy hq]; exact hx⟩, ⟨⟨x', ?_⟩, hit'.at fun o q => (sb.2 it (Ne.symm hne)).trans q, hne, hai, hea⟩, fun b hb => ?_⟩
    · have e1 : ((i + 1 : Nat) : Int) = (i : Int) + 1 := by omega
      rw [e1]; exact he'
    · have hb' : b < s.heap.objs.size := by
        have e' : b = e ∨ b = it := by simpa using hb
        rcases e' with z | z
        · rw [z]; exact hel
        · rw [z]; exact hil
      rw [upd_ne (Nat.ne_of_lt hb')]
      exact (hf b hb).1
  done := by
    intro X hP hw hK hc i pins s σ H E I hf st hg
    subst hP hw hK
    obtain ⟨⟨old, he⟩, hit, hne, hai, hea⟩ := st
    obtain ⟨xs, hq, hx⟩ := hg
    obtain ⟨its, rv, p, hz⟩ := I.tuple hq
    obtain ⟨f0, f1, f2, f3, f4, f5⟩ := hf it (by simp)
    have hl := rv.length
    have hp : s.heap.IsTuple a its.toArray := p
    exact enumT_end (I.ok.hd hc) he hit hp (by simp; omega) fun h' eb => ⟨rfl, I.turned (t' := s.toks) (fun b o hb q => eb b o hb q) f0 f1 f3 f4 f5⟩
  self := fun A i s Q E st h => let ⟨⟨_, he⟩, _⟩ := st; wpAny_pyIter_enum he h
def iEnumA (K : PySem.W.Frag) (ta : TA) : TI := fun σ H R => ta σ H fun vs H1 => ∃ a xs, vs = [.ref a] ∧ ((SqL K H1 a xs ∧ R (Ite K a) H1) ∨ (SqT K H1 a xs ∧ R (IteT K a) H1))
theorem pi_enumA {X : Cx} {e : Expr} {ta : TA} {p pos tpos : Pos} {elts : List Expr} {kk : Nat} (hg : Gl X "enumerate") (hm : X.mg "enumerate" = none) (ha : PA X [e] ta) (hs : starEach [e] X.env = [(false, eval e X.env)] := by rfl) :
    PI X (.Tuple elts kk tpos) (.Call (.Name "enumerate" p) [e] [] pos) (iEnumA X.K ta) := by
  refine ⟨fun pins s σ H R I h => ?_⟩
  refine Call_ (ld_blt I hg hm boot_enumerate (PyProof.Rows.callWith_type1 (thn (ha.run pos pins s σ H _ I h) fun us s1 ⟨vs, H1, I1, r1, q1⟩ => ?_) hs rfl))
  obtain ⟨a, xs, ex, q1⟩ := q1
  subst ex
  cases r1 with
  | cons r rr =>
    cases rr
    cases r
    rcases q1 with ⟨hq, q⟩ | ⟨hq, q⟩
    · obtain ⟨its, rv, p', hz⟩ := I1.list hq
      refine call_enumerate_list p'.isList fun h' he hit hsz hk => wpAny_pyIter_enum he ?_
      have I2 : Inv X pins σ H1 { s1 with heap := h' } := I1.kept (t' := s1.toks) hk
      refine ⟨s1.heap.objs.size + 1, [s1.heap.objs.size + 1, s1.heap.objs.size], _, _, H1, rfl, I2, turn_enum a (s1.heap.objs.size + 1) s1.heap.objs.size, ⟨⟨.none, he⟩, hit, Nat.succ_ne_self _⟩, fun b hb => ?_, q⟩
      have e' : b = s1.heap.objs.size + 1 ∨ b = s1.heap.objs.size := by simpa using hb
      have hle : s1.heap.objs.size ≤ b := by
        rcases e' with z | z
        · rw [z]; exact Nat.le_add_right _ _
        · rw [z]; exact Nat.le_refl _
      exact I1.fpOk hle (I1.hok.fresh hle)
    · obtain ⟨its, rv, p', hz⟩ := I1.tuple hq
      have hp : s1.heap.IsTuple a its.toArray := p'
      have al : a < s1.heap.objs.size := by obtain ⟨_, q, _⟩ := hp; exact Heap.lt_size q
      refine enum1_begins (begins_tuple a its.toArray) hp fun h' he hit hsz hk => wpAny_pyIter_enum he ?_
      have I2 : Inv X pins σ H1 { s1 with heap := h' } := I1.kept (t' := s1.toks) hk
      refine ⟨s1.heap.objs.size + 1, [s1.heap.objs.size + 1, s1.heap.objs.size], _, _, H1, rfl, I2, turn_enumT a (s1.heap.objs.size + 1) s1.heap.objs.size, ⟨⟨.none, he⟩, ⟨_, hit, rfl, rfl⟩, Nat.succ_ne_self _, Nat.ne_of_lt al, Nat.ne_of_gt (Nat.lt_succ_of_lt al)⟩, fun b hb => ?_, q⟩
      have e' : b = s1.heap.objs.size + 1 ∨ b = s1.heap.objs.size := by simpa using hb
      have hle : s1.heap.objs.size ≤ b := by
        rcases e' with z | z
        · rw [z]; exact Nat.le_add_right _ _
        · rw [z]; exact Nat.le_refl _
      exact I1.fpOk hle (I1.hok.fresh hle)
end Mini

namespace Mini
open PySem PySem.Spec L2 RZ
section
variable {K : PySem.W.Frag} {O O' : Own} {H H' : Hp} {env env2 : En} {σ : St}
/-! a result beside the environment, kept -/
theorem WR.keep {r : Sl} {v : V} (w : WR K O H env σ r v) {σ2 : St} (st : Step O H (FpE H env σ) O' H' (FpE H' env2 σ2)) (w2 : W K O' H' env2 σ2) : WR K O' H' env2 σ2 r v := by
  obtain ⟨h1, h2⟩ := RepS.keep st w.val w.sep
  refine ⟨w2, h1, fun b f g => ?_⟩
  rcases st.fps b g with z | z
  · exact w.sep b (h2 b f) z
  · obtain ⟨xs, q, _⟩ := w.w.own b (Fp.own w.val (h2 b f))
    rw [q] at z; cases z
/-! wiped slots -/
def NoAt (env : En) (own : List Nat) : Prop := ∀ i ∈ own, ∀ s, env[i]? = some s → s = .no
theorem wipeE_len (env : En) : ∀ own, (wipeE env own).length = env.length
  | [] => rfl
  | v :: vs => by unfold wipeE; rw [List.length_set, wipeE_len env vs]
theorem wipeE_get {env : En} {i : Nat} {s : Sl} : ∀ {own : List Nat}, (wipeE env own)[i]? = some s → (s = .no ∧ i ∈ own) ∨ (i ∉ own ∧ env[i]? = some s)
  | [], h => .inr ⟨by simp, h⟩
  | v :: vs, h => by
    unfold wipeE at h
    by_cases hi : v = i
    · subst hi
      by_cases hl : v < (wipeE env vs).length
      · rw [List.getElem?_set_self hl] at h; exact .inl ⟨(Option.some.inj h).symm, by simp⟩
      · rw [List.getElem?_eq_none (by simpa using hl)] at h; cases h
    · rw [List.getElem?_set_ne hi] at h
      rcases wipeE_get h with ⟨h1, h2⟩ | ⟨h1, h2⟩
      · exact .inl ⟨h1, by simp [h2]⟩
      · exact .inr ⟨by simp only [List.mem_cons, not_or]; exact ⟨fun e => hi e.symm, h1⟩, h2⟩
theorem NoAt.wipe (env : En) (own : List Nat) : NoAt (wipeE env own) own := fun i hi s h => by
  rcases wipeE_get h with ⟨h1, _⟩ | ⟨h1, _⟩
  · exact h1
  · exact absurd hi h1
theorem wipe_get {σ : St} {i : Nat} : ∀ {own : List Nat}, i ∉ own → (wipe σ own)[i]? = σ[i]?
  | [], _ => rfl
  | v :: vs, h => by
    simp only [List.mem_cons, not_or] at h
    unfold wipe
    rw [List.getElem?_set_ne (Ne.symm h.1)]
    exact wipe_get h.2
theorem W.toWipe (w : W K O H env σ) {own : List Nat} (n : NoAt env own) : W K O H env (wipe σ own) ∧ ∀ b, FpE H env (wipe σ own) b → FpE H env σ b := by
  have get : ∀ (j : Nat) (v : V), (wipe σ own)[j]? = some (some v) → σ[j]? = some (some v) := fun j v h => (wipe_some h).1
  refine ⟨⟨w.own, by rw [wipe_length]; exact w.len, fun i s e => ?_, fun i j s t v u b ne e1 e2 e3 e4 => w.sep i j s t v u b ne e1 e2 (get i v e3) (get j u e4)⟩, fun b ⟨i, s, v, e1, e2, f⟩ => ⟨i, s, v, e1, get i v e2, f⟩⟩
  by_cases hi : i ∈ own
  · exact .inl (n i hi s e)
  · rw [wipe_get hi]; exact w.rep i s e
theorem W.ofWipe {own : List Nat} (w : W K O H env (wipe σ own)) (n : NoAt env own) : W K O H env σ ∧ ∀ b, FpE H env σ b → FpE H env (wipe σ own) b := by
  have sw : ∀ (i : Nat) (s : Sl) (v : V), env[i]? = some s → σ[i]? = some (some v) → s = .no ∨ (wipe σ own)[i]? = some (some v) := fun i s v e1 e2 => by
    by_cases hi : i ∈ own
    · exact .inl (n i hi s e1)
    · exact .inr (by rw [wipe_get hi]; exact e2)
  refine ⟨⟨w.own, by rw [w.len, wipe_length], fun i s e => ?_, fun i j s t v u b ne e1 e2 e3 e4 f1 f2 => ?_⟩, fun b ⟨i, s, v, e1, e2, f⟩ => ?_⟩
  · rcases w.rep i s e with z | ⟨v, h1, h2⟩
    · exact .inl z
    · exact .inr ⟨v, (wipe_some h1).1, h2⟩
  · rcases sw i s v e1 e3 with rfl | h1
    · exact f1
    · rcases sw j t u e2 e4 with rfl | h2
      · exact f2
      · exact w.sep i j s t v u b ne e1 e2 h1 h2 f1 f2
  · rcases sw i s v e1 e2 with rfl | h
    · exact f.elim
    · exact ⟨i, s, v, e1, h, f⟩
end
/-! targets -/
mutual
def T.slots : T → List Nat
  | .nm i => [i]
  | .tp ts => slotsL ts
def slotsL : List T → List Nat
  | [] => []
  | t :: ts => t.slots ++ slotsL ts
end
def OnlyAt (σ σ2 : St) (sl : List Nat) : Prop := σ2.length = σ.length ∧ ∀ j, j ∉ sl → σ2[j]? = σ[j]?
theorem OnlyAt.wipe {σ σ2 : St} {sl own : List Nat} (h : OnlyAt σ σ2 sl) (s : ∀ i ∈ sl, i ∈ own) : wipe σ2 own = wipe σ own := by
  apply List.ext_getElem?
  intro j
  by_cases hj : j ∈ own
  · have key : ∀ (τ : St) (ow : List Nat), j ∈ ow → (L2.wipe τ ow)[j]? = if j < τ.length then some none else none := by
      intro τ ow
      induction ow with
      | nil => intro h; simp at h
      | cons v vs ih =>
        intro h
        unfold L2.wipe
        by_cases hv : v = j
        · subst hv
          rw [List.getElem?_set]
          simp only [if_pos, wipe_length]
        · rw [List.getElem?_set_ne hv]
          exact ih (by rcases List.mem_cons.mp h with e | e; exact absurd e.symm hv; exact e)
    rw [key σ2 own hj, key σ own hj, h.1]
  · rw [wipe_get hj, wipe_get hj]
    exact h.2 j fun z => hj (s j z)
section
variable {X : Cx} {K : PySem.W.Frag}
/-- the reading of a target -/
def gT (K : PySem.W.Frag) (t : T) : TG := fun v σ H Q => ∃ O env d env2, W K O H env σ ∧ RepD K O H d v ∧ asgT t d env = some env2 ∧
  ∀ σ2, W K O H env2 σ2 → (∀ b, FpE H env2 σ2 b → FpE H env σ b) → OnlyAt σ σ2 t.slots → Q σ2 H
def gTs (K : PySem.W.Frag) (ts : List T) : TGs := fun vs σ H Q => ∃ O env ds env2, W K O H env σ ∧ RepDs K O H ds vs ∧ asgTs ts ds env = some env2 ∧
  ∀ σ2, W K O H env2 σ2 → (∀ b, FpE H env2 σ2 b → FpE H env σ b) → OnlyAt σ σ2 (slotsL ts) → Q σ2 H
theorem setS_some {i : Nat} {s : Sl} {env env2 : En} (h : setS i s env = some env2) : ∃ o, env[i]? = some o ∧ o.isBx = false ∧ env2 = env.set i s := by
  unfold setS at h
  split at h
  · cases h
  · cases h
  · rename_i o n h1
    cases h
    refine ⟨o, h1, ?_, rfl⟩
    cases o <;> first | rfl | exact absurd rfl (n _ _)
theorem pg_nm {i : Nat} {x : Str} {pos : Pos} (hN : X.N.Nodup) (hi : X.N[i]? = some x) (hx : Loc X.env.scope x) (hf : X.fn x = true ∨ X.env.scope.names.lookup x = some .local) : PG X (.Name x pos) (gT X.K (.nm i)) := by
  refine ⟨fun pins s σ H v u Q I r q => (pg_name hN hi hx hf).run pins s σ H v u Q I r ?_⟩
  obtain ⟨O, env, d, env2, w, rd, e, q⟩ := q
  obtain ⟨o, e1, nb, rfl⟩ := setS_some e
  have wr : WR X.K O H env σ (.v d) v := ⟨w, rd, fun b f => f.elim⟩
  obtain ⟨w2, k⟩ := wr.store e1 nb
  exact q _ w2 (fun b f => (k b f).elim id fun z => z.elim) ⟨by rw [List.length_set], fun j hj => List.getElem?_set_ne fun z => hj (by simp [T.slots, z])⟩
theorem pgs_nilT : PGs X [] (gTs X.K []) := by
  refine ⟨fun pins s σ H vs us Q I r q => pgs_nil.run pins s σ H vs us Q I r ?_⟩
  obtain ⟨O, env, ds, env2, w, rd, e, q⟩ := q
  cases ds with
  | nil =>
    cases e
    simp only [RepDs] at rd
    exact ⟨rd, q σ w (fun _ f => f) ⟨rfl, fun _ _ => rfl⟩⟩
  | cons _ _ => cases e
theorem pgs_consT {e : Expr} {es : List Expr} {t : T} {ts : List T} (h1 : PG X e (gT X.K t)) (h2 : PGs X es (gTs X.K ts)) (hs : (assignEach (e :: es) X.env).map (·.2) = assign e X.env :: (assignEach es X.env).map (·.2)) : PGs X (e :: es) (gTs X.K (t :: ts)) := by
  refine ⟨fun pins s σ H vs us Q I r q => (pgs_cons h1 h2 hs).run pins s σ H vs us Q I r ?_⟩
  obtain ⟨O, env, ds, env2, w, rd, e, q⟩ := q
  cases ds with
  | nil => cases e
  | cons d ds =>
    simp only [RepDs] at rd
    obtain ⟨v, vr, rfl, rd1, rd2⟩ := rd
    simp only [asgTs, Option.bind_eq_some_iff] at e
    obtain ⟨e1, h3, h4⟩ := e
    refine ⟨v, vr, rfl, O, env, d, e1, w, rd1, h3, fun σ1 w1 k1 o1 => ⟨O, e1, ds, env2, w1, rd2, h4, fun σ2 w2 k2 o2 => ?_⟩⟩
    refine q σ2 w2 (fun b f => k1 b (k2 b f)) ⟨o2.1.trans o1.1, fun j hj => ?_⟩
    simp only [slotsL, List.mem_append, not_or] at hj
    rw [o2.2 j hj.2, o1.2 j hj.1]
theorem pg_tp {es : List Expr} {k : Nat} {ts : List T} {n : Nat} {pos : Pos} (hc : X.calm = true) (h : PGs X es (gTs X.K ts)) (hl : ts.length = n) (hn : (assignEach es X.env).length = n) (hst : (assignEach es X.env).findIdx? (·.1) = none) : PG X (.Tuple es k pos) (gT X.K (.tp ts)) := by
  refine ⟨fun pins s σ H v u Q I r q => (L2.pg_tup hc h hn hst).run pins s σ H v u Q I r ?_⟩
  obtain ⟨O, env, d, env2, w, rd, e, q⟩ := q
  cases d with
  | tuple ds =>
    simp only [RepD] at rd
    obtain ⟨a, vs, rfl, s1, r1⟩ := rd
    have e' : asgTs ts ds env = some env2 := by simpa only [asgT] using e
    have lens : ∀ (ts : List T) (ds : List D) (en e2 : En), asgTs ts ds en = some e2 → ts.length = ds.length := by
      intro ts
      induction ts with
      | nil => intro ds en e2 h; cases ds with
        | nil => rfl
        | cons _ _ => cases h
      | cons t ts ih => intro ds en e2 h; cases ds with
        | nil => cases h
        | cons d ds =>
          simp only [asgTs, Option.bind_eq_some_iff] at h
          obtain ⟨e1, _, h2⟩ := h
          simp [ih ds e1 e2 h2]
    refine ⟨a, vs, rfl, s1, by rw [← r1.length, ← lens _ _ _ _ e', hl], O, env, ds, env2, w, r1, e', fun σ2 w2 k o => q σ2 w2 k (by simpa only [T.slots] using o)⟩
  | _ => simp only [asgT] at e; cases e
end
/-! what is walked -/
/-- no list or tuple is too long -/
def Line (K : PySem.W.Frag) (H : Hp) : Prop := ∀ (a : Addr) (xs : List V), SqL K H a xs ∨ SqT K H a xs → xs.length ≤ sizeLine
theorem line_of {X : Cx} {pins : List (Addr × Obj)} {σ : St} {H : Hp} {s : Shared} (I : Inv X pins σ H s) : Line X.K H := fun a xs h => by
  rcases h with h | h
  · obtain ⟨_, _, _, z⟩ := I.list h; exact z
  · obtain ⟨_, _, _, z⟩ := I.tuple h; exact z
/-- an iterator J that yields the items while the operands stand as ds -/
structure ItD (K : PySem.W.Frag) (J : It) (items : List D) (ds : List D) (vs : List V) : Prop where
  go : ∀ (i : Nat) (O : Own) (H : Hp) (d : D), OwnOk O H → RepPs K O H ds vs → items[i]? = some d → J.go i H
  yld : ∀ (i : Nat) (O : Own) (H : Hp) (d : D) (x : V) (H' : Hp), OwnOk O H → RepPs K O H ds vs → items[i]? = some d → J.yld i H x H' → Step O H F0 O H' F0 ∧ RepD K O H' d x
  stop : ∀ (O : Own) (H : Hp), OwnOk O H → RepPs K O H ds vs → J.stop items.length H
  len : ∀ (O : Own) (H : Hp), OwnOk O H → RepPs K O H ds vs → Line K H → items.length ≤ sizeLine
/-- .. the reading of what a loop walks -/
def tI (K : PySem.W.Frag) (k : IK) (f : En → Option (List Opd × En)) : TI := fun σ H R => ∃ O env ps env' ds items, W K O H env σ ∧ f env = some (ps, env') ∧ gets env' ps = some ds ∧ itemsOf k ds = some items ∧
  ∀ O' H' J vs, Step O H (FpE H env σ) O' H' (FpE H' env' σ) → W K O' H' env' σ → RepOs K O' H' σ ps vs → ItD K J items ds vs → R J H'
section
variable {K : PySem.W.Frag}
theorem one_ps {O : Own} {H : Hp} {d : D} {vs : List V} (h : RepPs K O H [d] vs) : ∃ v, vs = [v] ∧ RepP K O H d v := by
  obtain ⟨v, r, rfl, h1, h2⟩ := h
  cases h2
  exact ⟨v, rfl, h1⟩
theorem itd_list {xs : List D} {a : Addr} : ItD K (Itl K a) xs [.list xs] [.ref a] := by
  have rd : ∀ (O : Own) (H : Hp), RepPs K O H [.list xs] [.ref a] → ∃ us, H a = some (.lst us) ∧ RepDs K O H xs us := fun O H h => by
    obtain ⟨v, e, h⟩ := one_ps h
    cases e
    obtain ⟨b, us, e, h1, h2⟩ := h.list
    cases e
    exact ⟨us, h1, h2⟩
  refine ⟨fun i O H d own h e => ?_, fun i O H d x H' own h e y => ?_, fun O H own h => ?_, fun O H own h ln => ?_⟩
  · obtain ⟨us, h1, h2⟩ := rd O H h
    obtain ⟨v, h3, _⟩ := h2.get e
    exact ⟨us, v, SqL.of h1, h3⟩
  · obtain ⟨us, h1, h2⟩ := rd O H h
    obtain ⟨v, h3, h4⟩ := h2.get e
    obtain ⟨rfl, y⟩ := y
    have := y us (SqL.of h1)
    rw [h3] at this; cases this
    exact ⟨(Step.refl own).sub fun _ z => z, h4⟩
  · obtain ⟨us, h1, h2⟩ := rd O H h
    exact ⟨us, SqL.of h1, by rw [h2.length]; exact Nat.le_refl _⟩
  · obtain ⟨us, h1, h2⟩ := rd O H h
    rw [h2.length]; exact ln a us (.inl (SqL.of h1))
theorem itd_tup {xs : List D} {a : Addr} : ItD K (Itt K a) xs [.tuple xs] [.ref a] := by
  have rd : ∀ (O : Own) (H : Hp), RepPs K O H [.tuple xs] [.ref a] → ∃ us, SqT K H a us ∧ RepDs K O H xs us := fun O H h => by
    obtain ⟨v, e, h⟩ := one_ps h
    cases e
    obtain ⟨b, us, e, h1, h2⟩ := h.tuple
    cases e
    exact ⟨us, h1, h2⟩
  refine ⟨fun i O H d own h e => ?_, fun i O H d x H' own h e y => ?_, fun O H own h => ?_, fun O H own h ln => ?_⟩
  · obtain ⟨us, h1, h2⟩ := rd O H h
    obtain ⟨v, h3, _⟩ := h2.get e
    exact ⟨us, v, h1, h3⟩
  · obtain ⟨us, h1, h2⟩ := rd O H h
    obtain ⟨v, h3, h4⟩ := h2.get e
    obtain ⟨rfl, y⟩ := y
    have := y us h1
    rw [h3] at this; cases this
    exact ⟨(Step.refl own).sub fun _ z => z, h4⟩
  · obtain ⟨us, h1, h2⟩ := rd O H h
    exact ⟨us, h1, by rw [h2.length]; exact Nat.le_refl _⟩
  · obtain ⟨us, h1, h2⟩ := rd O H h
    rw [h2.length]; exact ln a us (.inr h1)
theorem rngL_get {lo : Int} {n i : Nat} {d : D} (h : (rngL lo n)[i]? = some d) : i < n ∧ d = .int (lo + i) := by
  unfold rngL at h
  rw [List.getElem?_map] at h
  by_cases hi : i < n
  · rw [List.getElem?_range hi] at h
    cases h
    exact ⟨hi, rfl⟩
  · rw [List.getElem?_eq_none (by simpa using hi)] at h; cases h
theorem itd_rng {lo : Int} {n : Nat} {ds : List D} {vs : List V} (hn : n ≤ sizeLine) : ItD K (Itr lo n) (rngL lo n) ds vs := by
  refine ⟨fun i O H d own h e => (rngL_get e).1, fun i O H d x H' own h e y => ?_, fun O H own h => ?_, fun O H own h ln => by simpa [rngL] using hn⟩
  · obtain ⟨h1, rfl⟩ := rngL_get e
    obtain ⟨rfl, rfl⟩ := y
    exact ⟨(Step.refl own).sub fun _ z => z, by simp only [RepD]⟩
  · show n ≤ _
    simp [rngL]
theorem rngC_get {lo c : Int} {n i : Nat} {d : D} (h : (rngC lo c n)[i]? = some d) : i < n ∧ d = .int (lo + i * c) := by
  unfold rngC at h
  rw [List.getElem?_map] at h
  by_cases hi : i < n
  · rw [List.getElem?_range hi] at h
    cases h
    exact ⟨hi, rfl⟩
  · rw [List.getElem?_eq_none (by simpa using hi)] at h; cases h
theorem itd_rngC {lo c : Int} {n : Nat} {ds : List D} {vs : List V} (hn : n ≤ sizeLine) : ItD K (Itc lo c n) (rngC lo c n) ds vs := by
  refine ⟨fun i O H d own h e => (rngC_get e).1, fun i O H d x H' own h e y => ?_, fun O H own h => ?_, fun O H own h ln => by simpa [rngC] using hn⟩
  · obtain ⟨h1, rfl⟩ := rngC_get e
    obtain ⟨rfl, rfl⟩ := y
    exact ⟨(Step.refl own).sub fun _ z => z, by simp only [RepD]⟩
  · show n ≤ _
    simp [rngC]
theorem enumL_get : ∀ {xs : List D} {k i : Nat} {d : D}, (enumL xs k)[i]? = some d → ∃ x, xs[i]? = some x ∧ d = .tuple [.int ((k + i : Nat) : Int), x]
  | [], k, i, d, h => by simp [enumL] at h
  | x :: xs, k, 0, d, h => by simp [enumL] at h; exact ⟨x, by simp, by rw [← h]; simp⟩
  | x :: xs, k, i + 1, d, h => by
    simp only [enumL, List.getElem?_cons_succ] at h
    obtain ⟨y, h1, h2⟩ := enumL_get h
    exact ⟨y, by simpa using h1, by rw [h2]; congr 3; omega⟩
theorem enumL_len : ∀ (xs : List D) (k : Nat), (enumL xs k).length = xs.length
  | [], k => rfl
  | x :: xs, k => by simp [enumL, enumL_len xs]
theorem itd_enum {xs : List D} {a : Addr} : ItD K (Ite K a) (enumL xs 0) [.list xs] [.ref a] := by
  have rd : ∀ (O : Own) (H : Hp), RepPs K O H [.list xs] [.ref a] → ∃ us, H a = some (.lst us) ∧ RepDs K O H xs us := fun O H h => by
    obtain ⟨v, e, h⟩ := one_ps h
    cases e
    obtain ⟨b, us, e, h1, h2⟩ := h.list
    cases e
    exact ⟨us, h1, h2⟩
  refine ⟨fun i O H d own h e => ?_, fun i O H d x H' own h e y => ?_, fun O H own h => ?_, fun O H own h ln => ?_⟩
  · obtain ⟨us, h1, h2⟩ := rd O H h
    obtain ⟨x, e1, _⟩ := enumL_get e
    obtain ⟨v, h3, _⟩ := h2.get e1
    exact ⟨us, v, SqL.of h1, h3⟩
  · obtain ⟨us, h1, h2⟩ := rd O H h
    obtain ⟨z, e1, rfl⟩ := enumL_get e
    obtain ⟨v, h3, h4⟩ := h2.get e1
    obtain ⟨T, u, rfl, hT, rfl, y⟩ := y
    have := y us (SqL.of h1)
    rw [h3] at this; cases this
    have st := OwnOk.new (o := .tup [.int (i : Nat), v]) own hT
    refine ⟨st, ?_⟩
    simp only [RepD, RepDs]
    exact ⟨T, _, rfl, SqT.of upd_same, .int (i : Nat), [v], rfl, by simp, v, [], rfl, RepD.evo st.evo _ _ h4, rfl⟩
  · obtain ⟨us, h1, h2⟩ := rd O H h
    exact ⟨us, SqL.of h1, by rw [enumL_len, h2.length]; exact Nat.le_refl _⟩
  · obtain ⟨us, h1, h2⟩ := rd O H h
    rw [enumL_len, h2.length]; exact ln a us (.inl (SqL.of h1))
theorem itd_enumT {xs : List D} {a : Addr} : ItD K (IteT K a) (enumL xs 0) [.tuple xs] [.ref a] := by
  have rd : ∀ (O : Own) (H : Hp), RepPs K O H [.tuple xs] [.ref a] → ∃ us, SqT K H a us ∧ RepDs K O H xs us := fun O H h => by
    obtain ⟨v, e, h⟩ := one_ps h
    cases e
    obtain ⟨b, us, e, h1, h2⟩ := h.tuple
    cases e
    exact ⟨us, h1, h2⟩
  refine ⟨fun i O H d own h e => ?_, fun i O H d x H' own h e y => ?_, fun O H own h => ?_, fun O H own h ln => ?_⟩
  · obtain ⟨us, h1, h2⟩ := rd O H h
    obtain ⟨x, e1, _⟩ := enumL_get e
    obtain ⟨v, h3, _⟩ := h2.get e1
    exact ⟨us, v, h1, h3⟩
  · obtain ⟨us, h1, h2⟩ := rd O H h
    obtain ⟨z, e1, rfl⟩ := enumL_get e
    obtain ⟨v, h3, h4⟩ := h2.get e1
    obtain ⟨T, u, rfl, hT, rfl, y⟩ := y
    have := y us h1
    rw [h3] at this; cases this
    have st := OwnOk.new (o := .tup [.int (i : Nat), v]) own hT
    refine ⟨st, ?_⟩
    simp only [RepD, RepDs]
    exact ⟨T, _, rfl, SqT.of upd_same, .int (i : Nat), [v], rfl, by simp, v, [], rfl, RepD.evo st.evo _ _ h4, rfl⟩
  · obtain ⟨us, h1, h2⟩ := rd O H h
    exact ⟨us, h1, by rw [enumL_len, h2.length]; exact Nat.le_refl _⟩
  · obtain ⟨us, h1, h2⟩ := rd O H h
    rw [enumL_len, h2.length]; exact ln a us (.inr h1)
theorem two_ps {O : Own} {H : Hp} {d e : D} {vs : List V} (h : RepPs K O H [d, e] vs) : ∃ v u, vs = [v, u] ∧ RepP K O H d v ∧ RepP K O H e u := by
  obtain ⟨v, r, rfl, h1, h2⟩ := h
  obtain ⟨u, rfl, h3⟩ := one_ps h2
  exact ⟨v, u, rfl, h1, h3⟩
theorem zipL_get : ∀ {xs ys : List D} {i : Nat} {d : D}, (zipL xs ys)[i]? = some d → ∃ x y, xs[i]? = some x ∧ ys[i]? = some y ∧ d = .tuple [x, y]
  | [], ys, i, d, h => by simp [zipL] at h
  | x :: xs, [], i, d, h => by simp [zipL] at h
  | x :: xs, y :: ys, 0, d, h => by simp [zipL] at h; exact ⟨x, y, by simp, by simp, h.symm⟩
  | x :: xs, y :: ys, i + 1, d, h => by
    simp only [zipL, List.getElem?_cons_succ] at h
    obtain ⟨x', y', h1, h2, h3⟩ := zipL_get h
    exact ⟨x', y', by simpa using h1, by simpa using h2, h3⟩
theorem zipL_len : ∀ (xs ys : List D), (zipL xs ys).length = min xs.length ys.length
  | [], ys => by simp [zipL]
  | x :: xs, [] => by simp [zipL]
  | x :: xs, y :: ys => by simp [zipL, zipL_len xs ys]
theorem itd_zipL {xs ys : List D} {a b : Addr} : ItD K (Itz K a b) (zipL xs ys) [.list xs, .list ys] [.ref a, .ref b] := by
  have rd : ∀ (O : Own) (H : Hp), RepPs K O H [.list xs, .list ys] [.ref a, .ref b] → ∃ us ws, H a = some (.lst us) ∧ H b = some (.lst ws) ∧ RepDs K O H xs us ∧ RepDs K O H ys ws := fun O H h => by
    obtain ⟨v, w, e, h, g⟩ := two_ps h
    cases e
    obtain ⟨b1, us, e, h1, h2⟩ := h.list
    cases e
    obtain ⟨b2, ws, e, h3, h4⟩ := g.list
    cases e
    exact ⟨us, ws, h1, h3, h2, h4⟩
  refine ⟨fun i O H d own h e => ?_, fun i O H d x H' own h e y => ?_, fun O H own h => ?_, fun O H own h ln => ?_⟩
  · obtain ⟨us, ws, h1, h2, h3, h4⟩ := rd O H h
    obtain ⟨x, y, e1, e2, _⟩ := zipL_get e
    obtain ⟨v, h5, _⟩ := h3.get e1
    obtain ⟨w, h6, _⟩ := h4.get e2
    exact ⟨us, ws, v, w, SqL.of h1, SqL.of h2, h5, h6⟩
  · obtain ⟨us, ws, h1, h2, h3, h4⟩ := rd O H h
    obtain ⟨x', y', e1, e2, rfl⟩ := zipL_get e
    obtain ⟨v, h5, h7⟩ := h3.get e1
    obtain ⟨w, h6, h8⟩ := h4.get e2
    obtain ⟨T, u1, u2, rfl, hT, rfl, y1, y2⟩ := y
    have z1 := y1 us (SqL.of h1)
    rw [h5] at z1; cases z1
    have z2 := y2 ws (SqL.of h2)
    rw [h6] at z2; cases z2
    have st := OwnOk.new (o := .tup [v, w]) own hT
    refine ⟨st, ?_⟩
    simp only [RepD, RepDs]
    exact ⟨T, _, rfl, SqT.of upd_same, v, [w], rfl, RepD.evo st.evo _ _ h7, w, [], rfl, RepD.evo st.evo _ _ h8, rfl⟩
  · obtain ⟨us, ws, h1, h2, h3, h4⟩ := rd O H h
    have := h3.length
    have := h4.length
    refine ⟨us, ws, SqL.of h1, SqL.of h2, ?_⟩
    rw [zipL_len]; omega
  · obtain ⟨us, ws, h1, h2, h3, h4⟩ := rd O H h
    have := h3.length
    have := ln a us (.inl (SqL.of h1))
    rw [zipL_len]; omega
theorem itd_zipT {xs ys : List D} {a b : Addr} : ItD K (ItzT K a b) (zipL xs ys) [.tuple xs, .tuple ys] [.ref a, .ref b] := by
  have rd : ∀ (O : Own) (H : Hp), RepPs K O H [.tuple xs, .tuple ys] [.ref a, .ref b] → ∃ us ws, SqT K H a us ∧ SqT K H b ws ∧ RepDs K O H xs us ∧ RepDs K O H ys ws := fun O H h => by
    obtain ⟨v, w, e, h, g⟩ := two_ps h
    cases e
    obtain ⟨b1, us, e, h1, h2⟩ := h.tuple
    cases e
    obtain ⟨b2, ws, e, h3, h4⟩ := g.tuple
    cases e
    exact ⟨us, ws, h1, h3, h2, h4⟩
  refine ⟨fun i O H d own h e => ?_, fun i O H d x H' own h e y => ?_, fun O H own h => ?_, fun O H own h ln => ?_⟩
  · obtain ⟨us, ws, h1, h2, h3, h4⟩ := rd O H h
    obtain ⟨x, y, e1, e2, _⟩ := zipL_get e
    obtain ⟨v, h5, _⟩ := h3.get e1
    obtain ⟨w, h6, _⟩ := h4.get e2
    exact ⟨us, ws, v, w, h1, h2, h5, h6⟩
  · obtain ⟨us, ws, h1, h2, h3, h4⟩ := rd O H h
    obtain ⟨x', y', e1, e2, rfl⟩ := zipL_get e
    obtain ⟨v, h5, h7⟩ := h3.get e1
    obtain ⟨w, h6, h8⟩ := h4.get e2
    obtain ⟨T, u1, u2, rfl, hT, rfl, y1, y2⟩ := y
    have z1 := y1 us h1
    rw [h5] at z1; cases z1
    have z2 := y2 ws h2
    rw [h6] at z2; cases z2
    have st := OwnOk.new (o := .tup [v, w]) own hT
    refine ⟨st, ?_⟩
    simp only [RepD, RepDs]
    exact ⟨T, _, rfl, SqT.of upd_same, v, [w], rfl, RepD.evo st.evo _ _ h7, w, [], rfl, RepD.evo st.evo _ _ h8, rfl⟩
  · obtain ⟨us, ws, h1, h2, h3, h4⟩ := rd O H h
    have := h3.length
    have := h4.length
    refine ⟨us, ws, h1, h2, ?_⟩
    rw [zipL_len]; omega
  · obtain ⟨us, ws, h1, h2, h3, h4⟩ := rd O H h
    have := h3.length
    have := ln a us (.inr h1)
    rw [zipL_len]; omega
def mkD : Bool → List D → D
  | true, xs => .list xs
  | false, xs => .tuple xs
theorem repP_sq {b : Bool} {O : Own} {H : Hp} {xs : List D} {v : V} (h : RepP K O H (mkD b xs) v) : ∃ a us, v = .ref a ∧ Sq K b H a us ∧ RepDs K O H xs us := by
  cases b
  · obtain ⟨a, us, e, h1, h2⟩ := RepP.tuple h
    exact ⟨a, us, e, h1, h2⟩
  · obtain ⟨a, us, e, h1, h2⟩ := RepP.list h
    exact ⟨a, us, e, SqL.of h1, h2⟩
theorem three_ps {O : Own} {H : Hp} {d e f : D} {vs : List V} (h : RepPs K O H [d, e, f] vs) : ∃ v u w, vs = [v, u, w] ∧ RepP K O H d v ∧ RepP K O H e u ∧ RepP K O H f w := by
  obtain ⟨v, r, rfl, h1, h2⟩ := h
  obtain ⟨u, w, rfl, h3, h4⟩ := two_ps h2
  exact ⟨v, u, w, rfl, h1, h3, h4⟩
theorem itd_zipM {b1 b2 : Bool} {xs ys : List D} {a b : Addr} : ItD K (ItzM K b1 b2 a b) (zipL xs ys) [mkD b1 xs, mkD b2 ys] [.ref a, .ref b] := by
  have rd : ∀ (O : Own) (H : Hp), RepPs K O H [mkD b1 xs, mkD b2 ys] [.ref a, .ref b] → ∃ us ws, Sq K b1 H a us ∧ Sq K b2 H b ws ∧ RepDs K O H xs us ∧ RepDs K O H ys ws := fun O H h => by
    obtain ⟨v, w, e, h, g⟩ := two_ps h
    cases e
    obtain ⟨_, us, e, h1, h2⟩ := repP_sq h
    cases e
    obtain ⟨_, ws, e, h3, h4⟩ := repP_sq g
    cases e
    exact ⟨us, ws, h1, h3, h2, h4⟩
  refine ⟨fun i O H d own h e => ?_, fun i O H d x H' own h e y => ?_, fun O H own h => ?_, fun O H own h ln => ?_⟩
  · obtain ⟨us, ws, h1, h2, h3, h4⟩ := rd O H h
    obtain ⟨x, y, e1, e2, _⟩ := zipL_get e
    obtain ⟨v, h5, _⟩ := h3.get e1
    obtain ⟨w, h6, _⟩ := h4.get e2
    exact ⟨us, ws, v, w, h1, h2, h5, h6⟩
  · obtain ⟨us, ws, h1, h2, h3, h4⟩ := rd O H h
    obtain ⟨x', y', e1, e2, rfl⟩ := zipL_get e
    obtain ⟨v, h5, h7⟩ := h3.get e1
    obtain ⟨w, h6, h8⟩ := h4.get e2
    obtain ⟨T, u1, u2, rfl, hT, rfl, y1, y2⟩ := y
    have z1 := y1 us h1
    rw [h5] at z1; cases z1
    have z2 := y2 ws h2
    rw [h6] at z2; cases z2
    have st := OwnOk.new (o := .tup [v, w]) own hT
    refine ⟨st, ?_⟩
    simp only [RepD, RepDs]
    exact ⟨T, _, rfl, SqT.of upd_same, v, [w], rfl, RepD.evo st.evo _ _ h7, w, [], rfl, RepD.evo st.evo _ _ h8, rfl⟩
  · obtain ⟨us, ws, h1, h2, h3, h4⟩ := rd O H h
    have := h3.length
    have := h4.length
    refine ⟨us, ws, h1, h2, ?_⟩
    rw [zipL_len]; omega
  · obtain ⟨us, ws, h1, h2, h3, h4⟩ := rd O H h
    have := h3.length
    have := ln a us (by cases b1; exact .inr h1; exact .inl h1)
    rw [zipL_len]; omega
theorem zipL3_get : ∀ {xs ys zs : List D} {i : Nat} {d : D}, (zipL3 xs ys zs)[i]? = some d → ∃ x y z, xs[i]? = some x ∧ ys[i]? = some y ∧ zs[i]? = some z ∧ d = .tuple [x, y, z]
  | [], ys, zs, i, d, h => by simp [zipL3] at h
  | x :: xs, [], zs, i, d, h => by simp [zipL3] at h
  | x :: xs, y :: ys, [], i, d, h => by simp [zipL3] at h
  | x :: xs, y :: ys, z :: zs, 0, d, h => by simp [zipL3] at h; exact ⟨x, y, z, by simp, by simp, by simp, h.symm⟩
  | x :: xs, y :: ys, z :: zs, i + 1, d, h => by
    simp only [zipL3, List.getElem?_cons_succ] at h
    obtain ⟨x', y', z', h1, h2, h3, h4⟩ := zipL3_get h
    exact ⟨x', y', z', by simpa using h1, by simpa using h2, by simpa using h3, h4⟩
theorem zipL3_len : ∀ (xs ys zs : List D), (zipL3 xs ys zs).length = min (min xs.length ys.length) zs.length
  | [], ys, zs => by simp [zipL3]
  | x :: xs, [], zs => by simp [zipL3]
  | x :: xs, y :: ys, [] => by simp [zipL3]
  | x :: xs, y :: ys, z :: zs => by simp [zipL3, zipL3_len xs ys zs]
theorem itd_zipM3 {b1 b2 b3 : Bool} {xs ys zs : List D} {a b c : Addr} : ItD K (ItzM3 K b1 b2 b3 a b c) (zipL3 xs ys zs) [mkD b1 xs, mkD b2 ys, mkD b3 zs] [.ref a, .ref b, .ref c] := by
  have rd : ∀ (O : Own) (H : Hp), RepPs K O H [mkD b1 xs, mkD b2 ys, mkD b3 zs] [.ref a, .ref b, .ref c] → ∃ us ws ts, Sq K b1 H a us ∧ Sq K b2 H b ws ∧ Sq K b3 H c ts ∧ RepDs K O H xs us ∧ RepDs K O H ys ws ∧ RepDs K O H zs ts := fun O H h => by
    obtain ⟨v, w, t, e, h, g, k⟩ := three_ps h
    cases e
    obtain ⟨_, us, e, h1, h2⟩ := repP_sq h
    cases e
    obtain ⟨_, ws, e, h3, h4⟩ := repP_sq g
    cases e
    obtain ⟨_, ts, e, h5, h6⟩ := repP_sq k
    cases e
    exact ⟨us, ws, ts, h1, h3, h5, h2, h4, h6⟩
  refine ⟨fun i O H d own h e => ?_, fun i O H d x H' own h e y => ?_, fun O H own h => ?_, fun O H own h ln => ?_⟩
  · obtain ⟨us, ws, ts, h1, h2, h2', h3, h4, h4'⟩ := rd O H h
    obtain ⟨x, y, z, e1, e2, e3, _⟩ := zipL3_get e
    obtain ⟨v, h5, _⟩ := h3.get e1
    obtain ⟨w, h6, _⟩ := h4.get e2
    obtain ⟨t, h7, _⟩ := h4'.get e3
    exact ⟨us, ws, ts, v, w, t, h1, h2, h2', h5, h6, h7⟩
  · obtain ⟨us, ws, ts, h1, h2, h2', h3, h4, h4'⟩ := rd O H h
    obtain ⟨x', y', z', e1, e2, e3, rfl⟩ := zipL3_get e
    obtain ⟨v, h5, h7⟩ := h3.get e1
    obtain ⟨w, h6, h8⟩ := h4.get e2
    obtain ⟨t, h9, h10⟩ := h4'.get e3
    obtain ⟨T, u1, u2, u3, rfl, hT, rfl, y1, y2, y3⟩ := y
    have z1 := y1 us h1
    rw [h5] at z1; cases z1
    have z2 := y2 ws h2
    rw [h6] at z2; cases z2
    have z3 := y3 ts h2'
    rw [h9] at z3; cases z3
    have st := OwnOk.new (o := .tup [v, w, t]) own hT
    refine ⟨st, ?_⟩
    simp only [RepD, RepDs]
    exact ⟨T, _, rfl, SqT.of upd_same, v, [w, t], rfl, RepD.evo st.evo _ _ h7, w, [t], rfl, RepD.evo st.evo _ _ h8, t, [], rfl, RepD.evo st.evo _ _ h10, rfl⟩
  · obtain ⟨us, ws, ts, h1, h2, h2', h3, h4, h4'⟩ := rd O H h
    have := h3.length
    have := h4.length
    have := h4'.length
    refine ⟨us, ws, ts, h1, h2, h2', ?_⟩
    rw [zipL3_len]; omega
  · obtain ⟨us, ws, ts, h1, h2, h2', h3, h4, h4'⟩ := rd O H h
    have := h3.length
    have := ln a us (by cases b1; exact .inr h1; exact .inl h1)
    rw [zipL3_len]; omega
theorem seqD_mk {d : D} {xs : List D} (h : seqD d = some xs) : ∃ b, d = mkD b xs := by
  cases d <;> first | (cases h; exact ⟨true, rfl⟩) | (cases h; exact ⟨false, rfl⟩) | cases h
theorem zip_mk {d d2 : D} {items : List D} (h : itemsOf .zip [d, d2] = some items) : ∃ b1 b2 xs ys, d = mkD b1 xs ∧ d2 = mkD b2 ys ∧ items = zipL xs ys := by
  cases d with
  | list xs => cases d2 with
    | list ys => cases h; exact ⟨true, true, xs, ys, rfl, rfl, rfl⟩
    | tuple ys => cases h; exact ⟨true, false, xs, ys, rfl, rfl, rfl⟩
    | _ => simp [itemsOf] at h
  | tuple xs => cases d2 with
    | list ys => cases h; exact ⟨false, true, xs, ys, rfl, rfl, rfl⟩
    | tuple ys => cases h; exact ⟨false, false, xs, ys, rfl, rfl, rfl⟩
    | _ => simp [itemsOf] at h
  | _ => cases d2 <;> simp [itemsOf] at h
theorem zip_mk3 {d d2 d3 : D} {items : List D} (h : itemsOf .zip [d, d2, d3] = some items) : ∃ b1 b2 b3 xs ys zs, d = mkD b1 xs ∧ d2 = mkD b2 ys ∧ d3 = mkD b3 zs ∧ items = zipL3 xs ys zs := by
  have h : ((seqD d).bind fun xs => (seqD d2).bind fun ys => (seqD d3).map fun zs => zipL3 xs ys zs) = some items := by cases d <;> cases d2 <;> exact h
  simp only [Option.bind_eq_some_iff, Option.map_eq_some_iff] at h
  obtain ⟨xs, h1, ys, h2, zs, h3, h4⟩ := h
  obtain ⟨b1, e1⟩ := seqD_mk h1
  obtain ⟨b2, e2⟩ := seqD_mk h2
  obtain ⟨b3, e3⟩ := seqD_mk h3
  exact ⟨b1, b2, b3, xs, ys, zs, e1, e2, e3, h4.symm⟩
theorem itd_rev {xs : List D} {a : Addr} : ItD K (Itv K a xs.length) xs.reverse [.list xs] [.ref a] := by
  have rd : ∀ (O : Own) (H : Hp), RepPs K O H [.list xs] [.ref a] → ∃ us, H a = some (.lst us) ∧ RepDs K O H xs us := fun O H h => by
    obtain ⟨v, e, h⟩ := one_ps h
    cases e
    obtain ⟨b, us, e, h1, h2⟩ := h.list
    cases e
    exact ⟨us, h1, h2⟩
  have rv : ∀ (i : Nat) (d : D), xs.reverse[i]? = some d → i < xs.length ∧ xs[xs.length - 1 - i]? = some d := fun i d e => by
    have hi : i < xs.length := by simpa using (List.getElem?_eq_some_iff.mp e).1
    rw [List.getElem?_reverse hi] at e
    exact ⟨hi, e⟩
  refine ⟨fun i O H d own h e => ?_, fun i O H d x H' own h e y => ?_, fun O H own h => ?_, fun O H own h ln => ?_⟩
  · obtain ⟨us, h1, h2⟩ := rd O H h
    obtain ⟨hi, e1⟩ := rv i d e
    obtain ⟨v, h3, _⟩ := h2.get e1
    exact ⟨hi, us, v, SqL.of h1, h3⟩
  · obtain ⟨us, h1, h2⟩ := rd O H h
    obtain ⟨hi, e1⟩ := rv i d e
    obtain ⟨v, h3, h4⟩ := h2.get e1
    obtain ⟨rfl, y⟩ := y
    have := y us (SqL.of h1)
    rw [h3] at this; cases this
    exact ⟨(Step.refl own).sub fun _ z => z, h4⟩
  · show xs.length ≤ _
    simp
  · obtain ⟨us, h1, h2⟩ := rd O H h
    rw [List.length_reverse, h2.length]; exact ln a us (.inl (SqL.of h1))
end
/-! the walked things of the text -/
section
variable {X : Cx} {tg : Expr}
theorem seq_list {ds items : List D} (h : itemsOf .seq ds = some items) : (∃ xs, ds = [.list xs] ∧ items = xs) ∨ ∃ xs, ds = [.tuple xs] ∧ items = xs := by
  cases ds with
  | nil => simp [itemsOf] at h
  | cons d r =>
    cases r with
    | nil => cases d with
      | list xs => simp [itemsOf] at h; exact .inl ⟨xs, rfl, h.symm⟩
      | tuple xs => simp [itemsOf] at h; exact .inr ⟨xs, rfl, h.symm⟩
      | _ => simp [itemsOf] at h
    | cons e r => cases d <;> simp [itemsOf] at h
theorem ops_one {m : M} {env env' : En} {ps : List Opd} (h : opsM [m] env = some (ps, env')) : ∃ p, m.opd env = some (p, env') ∧ ps = [p] := by
  simp only [opsM, Option.bind_eq_some_iff, Option.map_eq_some_iff] at h
  obtain ⟨⟨p, e1⟩, h1, ⟨qs, e2⟩, h2, h3⟩ := h
  cases h2; cases h3
  exact ⟨p, h1, rfl⟩
theorem ops_two {m n : M} {env env' : En} {ps : List Opd} (h : opsM [m, n] env = some (ps, env')) : ∃ p q, ps = [p, q] := by
  simp only [opsM, Option.bind_eq_some_iff, Option.map_eq_some_iff] at h
  obtain ⟨⟨p, e1⟩, h1, ⟨qs, e2⟩, ⟨⟨q, e3⟩, h4, ⟨rs, e5⟩, h6, h7⟩, h3⟩ := h
  cases h6; cases h7; cases h3
  exact ⟨p, q, rfl⟩
theorem gets_one {env : En} {p : Opd} {ds : List D} (h : gets env [p] = some ds) : ∃ d, ds = [d] := by
  have h' : ((p.get env).bind fun d => (Mini.gets env []).map (d :: ·)) = some ds := h
  simp only [Option.bind_eq_some_iff, Option.map_eq_some_iff] at h'
  obtain ⟨d, _, es, e, rfl⟩ := h'
  cases e
  exact ⟨d, rfl⟩
theorem gets_two {env : En} {p q : Opd} {ds : List D} (h : gets env [p, q] = some ds) : ∃ d e, ds = [d, e] := by
  have h' : ((p.get env).bind fun d => (Mini.gets env [q]).map (d :: ·)) = some ds := h
  simp only [Option.bind_eq_some_iff, Option.map_eq_some_iff] at h'
  obtain ⟨d, _, es, e, rfl⟩ := h'
  obtain ⟨e1, rfl⟩ := gets_one e
  exact ⟨d, e1, rfl⟩
theorem PI.imp {e : Expr} {t t' : TI} (h : PI X tg e t) (i : ∀ σ H R, t' σ H R → t σ H R) : PI X tg e t' := ⟨fun pins s σ H R I q => h.run pins s σ H R I (i σ H R q)⟩
theorem pi_seq {e : Expr} {m : M} (h : SE X e m) : PI X tg e (tI X.K .seq (opsM [m])) := by
  refine ⟨fun pins s σ H R I q => ?_⟩
  obtain ⟨O, env, ps, env', ds, items, w, h1, h2, h3, q⟩ := q
  obtain ⟨p, h4, rfl⟩ := ops_one h1
  have fin : ∀ {O' : Own} {H' : Hp} {v : V} {d : D}, W X.K O' H' env' σ → RepO X.K O' H' σ p v → ds = [d] → RepP X.K O' H' d v := fun {O' H' v d} w' r e => by
    subst e
    have rr : RepOs X.K O' H' σ [p] [v] := ⟨v, [], rfl, r, rfl⟩
    obtain ⟨u, e, z⟩ := one_ps (RepOs.gets w' rr h2)
    cases e; exact z
  rcases seq_list h3 with ⟨xs, rfl, rfl⟩ | ⟨xs, rfl, rfl⟩
  · refine (pi_list h.opd).run pins s σ H R I ⟨O, env, p, env', w, h4, fun O' H' v st w' r => ?_⟩
    obtain ⟨a, us, rfl, h5, h6⟩ := (fin w' r rfl).list
    have rr : RepOs X.K O' H' σ [p] [.ref a] := ⟨.ref a, [], rfl, r, rfl⟩
    exact ⟨a, rfl, ⟨us, SqL.of h5⟩, q O' H' _ [.ref a] st w' rr itd_list⟩
  · refine (pi_tup h.opd).run pins s σ H R I ⟨O, env, p, env', w, h4, fun O' H' v st w' r => ?_⟩
    obtain ⟨a, us, rfl, h5, h6⟩ := (fin w' r rfl).tuple
    have rr : RepOs X.K O' H' σ [p] [.ref a] := ⟨.ref a, [], rfl, r, rfl⟩
    exact ⟨a, rfl, ⟨us, h5⟩, q O' H' _ [.ref a] st w' rr itd_tup⟩
theorem pi_rng1 {a : Expr} {m : M} {p pos : Pos} (hg : Gl X "range") (hm : X.mg "range" = none) (n : notStar a = true) (h : SE X a m) : PI X tg (.Call (.Name "range" p) [a] [] pos) (tI X.K .rng (opsM [m])) :=
  PI.imp (pi_range1 hg hm (pa_ops (by simp [n]) (.cons h .nil)) (star_of n)) fun σ H R q => by
    obtain ⟨O, env, ps, env', ds, items, w, h1, h2, h3, q⟩ := q
    refine ⟨O, env, ps, env', w, h1, fun O' H' vs st w' r => ?_⟩
    obtain ⟨p, h4, rfl⟩ := ops_one h1
    obtain ⟨d, rfl⟩ := gets_one h2
    obtain ⟨v, rfl, rv⟩ := one_ps (RepOs.gets w' r h2)
    cases d with
    | int j =>
      simp only [itemsOf] at h3
      split at h3
      · rename_i c
        cases h3
        have e := rv.int
        subst e
        exact ⟨j, rfl, c.1.1, c.1.2, q O' H' _ _ st w' r (itd_rng (by have := c.2; omega))⟩
      · cases h3
    | _ => simp [itemsOf] at h3
theorem pi_rng2 {a b : Expr} {m m2 : M} {p pos : Pos} (hg : Gl X "range") (hm : X.mg "range" = none) (n : notStar a = true) (n2 : notStar b = true) (h : SE X a m) (h' : SE X b m2) : PI X tg (.Call (.Name "range" p) [a, b] [] pos) (tI X.K .rng (opsM [m, m2])) :=
  PI.imp (pi_range2 hg hm (pa_ops (by simp [n, n2]) (.cons h (.cons h' .nil))) (by rw [star_of n, star_of n2]; rfl) (star_of n2)) fun σ H R q => by
    obtain ⟨O, env, ps, env', ds, items, w, h1, h2, h3, q⟩ := q
    refine ⟨O, env, ps, env', w, h1, fun O' H' vs st w' r => ?_⟩
    obtain ⟨p, p2, rfl⟩ := ops_two h1
    obtain ⟨d, d2, rfl⟩ := gets_two h2
    obtain ⟨v, v2, rfl, rv, rv2⟩ := two_ps (RepOs.gets w' r h2)
    cases d with
    | int i =>
      cases d2 with
      | int j =>
        simp only [itemsOf] at h3
        split at h3
        · rename_i c
          cases h3
          have e := rv.int
          have e2 := rv2.int
          subst e e2
          exact ⟨i, j, rfl, ⟨c.1.1, c.1.2, c.2.1.1, c.2.1.2⟩, q O' H' _ _ st w' r (itd_rng (by have := c.2.2; omega))⟩
        · cases h3
      | _ => simp [itemsOf] at h3
    | _ => simp [itemsOf] at h3
theorem pi_enumL {e : Expr} {m : M} {p pos tpos : Pos} {elts : List Expr} {kk : Nat} (hg : Gl X "enumerate") (hm : X.mg "enumerate" = none) (n : notStar e = true) (h : SE X e m) : PI X (.Tuple elts kk tpos) (.Call (.Name "enumerate" p) [e] [] pos) (tI X.K .enum (opsM [m])) :=
  PI.imp (pi_enumA hg hm (pa_ops (by simp [n]) (.cons h .nil)) (star_of n)) fun σ H R q => by
    obtain ⟨O, env, ps, env', ds, items, w, h1, h2, h3, q⟩ := q
    refine ⟨O, env, ps, env', w, h1, fun O' H' vs st w' r => ?_⟩
    obtain ⟨p, h4, rfl⟩ := ops_one h1
    obtain ⟨d, rfl⟩ := gets_one h2
    obtain ⟨v, rfl, rv⟩ := one_ps (RepOs.gets w' r h2)
    cases d with
    | list xs =>
      cases h3
      obtain ⟨a, us, rfl, h5, h6⟩ := rv.list
      exact ⟨a, us, rfl, .inl ⟨SqL.of h5, q O' H' _ _ st w' r itd_enum⟩⟩
    | tuple xs =>
      cases h3
      obtain ⟨a, us, rfl, h5, h6⟩ := rv.tuple
      exact ⟨a, us, rfl, .inr ⟨h5, q O' H' _ _ st w' r itd_enumT⟩⟩
    | _ => simp [itemsOf] at h3
theorem pi_zipD {a b : Expr} {m m2 : M} {p pos tpos : Pos} {elts : List Expr} {kk : Nat} (hg : Gl X "zip") (hm : X.mg "zip" = none) (n : notStar a = true) (n2 : notStar b = true) (h : SE X a m) (h' : SE X b m2) : PI X (.Tuple elts kk tpos) (.Call (.Name "zip" p) [a, b] [] pos) (tI X.K .zip (opsM [m, m2])) :=
  PI.imp (pi_zipM hg hm (pa_ops (by simp [n, n2]) (.cons h (.cons h' .nil))) (star_of n) (by rw [star_of n2]; rfl)) fun σ H R q => by
    obtain ⟨O, env, ps, env', ds, items, w, h1, h2, h3, q⟩ := q
    refine ⟨O, env, ps, env', w, h1, fun O' H' vs st w' r => ?_⟩
    obtain ⟨p, p2, rfl⟩ := ops_two h1
    obtain ⟨d, d2, rfl⟩ := gets_two h2
    obtain ⟨v, v2, rfl, rv, rv2⟩ := two_ps (RepOs.gets w' r h2)
    obtain ⟨b1, b2, xs, ys, rfl, rfl, rfl⟩ := zip_mk h3
    obtain ⟨a, us, rfl, h5, h6⟩ := repP_sq rv
    obtain ⟨b, ws, rfl, h7, h8⟩ := repP_sq rv2
    exact ⟨a, b, us, ws, b1, b2, rfl, h5, h7, q O' H' _ _ st w' r itd_zipM⟩
theorem ops_three {m m2 m3 : M} {env env' : En} {ps : List Opd} (h : opsM [m, m2, m3] env = some (ps, env')) : ∃ p p2 p3, ps = [p, p2, p3] := by
  simp only [opsM, Option.bind_eq_some_iff, Option.map_eq_some_iff] at h
  grind
theorem gets_three {env : En} {p p2 p3 : Opd} {ds : List D} (h : gets env [p, p2, p3] = some ds) : ∃ d d2 d3, ds = [d, d2, d3] := by
  simp only [gets, Option.bind_eq_some_iff, Option.map_eq_some_iff] at h
  grind
theorem pi_rng3 {a b c : Expr} {m m2 m3 : M} {p pos : Pos} (hg : Gl X "range") (hm : X.mg "range" = none) (n : notStar a = true) (n2 : notStar b = true) (n3 : notStar c = true) (h : SE X a m) (h' : SE X b m2) (h'' : SE X c m3) : PI X tg (.Call (.Name "range" p) [a, b, c] [] pos) (tI X.K .rng (opsM [m, m2, m3])) :=
  PI.imp (pi_range3 hg hm (pa_ops (by simp [n, n2, n3]) (.cons h (.cons h' (.cons h'' .nil)))) (by rw [star_of n, star_of n2, star_of n3]) (by rw [star_of n2, star_of n3]; rfl)) fun σ H R q => by
    obtain ⟨O, env, ps, env', ds, items, w, h1, h2, h3, q⟩ := q
    refine ⟨O, env, ps, env', w, h1, fun O' H' vs st w' r => ?_⟩
    obtain ⟨p, p2, p3, rfl⟩ := ops_three h1
    obtain ⟨d, d2, d3, rfl⟩ := gets_three h2
    obtain ⟨v, v2, v3, rfl, rv, rv2, rv3⟩ := three_ps (RepOs.gets w' r h2)
    cases d with
    | int i =>
      cases d2 with
      | int j =>
        cases d3 with
        | int k =>
          simp only [itemsOf] at h3
          split at h3
          · rename_i c
            cases h3
            have e := rv.int
            have e2 := rv2.int
            have e3 := rv3.int
            subst e e2 e3
            exact ⟨i, j, k, _, rfl, ⟨c.1, c.2.1, c.2.2.1, (Int.toNat_of_nonneg c.2.2.2.1).symm⟩, q O' H' _ _ st w' r (itd_rngC (by have := c.2.2.2.2; omega))⟩
          · cases h3
        | _ => simp [itemsOf] at h3
      | _ => simp [itemsOf] at h3
    | _ => simp [itemsOf] at h3
theorem pi_zipD3 {a b c : Expr} {m m2 m3 : M} {p pos tpos : Pos} {elts : List Expr} {kk : Nat} (hg : Gl X "zip") (hm : X.mg "zip" = none) (n : notStar a = true) (n2 : notStar b = true) (n3 : notStar c = true) (h : SE X a m) (h' : SE X b m2) (h'' : SE X c m3) : PI X (.Tuple elts kk tpos) (.Call (.Name "zip" p) [a, b, c] [] pos) (tI X.K .zip (opsM [m, m2, m3])) :=
  PI.imp (pi_zipM3 hg hm (pa_ops (by simp [n, n2, n3]) (.cons h (.cons h' (.cons h'' .nil)))) (star_of n) (by rw [star_of n2, star_of n3]; rfl)) fun σ H R q => by
    obtain ⟨O, env, ps, env', ds, items, w, h1, h2, h3, q⟩ := q
    refine ⟨O, env, ps, env', w, h1, fun O' H' vs st w' r => ?_⟩
    obtain ⟨p, p2, p3, rfl⟩ := ops_three h1
    obtain ⟨d, d2, d3, rfl⟩ := gets_three h2
    obtain ⟨v, v2, v3, rfl, rv, rv2, rv3⟩ := three_ps (RepOs.gets w' r h2)
    obtain ⟨b1, b2, b3, xs, ys, zs, rfl, rfl, rfl, rfl⟩ := zip_mk3 h3
    obtain ⟨a, us, rfl, h5, h6⟩ := repP_sq rv
    obtain ⟨b, ws, rfl, h7, h8⟩ := repP_sq rv2
    obtain ⟨c, ts, rfl, h9, h10⟩ := repP_sq rv3
    exact ⟨a, b, c, us, ws, ts, b1, b2, b3, rfl, h5, h7, h9, q O' H' _ _ st w' r itd_zipM3⟩
theorem pi_rev1 {a : Expr} {m : M} {p pos : Pos} (hg : Gl X "reversed") (hm : X.mg "reversed" = none) (n : notStar a = true) (h : SE X a m) : PI X tg (.Call (.Name "reversed" p) [a] [] pos) (tI X.K .rev (opsM [m])) :=
  PI.imp (pi_reversed hg hm (pa_ops (by simp [n]) (.cons h .nil)) (star_of n)) fun σ H R q => by
    obtain ⟨O, env, ps, env', ds, items, w, h1, h2, h3, q⟩ := q
    refine ⟨O, env, ps, env', w, h1, fun O' H' vs st w' r => ?_⟩
    obtain ⟨p, h4, rfl⟩ := ops_one h1
    obtain ⟨d, rfl⟩ := gets_one h2
    obtain ⟨v, rfl, rv⟩ := one_ps (RepOs.gets w' r h2)
    cases d with
    | list xs =>
      cases h3
      obtain ⟨a, us, rfl, h5, h6⟩ := rv.list
      refine ⟨a, us, rfl, SqL.of h5, q O' H' _ _ st w' r ?_⟩
      rw [← h6.length]
      exact itd_rev
    | _ => simp [itemsOf] at h3
/-- with the line told -/
theorem PI.line {e : Expr} {t : TI} (h : PI X tg e t) : PI X tg e (fun σ H R => t σ H fun J H1 => Line X.K H1 → R J H1) := ⟨fun pins s σ H R I q => thn (h.run pins s σ H _ I q) fun v s1 h1 => thn h1 fun itv s2 h2 => by
  obtain ⟨it, fp, tn, J, H', e, I2, T, t0, fpo, r⟩ := h2
  exact ⟨it, fp, tn, J, H', e, I2, T, t0, fpo, r (line_of I2)⟩⟩
end
end Mini

namespace Mini
open PySem PySem.Spec L2
section
variable {K : PySem.W.Frag} {O O' : Own} {H H' : Hp} {env env2 : En} {σ : St}
theorem Step.add {F F' G : Own} (a : Step O H F O' H' F') : Step O H (fun b => F b ∨ G b) O' H' (fun b => F' b ∨ G b) :=
  ⟨a.evo, a.own, fun b e n => a.keepO b e fun z => n (.inl z), fun b f => f.elim (fun f => (a.fps b f).imp .inl id) fun g => .inl (.inr g)⟩
/-- a slot told a frozen value -/
theorem W.setV {i : Nat} {d : D} {v : V} (w : W K O H env σ) (es : σ[i]? = some (some v)) (r : RepD K O H d v) : W K O H (env.set i (.v d)) σ ∧ ∀ b, FpE H (env.set i (.v d)) σ b → FpE H env σ b := by
  have get : ∀ (j : Nat) (u : Sl), (env.set i (.v d))[j]? = some u → (j = i ∧ u = .v d) ∨ (j ≠ i ∧ env[j]? = some u) := fun j u z => by
    by_cases hj : j = i
    · subst hj
      by_cases hl : j < env.length
      · rw [List.getElem?_set_self hl] at z; exact .inl ⟨rfl, (Option.some.inj z).symm⟩
      · rw [List.getElem?_eq_none (by simpa using hl)] at z; cases z
    · rw [List.getElem?_set_ne (Ne.symm hj)] at z; exact .inr ⟨hj, z⟩
  refine ⟨⟨w.own, by rw [List.length_set]; exact w.len, fun j u z => ?_, fun j k u y x z b n e1 e2 e3 e4 f1 f2 => ?_⟩, fun b ⟨j, u, x, e1, e2, f⟩ => ?_⟩
  · rcases get j u z with ⟨rfl, rfl⟩ | ⟨n, z⟩
    · exact .inr ⟨v, es, r⟩
    · exact w.rep j u z
  · rcases get j u e1 with ⟨rfl, rfl⟩ | ⟨n1, q1⟩
    · exact f1
    · rcases get k y e2 with ⟨rfl, rfl⟩ | ⟨n2, q2⟩
      · exact f2
      · exact w.sep j k u y x z b n q1 q2 e3 e4 f1 f2
  · rcases get j u e1 with ⟨rfl, rfl⟩ | ⟨n, q⟩
    · exact f.elim
    · exact ⟨j, u, x, q, e2, f⟩
theorem W.rest {e1 : En} (h : ∀ (i : Nat) (d : D), e1[i]? = some (.v d) → ∃ v, σ[i]? = some (some v) ∧ RepD K O H d v) {e2 : En} (w : W K O H e2 σ) : ∀ (own : List Nat), W K O H (restE e1 e2 own) σ ∧ ∀ b, FpE H (restE e1 e2 own) σ b → FpE H e2 σ b
  | [] => ⟨w, fun _ f => f⟩
  | i :: r => by
    obtain ⟨w1, k1⟩ := W.rest h w r
    unfold restE
    split
    · rename_i d hd
      obtain ⟨v, es, rd⟩ := h i d hd
      obtain ⟨w2, k2⟩ := w1.setV es rd
      exact ⟨w2, fun b f => k1 b (k2 b f)⟩
    · exact ⟨w1, k1⟩
/-- an item appended to the list beside -/
theorem WR.app {acc : List D} {a : Addr} {d : D} {v : V} (w : WR K O H env σ (.l acc) (.ref a)) (rd : RepD K O H d v) : ∃ us, H a = some (.lst us) ∧ us.length = acc.length ∧ WR K O (upd H a (.lst (us ++ [v]))) env σ (.l (acc ++ [d])) (.ref a) ∧
    Step O H (FpR H env σ (.l acc) (.ref a)) O (upd H a (.lst (us ++ [v]))) (FpR (upd H a (.lst (us ++ [v]))) env σ (.l (acc ++ [d])) (.ref a)) := by
  obtain ⟨a', us, z, h1, h2, h3⟩ := w.val
  cases z
  have ne : ∀ b, FpE H env σ b → b ≠ a := fun b f z => w.sep a rfl (z ▸ f)
  have ev : Evo O H O (upd H a (.lst (us ++ [v]))) := ⟨w.w.own, fun b o q n => by rw [upd_ne (fun z => n (by rw [z]; exact h2))]; exact q, fun b z => .inl z, fun b z => by
    by_cases hb : b = a
    · rw [hb, upd_same]; exact Option.some_ne_none _
    · rw [upd_ne hb]; exact z⟩
  have own' : OwnOk O (upd H a (.lst (us ++ [v]))) := fun b z => by
    by_cases hb : b = a
    · rw [hb]; exact ⟨_, upd_same, .l _⟩
    · rw [upd_ne hb]; exact w.w.own b z
  have st1 : Step O H (fun b => b = a) O (upd H a (.lst (us ++ [v]))) (fun b => b = a) := ⟨ev, own', fun b z n => ⟨z, upd_ne n⟩, fun b f => .inl f⟩
  have kp : ∀ (i : Nat) (s : Sl) (u : V), env[i]? = some s → σ[i]? = some (some u) → s = .no ∨ (RepS K O (upd H a (.lst (us ++ [v]))) s u ∧ ∀ b, Fp (upd H a (.lst (us ++ [v]))) s u b → Fp H s u b) := fun i s u e1 e2 => by
    rcases w.w.rep i s e1 with z | ⟨u', q1, q2⟩
    · exact .inl z
    · rw [e2] at q1; cases q1
      exact .inr (RepS.keep st1 q2 fun b f z => ne b ⟨i, s, u, e1, e2, f⟩ z)
  have fb : ∀ (i : Nat) (s : Sl) (u : V) (b : Addr), env[i]? = some s → σ[i]? = some (some u) → Fp (upd H a (.lst (us ++ [v]))) s u b → Fp H s u b := fun i s u b e1 e2 f => by
    rcases kp i s u e1 e2 with rfl | z
    · exact f.elim
    · exact z.2 b f
  have w' : W K O (upd H a (.lst (us ++ [v]))) env σ := ⟨own', w.w.len, fun i s e => by
      rcases w.w.rep i s e with z | ⟨u, q1, q2⟩
      · exact .inl z
      · rcases kp i s u e q1 with z | z
        · exact .inl z
        · exact .inr ⟨u, q1, z.1⟩, fun i j s t u x b n e1 e2 e3 e4 f1 f2 => w.w.sep i j s t u x b n e1 e2 e3 e4 (fb i s u b e1 e3 f1) (fb j t x b e2 e4 f2)⟩
  have fe : ∀ b, FpE (upd H a (.lst (us ++ [v]))) env σ b → FpE H env σ b := fun b ⟨i, s, u, e1, e2, f⟩ => ⟨i, s, u, e1, e2, fb i s u b e1 e2 f⟩
  refine ⟨us, h1, h3.length.symm, ⟨w', ⟨a, us ++ [v], rfl, upd_same, h2, (RepDs.evo ev _ _ h3).append (by simp only [RepDs]; exact ⟨v, [], rfl, RepD.evo ev _ _ rd, rfl⟩)⟩, fun b f g => w.sep b f (fe b g)⟩, ?_⟩
  refine ⟨ev, own', fun b z n => st1.keepO b z fun q => n (.inr (by rw [q]; rfl)), fun b f => ?_⟩
  rcases f with f | f
  · exact .inl (.inl (fe b f))
  · exact .inl (.inr f)
theorem still_gets {e0 e1 : En} : ∀ {ps : List Opd}, stillB e0 e1 ps → gets e1 ps = gets e0 ps
  | [], _ => rfl
  | .d x :: r, h => by
    have ih := still_gets (ps := r) h
    show ((Opd.d x).get e1).bind (fun d => (gets e1 r).map (d :: ·)) = ((Opd.d x).get e0).bind (fun d => (gets e0 r).map (d :: ·))
    rw [ih]; rfl
  | .s i :: r, h => by
    have h : e1[i]? = e0[i]? ∧ stillB e0 e1 r := h
    have ih := still_gets (ps := r) h.2
    show ((Opd.s i).get e1).bind (fun d => (gets e1 r).map (d :: ·)) = ((Opd.s i).get e0).bind (fun d => (gets e0 r).map (d :: ·))
    rw [ih]
    simp only [Opd.get, h.1]
/-- THE COMPREHENSION -/
theorem te_lc {t : T} {k : IK} {its cond : List M} {elt : M} {own : List Nat} (sl : ∀ i ∈ t.slots, i ∈ own) {Q : VK} (q : tE K (lcM t k its cond elt own).val σ H Q) :
    tLc (fun σ H R => tI K k (opsM its) σ H fun J H1 => Line K H1 → R J H1) (gT K t) (tT K (condM cond)) (tD K (frzM elt.val)) own σ H Q := by
  obtain ⟨O, env, s, envF, w, h, q⟩ := q
  simp only [lcM, M.ofVal, Option.bind_eq_some_iff] at h
  obtain ⟨⟨ps, e1⟩, h1, ds, h2, items, h3, h4⟩ := h
  split at h4
  case isFalse => cases h4
  rename_i hst
  simp only [Option.map_eq_some_iff] at h4
  obtain ⟨⟨r, e2⟩, h5, h6⟩ := h4
  cases h6
  refine ⟨O, env, ps, e1, ds, items, w, h1, h2, h3, fun O1 H1 J vs st1 w1 rp jo line D hD => ?_⟩
  have hlen : items.length ≤ sizeLine := jo.len O1 H1 w1.own (RepOs.gets w1 rp h2) line
  -- the state between two turns
  let Wt : Nat → Nat → Hp → Prop := fun i m H => m = items.length - i ∧ i ≤ items.length ∧ ∃ O en acc r2, WR K O H en (wipe σ own) (.l acc) (.ref D) ∧ NoAt en own ∧ lcLoop t cond elt own ps e1 (items.drop i) en = some (r2, e2) ∧ r = acc ++ r2 ∧ acc.length ≤ i ∧
    stillB e1 en ps ∧ Step O1 H1 (FpE H1 e1 σ) O H (FpR H en (wipe σ own) (.l acc) (.ref D))
  have start : Wt 0 items.length (upd H1 D (.lst [])) := by
    refine ⟨by simp, Nat.zero_le _, ?_⟩
    obtain ⟨wa, ka⟩ := w1.wipeE own
    obtain ⟨wb, kb⟩ := wa.toWipe (NoAt.wipe e1 own)
    have nw := OwnOk.new (o := .lst []) w1.own hD
    have st : Step O1 H1 F0 (fun b => O1 b ∨ b = D) (upd H1 D (.lst [])) (fun b => Fp (upd H1 D (.lst [])) (.l []) (.ref D) b) := by
      refine ⟨⟨w1.own, nw.evo.keepH, fun b e => ?_, nw.evo.there⟩, fun b e => ?_, fun b e f => ⟨.inl e, (nw.keepO b e f).2⟩, fun b e => ?_⟩
      · rcases e with e | rfl
        · exact .inl e
        · exact .inr hD
      · rcases e with e | rfl
        · exact nw.own b e
        · exact ⟨_, upd_same, .l []⟩
      · cases e; exact .inr hD
    obtain ⟨wc, kc⟩ := wb.keep st
    refine ⟨fun b => O1 b ∨ b = D, wipeE e1 own, [], r, ⟨wc, ⟨D, [], rfl, upd_same, .inr rfl, rfl⟩, fun b f g => ?_⟩, NoAt.wipe e1 own, by simpa using h5, rfl, Nat.le_refl _, hst, ⟨st.evo, st.own, fun b e n => st.keepO b e id, fun b f => ?_⟩⟩
    · cases f
      obtain ⟨xs, e, _⟩ := wb.own D (wb.fpOwn (kc D g))
      rw [hD] at e; cases e
    · rcases f with f | f
      · exact .inl (ka b (kb b (kc b f)))
      · cases f; exact .inr hD
  refine ⟨Wt, ⟨_, start⟩, ?_⟩
  rintro i m H2 ⟨rfl, hi, O2, en, acc, r2, wr, na, hl, hr, hacc, still, st⟩
  obtain ⟨wS, kS⟩ := wr.w.ofWipe na
  have rps : RepPs K O2 H2 ds vs := RepOs.gets wS (RepOs.evo st.evo rp) ((still_gets still).trans h2)
  by_cases hlt : i < items.length
  · refine .inr ?_
    obtain ⟨d, hd⟩ : ∃ d, items[i]? = some d := ⟨items[i], List.getElem?_eq_getElem hlt⟩
    have hdr : items.drop i = d :: items.drop (i + 1) := by
      rw [List.drop_eq_getElem_cons hlt]
      rw [List.getElem?_eq_getElem hlt] at hd; cases hd; rfl
    rw [hdr] at hl
    simp only [lcLoop, Option.bind_eq_some_iff] at hl
    obtain ⟨en1, hasg, ⟨b, en2⟩, hcond, hrest⟩ := hl
    refine ⟨jo.go i O2 H2 d wr.w.own rps hd, Wt (i + 1) (items.length - (i + 1)), fun H' w' => ⟨_, by omega, w'⟩, fun x H3 y => ?_⟩
    obtain ⟨sty, rdx⟩ := jo.yld i O2 H2 d x H3 wr.w.own rps hd y
    obtain ⟨wy, ky⟩ := wr.w.keep sty
    have sty' : Step O2 H2 (FpE H2 en (wipe σ own)) O2 H3 (FpE H3 en (wipe σ own)) := ⟨sty.evo, sty.own, fun b e _ => sty.keepO b e id, fun b f => .inl (ky b f)⟩
    have wry := wr.keep sty' wy
    refine ⟨O2, en, d, en1, wy, rdx, hasg, fun σ2 w2 k2 on2 => ?_⟩
    have hw2 : wipe σ2 own = wipe σ own := by
      have := on2.wipe (own := own) (fun i hi => sl i hi)
      rw [this]
      apply List.ext_getElem?
      intro j
      by_cases hj : j ∈ own
      · have key : ∀ (τ : St) (ow : List Nat), j ∈ ow → (L2.wipe τ ow)[j]? = if j < τ.length then some none else none := by
          intro τ ow
          induction ow with
          | nil => intro h; simp at h
          | cons v vs ih =>
            intro h
            unfold L2.wipe
            by_cases hv : v = j
            · subst hv
              rw [List.getElem?_set]
              simp only [if_pos, wipe_length]
            · rw [List.getElem?_set_ne hv]
              exact ih (by rcases List.mem_cons.mp h with e | e; exact absurd e.symm hv; exact e)
        rw [key _ own hj, key _ own hj, wipe_length]
      · rw [wipe_get hj]
    refine ⟨hw2, O2, en1, b, en2, w2, hcond, fun O4 H4 st4 w4 => ?_⟩
    -- the list beside, so far
    have wr2 : WR K O2 H3 en1 σ2 (.l acc) (.ref D) := ⟨w2, wry.val, fun b f g => wry.sep b f (k2 b g)⟩
    have wr4 := wr2.keep st4 w4
    have toS : ∀ {O5 : Own} {H5 : Hp} {e5 : En}, Step O2 H3 (FpE H3 en1 σ2) O5 H5 (FpE H5 e5 σ2) → Step O1 H1 (FpE H1 e1 σ) O5 H5 (FpR H5 e5 σ2 (.l acc) (.ref D)) := fun {O5 H5 e5} s5 => by
      have a1 : Step O2 H2 (FpE H2 en (wipe σ own)) O5 H5 (FpE H5 e5 σ2) := sty'.trans s5 k2
      have a2 := a1.add (G := fun b => Fp H2 (.l acc) (.ref D) b)
      exact st.trans a2 fun b f => f
    -- the turn's end at e5
    have fin : ∀ {O5 : Own} {H5 : Hp} {e5 : En} {acc' : List Mini.D} {r' : List Mini.D}, WR K O5 H5 e5 σ2 (.l acc') (.ref D) → Step O1 H1 (FpE H1 e1 σ) O5 H5 (FpR H5 e5 σ2 (.l acc') (.ref D)) → acc'.length ≤ i + 1 → r = acc' ++ r' → stillB e1 (wipeE e5 own) ps →
        lcLoop t cond elt own ps e1 (items.drop (i + 1)) (wipeE e5 own) = some (r', e2) → Wt (i + 1) (items.length - (i + 1)) H5 := fun {O5 H5 e5 acc' r'} w5 s5 hl5 hr5 hs5 hlp => by
      obtain ⟨wa, ka⟩ := w5.w.wipeE own
      obtain ⟨wb, kb⟩ := wa.toWipe (NoAt.wipe e5 own)
      rw [hw2] at wb kb
      exact ⟨rfl, hlt, O5, wipeE e5 own, acc', r', ⟨wb, w5.val, fun b f g => w5.sep b f (ka b (kb b g))⟩, NoAt.wipe e5 own, hlp, hr5, hl5, hs5, s5.sub fun b f => f.imp (fun f => ka b (kb b f)) id⟩
    cases b with
    | true =>
      rw [if_pos rfl] at hrest
      simp only [Option.bind_eq_some_iff] at hrest
      obtain ⟨⟨d', en3⟩, helt, hrest⟩ := hrest
      split at hrest
      case isFalse => cases hrest
      rename_i hs3
      simp only [Option.map_eq_some_iff] at hrest
      obtain ⟨⟨r3, e6⟩, hlp, h7⟩ := hrest
      cases h7
      refine iteT ?_
      refine ⟨O4, en2, d', en3, w4, helt, fun O5 H5 v5 st5 w5 rd5 => ?_⟩
      have wr5 := wr4.keep st5 w5
      have s5 := toS (st4.trans st5 fun _ z => z)
      obtain ⟨us, hus, hlen5, wr6, s6⟩ := wr5.app rd5
      refine ⟨us, hus, by omega, fin wr6 (s5.trans s6 fun _ z => z) (by simp; omega) (by rw [hr]; simp) hs3 hlp⟩
    | false =>
      rw [if_neg Bool.false_ne_true] at hrest
      split at hrest
      case isFalse => cases hrest
      rename_i hs3
      refine iteF ?_
      exact fin wr4 (toS st4) (by omega) hr hs3 hrest
  · have e : i = items.length := by omega
    subst e
    rw [List.drop_length] at hl
    cases hl
    rw [List.append_nil] at hr
    subst hr
    refine .inl ⟨jo.stop O2 H2 wr.w.own rps, ?_⟩
    have back : ∀ (i : Nat) (d : Mini.D), e1[i]? = some (.v d) → ∃ v, σ[i]? = some (some v) ∧ RepD K O2 H2 d v := fun i d e => by
      rcases w1.rep i _ e with z | ⟨v, g1, g2⟩
      · cases z
      · exact ⟨v, g1, RepD.evo st.evo _ _ g2⟩
    obtain ⟨wF, kF⟩ := W.rest back wS own
    refine q O2 H2 (.ref D) ((st1.trans st fun _ z => z).sub fun b f => f.imp (fun f => kS b (kF b f)) id) ⟨wF, wr.val, fun b f g => wr.sep b f (kS b (kF b g))⟩
end
end Mini

namespace Mini
open PySem PySem.Spec L2
/-- the fixed slots keep their values -/
def Kp (fz : List Nat) (σ σ' : St) : Prop := ∀ i ∈ fz, σ'[i]? = σ[i]?
theorem Kp.refl {fz : List Nat} {σ : St} : Kp fz σ σ := fun _ _ => rfl
theorem Kp.trans {fz : List Nat} {σ σ1 σ2 : St} (a : Kp fz σ σ1) (b : Kp fz σ1 σ2) : Kp fz σ σ2 := fun i h => (b i h).trans (a i h)
theorem Kp.only {fz sl : List Nat} {σ σ2 : St} (o : OnlyAt σ σ2 sl) (h : ∀ i ∈ fz, i ∉ sl) : Kp fz σ σ2 := fun i hi => o.2 i (h i hi)
/-- what is wanted of an outcome -/
def OutK (K : PySem.W.Frag) (fz : List Nat) (O : Own) (H : Hp) (env : En) (σ : St) (D : Ends) : Out → Prop
  | .nx e' => ∀ O' H' σ', Step O H (FpE H env σ) O' H' (FpE H' e' σ') → W K O' H' e' σ' → Kp fz σ σ' → D.nx σ' H'
  | .rt s e' => ∀ O' H' σ' v, Step O H (FpE H env σ) O' H' (FpR H' e' σ' s v) → WR K O' H' e' σ' s v → Kp fz σ σ' → D.rt v H'
  | .bk e' => ∀ O' H' σ', Step O H (FpE H env σ) O' H' (FpE H' e' σ') → W K O' H' e' σ' → Kp fz σ σ' → D.bk σ' H'
  | .ct e' => ∀ O' H' σ', Step O H (FpE H env σ) O' H' (FpE H' e' σ') → W K O' H' e' σ' → Kp fz σ σ' → D.ct σ' H'
def tS (K : PySem.W.Frag) (fz : List Nat) (f : En → Option Out) : TS := fun D σ H => ∃ O env out, W K O H env σ ∧ f env = some out ∧ OutK K fz O H env σ D out
section
variable {K : PySem.W.Frag} {fz : List Nat} {O O' : Own} {H H' : Hp} {env env2 : En} {σ σ2 : St} {D : Ends}
/-- an outcome's wish, from a later state -/
theorem OutK.later {out : Out} (k : OutK K fz O H env σ D out) (st : Step O H (FpE H env σ) O' H' (FpE H' env2 σ2)) (kp : Kp fz σ σ2) : OutK K fz O' H' env2 σ2 D out := by
  cases out with
  | nx e' => exact fun O3 H3 σ3 s w q => k O3 H3 σ3 (st.trans s fun _ z => z) w (kp.trans q)
  | rt r e' => exact fun O3 H3 σ3 v s w q => k O3 H3 σ3 v (st.trans s fun _ z => z) w (kp.trans q)
  | bk e' => exact fun O3 H3 σ3 s w q => k O3 H3 σ3 (st.trans s fun _ z => z) w (kp.trans q)
  | ct e' => exact fun O3 H3 σ3 s w q => k O3 H3 σ3 (st.trans s fun _ z => z) w (kp.trans q)
end
section
variable {X : Cx} {fz : List Nat} {pos : Pos}
theorem OutK.mono {K : PySem.W.Frag} {O : Own} {H : Hp} {env : En} {σ : St} {D D' : Ends} {out : Out} (k : OutK K fz O H env σ D out) (hn : ∀ e', out = .nx e' → ∀ O' H' σ', Step O H (FpE H env σ) O' H' (FpE H' e' σ') → W K O' H' e' σ' → Kp fz σ σ' → D.nx σ' H' → D'.nx σ' H')
    (hr : ∀ v H', D.rt v H' → D'.rt v H') (hb : ∀ σ' H', D.bk σ' H' → D'.bk σ' H') (hc : ∀ σ' H', D.ct σ' H' → D'.ct σ' H') : OutK K fz O H env σ D' out := by
  cases out with
  | nx e' => exact fun O3 H3 σ3 s w q => hn e' rfl O3 H3 σ3 s w q (k O3 H3 σ3 s w q)
  | rt r e' => exact fun O3 H3 σ3 v s w q => hr _ _ (k O3 H3 σ3 v s w q)
  | bk e' => exact fun O3 H3 σ3 s w q => hb _ _ (k O3 H3 σ3 s w q)
  | ct e' => exact fun O3 H3 σ3 s w q => hc _ _ (k O3 H3 σ3 s w q)
/-- a statement, a block, by its evaluator -/
structure SS (X : Cx) (fz : List Nat) (st : Stmt) (f : En → Option Out) : Prop where
  run : PS X st (tS X.K fz f)
structure SB (X : Cx) (fz : List Nat) (st : List Stmt) (f : En → Option Out) : Prop where
  run : PSs X st (tS X.K fz f)
def seqO (f g : En → Option Out) (env : En) : Option Out := (f env).bind fun r => match r with
    | .nx e1 => g e1
    | .rt s e1 => some (.rt s e1)
    | .bk e1 => some (.bk e1)
    | .ct e1 => some (.ct e1)
theorem sb_nil : SB X fz [] (fun env => some (.nx env)) := ⟨pss_nil.imp fun D σ H q => by
  obtain ⟨O, env, out, w, e, k⟩ := q
  cases e
  exact k O H σ (Step.refl w.own) w .refl⟩
theorem sb_cons {st : Stmt} {rest : List Stmt} {f g : En → Option Out} (h1 : SS X fz st f) (h2 : SB X fz rest g) : SB X fz (st :: rest) (seqO f g) := ⟨(pss_cons h1.run h2.run).imp fun D σ H q => by
  obtain ⟨O, env, out, w, e, k⟩ := q
  simp only [seqO, Option.bind_eq_some_iff] at e
  obtain ⟨r, h3, h4⟩ := e
  refine ⟨O, env, r, w, h3, ?_⟩
  cases r with
  | nx e1 => exact fun O' H' σ' st w' kp => ⟨O', e1, out, w', h4, k.later st kp⟩
  | rt s e1 => cases h4; exact k
  | bk e1 => cases h4; exact k
  | ct e1 => cases h4; exact k⟩
/-! small statements -/
def expO (f : En → Option (Sl × En)) (env : En) : Option Out := (f env).map fun (_, e1) => .nx e1
def retO (f : En → Option (Sl × En)) (env : En) : Option Out := (f env).map fun (s, e1) => .rt s e1
theorem ss_expr {e : Expr} {f : En → Option (Sl × En)} (he : PE X e (tE X.K f)) (hs : swapsWith e none pos.line X.env = pure false) : SS X fz (.Expr e pos) (expO f) := ⟨(ps_expr he hs).imp fun D σ H q => by
  obtain ⟨O, env, out, w, e, k⟩ := q
  simp only [expO, Option.map_eq_some_iff] at e
  obtain ⟨⟨s, e1⟩, h1, h2⟩ := e
  cases h2
  exact ⟨O, env, s, e1, w, h1, fun O' H' v st wr => k O' H' σ (st.sub fun b f => .inl f) wr.w .refl⟩⟩
theorem ss_ret {e : Expr} {f : En → Option (Sl × En)} (he : PE X e (tE X.K f)) : SS X fz (.Return (some e) pos) (retO f) := ⟨(ps_ret he).imp fun D σ H q => by
  obtain ⟨O, env, out, w, e, k⟩ := q
  simp only [retO, Option.map_eq_some_iff] at e
  obtain ⟨⟨s, e1⟩, h1, h2⟩ := e
  cases h2
  exact ⟨O, env, s, e1, w, h1, fun O' H' v st wr => k O' H' σ v st wr .refl⟩⟩
theorem ss_pass : SS X fz (.Pass pos) (fun env => some (.nx env)) := ⟨ps_pass.imp fun D σ H q => by
  obtain ⟨O, env, out, w, e, k⟩ := q
  cases e
  exact k O H σ (Step.refl w.own) w .refl⟩
theorem ss_brk : SS X fz (.Break pos) (fun env => some (.bk env)) := ⟨ps_break.imp fun D σ H q => by
  obtain ⟨O, env, out, w, e, k⟩ := q
  cases e
  exact k O H σ (Step.refl w.own) w .refl⟩
theorem ss_cont : SS X fz (.Continue pos) (fun env => some (.ct env)) := ⟨ps_continue.imp fun D σ H q => by
  obtain ⟨O, env, out, w, e, k⟩ := q
  cases e
  exact k O H σ (Step.refl w.own) w .refl⟩
theorem ss_never {st : Stmt} : SS X fz st (fun _ => none) := ⟨ps_never.imp fun D σ H q => by
  obtain ⟨O, env, out, w, e, k⟩ := q
  cases e⟩
def ifO (c : En → Option (Bool × En)) (a b : En → Option Out) (env : En) : Option Out := (c env).bind fun (k, e1) => if k then a e1 else b e1
theorem ss_if {c : Expr} {a b : List Stmt} {mc : M} {fa fb : En → Option Out} (hc : SE X c mc) (ha : SB X fz a fa) (hb : SB X fz b fb) : SS X fz (.If c a b pos) (ifO mc.tst fa fb) := ⟨(ps_if hc.tst ha.run hb.run).imp fun D σ H q => by
  obtain ⟨O, env, out, w, e, k⟩ := q
  simp only [ifO, Option.bind_eq_some_iff] at e
  obtain ⟨⟨b1, e1⟩, h1, h2⟩ := e
  refine ⟨O, env, b1, e1, w, h1, fun O' H' st w' => ?_⟩
  cases b1 with
  | true => exact ⟨O', e1, out, w', h2, k.later st .refl⟩
  | false => exact ⟨O', e1, out, w', h2, k.later st .refl⟩⟩
/-! assignments -/
def asgO (i : Nat) (f : En → Option (Sl × En)) (env : En) : Option Out := (f env).bind fun (s, e1) => (setS i s e1).map .nx
def unpO (t : T) (f : En → Option (Sl × En)) (env : En) : Option Out := (frzM f env).bind fun (d, e1) => (asgT t d e1).map .nx
theorem asg_end {K : PySem.W.Frag} {i : Nat} {f : En → Option (Sl × En)} (hz : i ∉ fz) {D : Ends} {σ : St} {H : Hp} (q : tS K fz (asgO i f) D σ H) : tE K f σ H fun x H1 => gName i x σ H1 D.nx := by
  obtain ⟨O, env, out, w, e, k⟩ := q
  simp only [asgO, Option.bind_eq_some_iff, Option.map_eq_some_iff] at e
  obtain ⟨⟨s, e1⟩, h1, e2, h2, h3⟩ := e
  cases h3
  refine ⟨O, env, s, e1, w, h1, fun O' H' v st wr => ?_⟩
  obtain ⟨o, g1, g2, rfl⟩ := setS_some h2
  obtain ⟨w2, k2⟩ := wr.store g1 g2
  exact k O' H' _ (st.sub fun b f => k2 b f) w2 fun j hj => List.getElem?_set_ne fun z => hz (by rw [z]; exact hj)
theorem ss_set {i : Nat} {x : Str} {e : Expr} {f : En → Option (Sl × En)} {pos' : Pos} (hz : i ∉ fz) (hN : X.N.Nodup) (hi : X.N[i]? = some x) (hx : Loc X.env.scope x) (he : PE X e (tE X.K f)) (hs : swapsWith e (some (.Name x pos')) pos.line X.env = pure false)
    (hf : X.fn x = true ∨ X.env.scope.names.lookup x = some .local) : SS X fz (.Assign [.Name x pos'] e pos) (asgO i f) := ⟨(ps_set hN hi hx he hs hf).imp fun D σ H q => asg_end hz q⟩
theorem ss_unp {tg e : Expr} {t : T} {f : En → Option (Sl × En)} (hz : ∀ i ∈ fz, i ∉ t.slots) (he : PE X e (tE X.K f)) (hg : PG X tg (gT X.K t)) (hs : swapsWithSole [tg] e pos.line X.env = pure false) (hw : swappedStores [tg] e X.env = pure none)
    (h1 : (assignEach [tg] X.env).map (·.2) = [assign tg X.env]) : SS X fz (.Assign [tg] e pos) (unpO t f) := ⟨(ps_asg (pe_frz he) hg hs hw h1).imp fun D σ H q => by
  obtain ⟨O, env, out, w, e, k⟩ := q
  simp only [unpO, Option.bind_eq_some_iff, Option.map_eq_some_iff] at e
  obtain ⟨⟨d, e1⟩, h1, e2, h2, h3⟩ := e
  cases h3
  refine ⟨O, env, d, e1, w, h1, fun O' H' v st w' rd => ⟨O', e1, d, e2, w', rd, h2, fun σ2 w2 k2 on => ?_⟩⟩
  exact k O' H' σ2 (st.sub k2) w2 (Kp.only on hz)⟩
/-- a, b = x, y -/
theorem ss_par {i j : Nat} {x y : Str} {a b : Expr} {ma mb : M} {px py pt : Pos} {kt k2 : Nat} {pt2 : Pos} (hz : ∀ l ∈ fz, l ≠ i ∧ l ≠ j) (hc : X.calm = true) (hN : X.N.Nodup) (hi : X.N[i]? = some x) (hj : X.N[j]? = some y) (hij : i ≠ j)
    (hx : X.env.scope.names.lookup x = some .local) (hy : X.env.scope.names.lookup y = some .local) (na : notStar a = true) (nb : notStar b = true) (ha : SE X a ma) (hb : SE X b mb)
    (hw : swappedStores [.Tuple [.Name x px, .Name y py] kt pt] (.Tuple [a, b] k2 pt2) X.env = pure (some [x, y])) (hs : swapsWithSole [.Tuple [.Name x px, .Name y py] kt pt] (.Tuple [a, b] k2 pt2) pos.line X.env = pure false) :
    SS X fz (.Assign [.Tuple [.Name x px, .Name y py] kt pt] (.Tuple [a, b] k2 pt2) pos) (unpO (.tp [.nm i, .nm j]) (tupM [ma, mb]).val) := ⟨(L2.ps_par hc hN hi hj hij hx hy (pa_args (by simp [na, nb]) (.cons ha (.cons hb .nil))) hw hs).imp fun D σ H q => by
  obtain ⟨O, env, out, w, e, k⟩ := q
  simp only [unpO, frzM, tupM, M.ofVal, Option.bind_eq_some_iff, Option.map_eq_some_iff] at e
  obtain ⟨⟨d, e1⟩, ⟨⟨s, e3⟩, ⟨⟨ds, e4⟩, h1, h2⟩, d', h4, h5⟩, e2, h6, h7⟩ := e
  cases h7
  split at h2
  case isFalse => cases h2
  have h2' := Option.some.inj h2
  have h5' := h5
  injection h2' with i1 i2
  injection h5' with i3 i4
  subst i1 i2 i3 i4
  have h4' : some (PyData.tuple ds) = some d' := h4
  injection h4' with i5
  subst i5
  refine ⟨O, env, ds, e4, w, h1, fun O' H' vs st w' rd => ?_⟩
  have h6 : asgTs [.nm i, .nm j] ds e4 = some e2 := by simpa only [asgT] using h6
  match ds, h6, rd with
  | [], h6, _ => cases h6
  | [_], h6, _ =>
    simp only [asgTs, Option.bind_eq_some_iff] at h6
    obtain ⟨_, _, z⟩ := h6
    cases z
  | [d1, d2], h6, rd =>
    simp only [asgTs, asgT, Option.bind_eq_some_iff] at h6
    obtain ⟨f1, g1, f2, g2, g3⟩ := h6
    cases g3
    simp only [RepDs] at rd
    obtain ⟨v, r, rfl, r1, v2, r', rfl, r2, rfl⟩ := rd
    refine ⟨v, v2, rfl, ?_⟩
    obtain ⟨o, c1, c2, rfl⟩ := setS_some g1
    obtain ⟨o', c3, c4, rfl⟩ := setS_some g2
    have wr1 : WR X.K O' H' e4 σ (.v d1) v := ⟨w', r1, fun b f => f.elim⟩
    obtain ⟨w1, k1⟩ := wr1.store c1 c2
    have wr2 : WR X.K O' H' (e4.set i (.v d1)) (σ.set i (some v)) (.v d2) v2 := ⟨w1, r2, fun b f => f.elim⟩
    obtain ⟨w2, k2⟩ := wr2.store c3 c4
    refine k O' H' _ (st.sub fun b f => (k2 b f).elim (fun f => (k1 b f).elim id fun z => z.elim) fun z => z.elim) w2 fun l hl => ?_
    obtain ⟨n1, n2⟩ := hz l hl
    rw [List.getElem?_set_ne (Ne.symm n2), List.getElem?_set_ne (Ne.symm n1)]
  | _ :: _ :: _ :: _, h6, _ =>
    simp only [asgTs, Option.bind_eq_some_iff] at h6
    obtain ⟨_, _, _, _, z⟩ := h6
    cases z⟩
/-- x[i] = e -/
def setiO (x : Nat) (i e : M) (env : En) : Option Out := (frzM e.val env).bind fun (d, e1) => if isL e1[x]? then (i.opd e1).bind fun (p, e2) => (p.get e2).bind fun k => setiS x k d e2 else none
theorem own_slot {K : PySem.W.Frag} {O : Own} {H : Hp} {env : En} {σ : St} {i : Nat} {xs : List D} {v : V} (w : W K O H env σ) (e : env[i]? = some (.l xs)) (es : σ[i]? = some (some v)) : ∃ a vs, v = .ref a ∧ H a = some (.lst vs) ∧ RepDs K O H xs vs := by
  rcases w.rep i _ e with z | ⟨u, h1, h2⟩
  · cases z
  · rw [es] at h1; cases h1
    obtain ⟨a, vs, rfl, h3, h4, h5⟩ := h2
    exact ⟨a, vs, rfl, h3, h5⟩
theorem isL_slot {K : PySem.W.Frag} {O : Own} {H : Hp} {env : En} {σ : St} {x : Nat} (w : W K O H env σ) (h : isL env[x]? = true) : ∃ a us, σ[x]? = some (some (.ref a)) ∧ H a = some (.lst us) := by
  cases e : env[x]? with
  | none => rw [e] at h; cases h
  | some s =>
    cases s with
    | l xs =>
      rcases w.rep x _ e with z | ⟨v, h1, h2⟩
      · cases z
      · obtain ⟨a, vs, rfl, h3, _⟩ := h2
        exact ⟨a, vs, h1, h3⟩
    | _ => rw [e] at h; cases h
/-- the slot's own name, seen -/
theorem pe_slot {x : Nat} {n : Str} {p : Pos} (hN : X.N[x]? = some n) (hv : Vis X.env.scope n) (hd : (n == ("__debug__" : Str)) = false) (hcd : (n == ("__classdict__" : Str)) = false) : PE X (.Name n p) (tVar x) := pe_var hN hv hd hcd
theorem ss_seti {x : Nat} {n : Str} {p spos : Pos} {ie e : Expr} {mi me : M} (hN : X.N[x]? = some n) (hv : Vis X.env.scope n) (hd : (n == ("__debug__" : Str)) = false) (hcd : (n == ("__classdict__" : Str)) = false) (hi : SE X ie mi) (he : SE X e me)
    (ha : ∀ v, assign (.Subscript (.Name n p) ie spos) X.env v = (do
      let ov ← holding [v] (eval (.Name n p) X.env)
      let iv ← holding [v, ov] (eval ie X.env)
      standAt spos
      holding [v, ov, iv] (setItem ov iv v)
      release [v, ov, iv] [])) (hs : swapsWithSole [.Subscript (.Name n p) ie spos] e pos.line X.env = pure false) (hw : swappedStores [.Subscript (.Name n p) ie spos] e X.env = pure none) :
    SS X fz (.Assign [.Subscript (.Name n p) ie spos] e pos) (setiO x mi me) := ⟨(ps_asg he.d (pg_sub (pe_slot hN hv hd hcd) hi.opd set_list ha) hs hw rfl).imp fun D σ H q => by
  obtain ⟨O, env, out, w, e, k⟩ := q
  simp only [setiO, Option.bind_eq_some_iff] at e
  obtain ⟨⟨d, e1⟩, h1, e⟩ := e
  split at e
  case isFalse => cases e
  rename_i hL
  simp only [Option.bind_eq_some_iff] at e
  obtain ⟨⟨p, e2⟩, h2, kd, h3, h4⟩ := e
  refine ⟨O, env, d, e1, w, h1, fun O1 H1 v1 st1 w1 rd => ?_⟩
  simp only [setiS] at h4
  split at h4
  case h_2 => cases h4
  rename_i xs kk g1
  simp only [Option.map_eq_some_iff] at h4
  obtain ⟨j, g2, g3⟩ := h4
  cases g3
  obtain ⟨a, us, sx, _⟩ := isL_slot w1 hL
  refine ⟨.ref a, sx, O1, e1, p, e2, w1, h2, fun O2 H2 v2 st2 w2 rp => ?_⟩
  obtain ⟨a', vs, z, hl, rl⟩ := own_slot w2 g1 sx
  cases z
  have hi := (RepO.get w2 rp h3).int
  subst hi
  obtain ⟨w3, st3⟩ := w2.write g1 a sx (rl.set j (RepD.evo st2.evo _ _ rd))
  exact ⟨a, vs, kk, j, rfl, rfl, hl, by rw [← rl.length]; exact g2, k O2 _ σ ((st1.trans st2 fun _ z => z).trans st3 fun _ z => z) w3 .refl⟩⟩
/-- x.append(e), x.extend(e) -/
def appO (x : Nat) (e : M) (env : En) : Option Out := if isL env[x]? then (frzM e.val env).bind fun (d, e1) => appS x d e1 else none
def extO (x : Nat) (e : M) (env : En) : Option Out := if isL env[x]? then (frzM e.val env).bind fun (d, e1) => extS x d e1 else none
theorem args_one {m : M} {env env' : En} {d : D} (h : frzM m.val env = some (d, env')) : argsM [m] env = some ([d], env') := by
  simp only [argsM, h]; rfl
theorem ss_app {x : Nat} {n : Str} {p apos cpos : Pos} {e : Expr} {m : M} (hN : X.N[x]? = some n) (hv : Vis X.env.scope n) (hd : (n == ("__debug__" : Str)) = false) (hcd : (n == ("__classdict__" : Str)) = false) (he : SE X e m) (ns : notStar e = true)
    (hbase : attributeBase (.Name n p) "append" X.env (eval (.Name n p) X.env) = eval (.Name n p) X.env) (hline : (apos.endLine == cpos.line) = true)
    (hfew : ((backTo cpos (starEach [e] X.env)).all (fun x => !x.1) && (backToKw cpos (keywordEach [] X.env)).all (fun x => x.1.isSome) && decide (([e] : List Expr).length + ([] : List Keyword).length + (if ([] : List Keyword).isEmpty then 0 else 1) < 30)) = true)
    (hs : swapsWith (.Call (.Attribute (.Name n p) "append" apos) [e] [] cpos) none pos.line X.env = pure false) :
    SS X fz (.Expr (.Call (.Attribute (.Name n p) "append" apos) [e] [] cpos) pos) (appO x m) :=
  ⟨(ps_expr (pe_bm PySem.F.plainAttrs_list PySem.F.slot_list_append PySem.F.type_list_append mt_append (pe_slot hN hv hd hcd) (pa_args (by simp [ns]) (.cons he .nil)) hbase hfew hline (star_of ns) rfl) hs).imp fun D σ H q => by
  obtain ⟨O, env, out, w, e, k⟩ := q
  simp only [appO] at e
  split at e
  case isFalse => cases e
  rename_i hL
  simp only [Option.bind_eq_some_iff] at e
  obtain ⟨⟨d, e1⟩, h1, h4⟩ := e
  simp only [appS] at h4
  split at h4
  case h_2 => cases h4
  rename_i xs g1
  split at h4
  case isFalse => cases h4
  rename_i hz
  cases h4
  obtain ⟨a, us, sx, hl0⟩ := isL_slot w hL
  refine ⟨.ref a, sx, .inl ⟨rfl, us, SqL.of hl0⟩, O, env, [d], e1, w, args_one h1, fun O1 H1 vs st1 w1 rds => ?_⟩
  simp only [RepDs] at rds
  obtain ⟨v, r, rfl, rd, rfl⟩ := rds
  obtain ⟨a', ys, z, hl, rl⟩ := own_slot w1 g1 sx
  cases z
  obtain ⟨w3, st3⟩ := w1.write g1 a sx (rl.append (show RepDs X.K O1 H1 [d] [v] from by simp only [RepDs]; exact ⟨v, [], rfl, rd, rfl⟩))
  exact ⟨a, ys, v, rfl, rfl, hl, by rw [← rl.length]; exact hz, k O1 _ σ (st1.trans st3 fun _ z => z) w3 .refl⟩⟩
theorem ss_ext {x : Nat} {n : Str} {p apos cpos : Pos} {e : Expr} {m : M} (hN : X.N[x]? = some n) (hv : Vis X.env.scope n) (hd : (n == ("__debug__" : Str)) = false) (hcd : (n == ("__classdict__" : Str)) = false) (he : SE X e m) (ns : notStar e = true)
    (hbase : attributeBase (.Name n p) "extend" X.env (eval (.Name n p) X.env) = eval (.Name n p) X.env) (hline : (apos.endLine == cpos.line) = true)
    (hfew : ((backTo cpos (starEach [e] X.env)).all (fun x => !x.1) && (backToKw cpos (keywordEach [] X.env)).all (fun x => x.1.isSome) && decide (([e] : List Expr).length + ([] : List Keyword).length + (if ([] : List Keyword).isEmpty then 0 else 1) < 30)) = true)
    (hs : swapsWith (.Call (.Attribute (.Name n p) "extend" apos) [e] [] cpos) none pos.line X.env = pure false) :
    SS X fz (.Expr (.Call (.Attribute (.Name n p) "extend" apos) [e] [] cpos) pos) (extO x m) :=
  ⟨(ps_expr (pe_bm PySem.F.plainAttrs_list PySem.F.slot_list_extend PySem.F.type_list_extend mt_extend (pe_slot hN hv hd hcd) (pa_args (by simp [ns]) (.cons he .nil)) hbase hfew hline (star_of ns) rfl) hs).imp fun D σ H q => by
  obtain ⟨O, env, out, w, e, k⟩ := q
  simp only [extO] at e
  split at e
  case isFalse => cases e
  rename_i hL
  simp only [Option.bind_eq_some_iff] at e
  obtain ⟨⟨d, e1⟩, h1, h4⟩ := e
  simp only [extS] at h4
  split at h4
  case h_2 => cases h4
  rename_i xs ys g1
  split at h4
  case isFalse => cases h4
  rename_i hz
  cases h4
  obtain ⟨a, us, sx, hl0⟩ := isL_slot w hL
  refine ⟨.ref a, sx, .inl ⟨rfl, us, SqL.of hl0⟩, O, env, [.list ys], e1, w, args_one h1, fun O1 H1 vs st1 w1 rds => ?_⟩
  simp only [RepDs, RepD] at rds
  obtain ⟨v, r, rfl, ⟨b, ws, rfl, hb, nb, rb⟩, rfl⟩ := rds
  obtain ⟨a', zs, z, hl, rl⟩ := own_slot w1 g1 sx
  cases z
  have lens : zs.length + ws.length ≤ sizeLine := by
    have := rl.length; have := rb.length; omega
  obtain ⟨w3, st3⟩ := w1.write g1 a sx (rl.append rb)
  exact ⟨a, b, zs, ws, rfl, rfl, hl, hb, lens, k O1 _ σ (st1.trans st3 fun _ z => z) w3 .refl⟩⟩
/-! x op= e -/
def rAddC (K : PySem.W.Frag) : R2 := fun x y H Q => (rI0 fun i j => .int (i + j)) x y H Q ∨ rCatA K x y H Q
def rAug (K : PySem.W.Frag) (op : Operator) : R2 := match op with
  | .Add => rAddC K
  | .Sub => rI0 fun i j => .int (i - j)
  | .Mult => rI CMul fun i j => .int (i * j)
  | .Mod => rI (fun _ j => 0 < j) fun i j => .int (i % j)
  | .FloorDiv => rI CDivW fun i j => .int (i / j)
  | _ => fun _ _ _ _ => False
theorem or_aug (op : Operator) : OpR X (inplaceOp op) (rAug X.K op) := by
  cases op with
  | Add => exact OpR.or iop_add iop_catA
  | Sub => exact iop_sub
  | Mult => exact iop_mul
  | Mod => exact iop_mod
  | FloorDiv => exact iop_fdivW
  | _ => exact OpR.never
theorem ho_aug {K : PySem.W.Frag} (op : Operator) : HOp2 K (augD op) (rAug K op) := by
  intro O H d1 d2 x y res Q own h1 h2 e q
  cases op with
  | Add =>
    cases d1 with
    | int i =>
      cases d2 with
      | int j => cases e; exact .inl ⟨i, j, h1.int, h2.int, q.same own (by simp only [RepD])⟩
      | _ => cases e
    | tuple xs =>
      cases d2 with
      | tuple ys =>
        have hz : xs.length + ys.length ≤ sizeLine ∧ res = .v (.tuple (xs ++ ys)) := by
          simp only [augD] at e
          split at e
          · rename_i h; cases e; exact ⟨h, rfl⟩
          · cases e
        obtain ⟨hz, rfl⟩ := hz
        obtain ⟨a, vs, rfl, s1, r1⟩ := h1.tuple
        obtain ⟨b, us, rfl, s2, r2⟩ := h2.tuple
        have l1 := r1.length
        have l2 := r2.length
        refine .inr ⟨a, b, vs, us, rfl, rfl, s1, s2, by omega, fun z => ?_, fun _ z => ?_, fun _ _ p hp => q.tup own (r1.append r2) p hp⟩
        · subst z
          have : xs = [] := List.length_eq_zero_iff.mp (by simpa using l1)
          subst this
          exact q.same own (by simp only [RepD, List.nil_append]; exact ⟨b, us, rfl, s2, r2⟩)
        · subst z
          have : ys = [] := List.length_eq_zero_iff.mp (by simpa using l2)
          subst this
          exact q.same own (by simp only [RepD, List.append_nil]; exact ⟨a, vs, rfl, s1, r1⟩)
      | _ => cases e
    | _ => cases d2 <;> cases e
  | Sub =>
    cases d1 with
    | int i =>
      cases d2 with
      | int j => cases e; exact ⟨i, j, h1.int, h2.int, q.same own (by simp only [RepD])⟩
      | _ => cases e
    | _ => cases d2 <;> cases e
  | Mult =>
    cases d1 with
    | int i =>
      cases d2 with
      | int j =>
        simp only [augD] at e
        split at e
        · rename_i h; cases e; exact ⟨i, j, h1.int, h2.int, h, q.same own (by simp only [RepD])⟩
        · cases e
      | _ => cases e
    | _ => cases d2 <;> cases e
  | Mod =>
    cases d1 with
    | int i =>
      cases d2 with
      | int j =>
        simp only [augD] at e
        split at e
        · rename_i h; cases e; exact ⟨i, j, h1.int, h2.int, h, q.same own (by simp only [RepD])⟩
        · cases e
      | _ => cases e
    | _ => cases d2 <;> cases e
  | FloorDiv =>
    cases d1 with
    | int i =>
      cases d2 with
      | int j =>
        simp only [augD] at e
        split at e
        · rename_i h; cases e; exact ⟨i, j, h1.int, h2.int, h, q.same own (by simp only [RepD])⟩
        · cases e
      | _ => cases e
    | _ => cases d2 <;> cases e
  | _ => cases d1 <;> cases d2 <;> cases e
def augO (i : Nat) (op : Operator) (e : M) (env : En) : Option Out := match env[i]? with
    | some (.v a) => (frzM e.val env).bind fun (d, e1) => (augD op a d).bind fun r => (setS i r e1).map .nx
    | _ => none
theorem ss_aug {i : Nat} {x : Str} {e : Expr} {m : M} {op : Operator} {pos' : Pos} (hz : i ∉ fz) (hN : X.N.Nodup) (hi : X.N[i]? = some x) (hx : Loc X.env.scope x) (he : SE X e m) (hf : X.fn x = true ∨ X.env.scope.names.lookup x = some .local) :
    SS X fz (.AugAssign (.Name x pos') op e pos) (augO i op m) := ⟨(ps_aug hN hi hx he.d (or_aug op) hf).imp fun D σ H q => by
  obtain ⟨O, env, out, w, e, k⟩ := q
  simp only [augO] at e
  split at e
  case h_2 => cases e
  rename_i a g1
  simp only [Option.bind_eq_some_iff, Option.map_eq_some_iff] at e
  obtain ⟨⟨d, e1⟩, h1, r, h2, e2, h3, h4⟩ := e
  cases h4
  rcases w.rep i _ g1 with z | ⟨v, sx, rv⟩
  · cases z
  refine ⟨v, sx, O, env, d, e1, w, h1, fun O1 H1 v1 st1 w1 rd => ?_⟩
  refine ho_aug op O1 H1 a d v v1 r _ w1.own (.inl (RepD.evo st1.evo _ _ rv)) (.inl rd) h2 (RP.end_ w1 fun O2 H2 v2 st2 wr => ?_)
  obtain ⟨o, c1, c2, rfl⟩ := setS_some h3
  obtain ⟨w2, k2⟩ := wr.store c1 c2
  exact k O2 H2 _ ((st1.trans st2 fun _ z => z).sub fun b f => k2 b f) w2 fun j hj => List.getElem?_set_ne fun z => hz (by rw [z]; exact hj)⟩
/-! while -/
theorem whC_some {c : En → Option (Bool × En)} {b : En → Option Out} {env : En} {out : Out} (h : whC c b env = some out) : ∃ n, whN c b n env = some out := by
  unfold whC at h
  split at h
  · rename_i hh
    have e := Option.some.inj h
    exact ⟨hh.choose, by rw [← e]; exact hh.choose_spec.choose_spec⟩
  · cases h
theorem ss_wh {c : Expr} {body : List Stmt} {mc : M} {fb : En → Option Out} (hp : PassesOwn (model X.prog X.w) X.A X.env X.xe) (hc : SE X c mc) (hb : SB X fz body fb) : SS X fz (.While c body [] pos) (whC mc.tst fb) := ⟨(ps_while hp hc.tst hb.run).imp fun D σ H q => by
  obtain ⟨O, env, out, w, e, k⟩ := q
  obtain ⟨n, e⟩ := whC_some e
  refine ⟨fun m σ H => ∃ O env, W X.K O H env σ ∧ whN mc.tst fb m env = some out ∧ OutK X.K fz O H env σ D out, ⟨n, O, env, w, e, k⟩, fun m σ H ⟨O, env, w, e, k⟩ => ?_⟩
  cases m with
  | zero => cases e
  | succ m =>
    simp only [whN, Option.bind_eq_some_iff] at e
    obtain ⟨⟨b, e1⟩, h1, h2⟩ := e
    refine ⟨O, env, b, e1, w, h1, fun O1 H1 st1 w1 => ?_⟩
    have k1 := k.later st1 .refl
    cases b with
    | false =>
      cases h2
      exact k1 O1 H1 σ (Step.refl w1.own) w1 .refl
    | true =>
      have h2 : ((fb e1).bind fun r => match r with
        | .nx e2 => whN mc.tst fb m e2
        | .ct e2 => whN mc.tst fb m e2
        | .bk e2 => some (.nx e2)
        | .rt s e2 => some (.rt s e2)) = some out := h2
      simp only [Option.bind_eq_some_iff] at h2
      obtain ⟨r, h3, h4⟩ := h2
      refine ⟨fun σ' H' => ∃ m', m' < m + 1 ∧ ∃ O env, W X.K O H' env σ' ∧ whN mc.tst fb m' env = some out ∧ OutK X.K fz O H' env σ' D out, fun σ' H' z => z, O1, e1, r, w1, h3, ?_⟩
      cases r with
      | nx e2 => exact fun O2 H2 σ2 st2 w2 kp => ⟨m, Nat.lt_succ_self _, O2, e2, w2, h4, k1.later st2 kp⟩
      | ct e2 => exact fun O2 H2 σ2 st2 w2 kp => ⟨m, Nat.lt_succ_self _, O2, e2, w2, h4, k1.later st2 kp⟩
      | bk e2 => cases h4; exact k1
      | rt s e2 => cases h4; exact k1⟩
/-! for -/
def frO2 (t : T) (k : IK) (its : List M) (b : En → Option Out) (env : En) : Option Out := (opsM (its.map frO) env).bind fun (ps, e1) => (gets e1 ps).bind fun ds => (itemsOf k ds).bind fun xs => frL t b xs e1
theorem se_frO {e : Expr} {m : M} (h : SE X e m) : SE X e (frO m) := ⟨h.val, pe_opd h.d, h.tst⟩
theorem opsF_d : ∀ {its : List M} {env env' : En} {ps : List Opd}, opsM (its.map frO) env = some (ps, env') → ∀ p ∈ ps, ∃ d, p = .d d
  | [], _, _, _, h, p, hp => by cases h; cases hp
  | m :: its, env, env', ps, h, p, hp => by
    simp only [List.map_cons, opsM, frO, Option.bind_eq_some_iff, Option.map_eq_some_iff] at h
    obtain ⟨⟨q, e1⟩, ⟨⟨d, e3⟩, h1, h2⟩, ⟨qs, e2⟩, h3, h4⟩ := h
    cases h4; cases h2
    rcases List.mem_cons.mp hp with rfl | hp
    · exact ⟨d, rfl⟩
    · exact opsF_d h3 p hp
theorem repPs_of {K : PySem.W.Frag} {O : Own} {H : Hp} {σ : St} {env : En} : ∀ {ps : List Opd} {ds : List D} {vs : List V}, (∀ p ∈ ps, ∃ d, p = .d d) → gets env ps = some ds → RepOs K O H σ ps vs → RepPs K O H ds vs
  | [], ds, vs, _, e, r => by
    have e' : ([] : List D) = ds := Option.some.inj e
    subst e'; exact r
  | p :: ps, ds, vs, hd, e, r => by
    obtain ⟨v, r', rfl, h1, h2⟩ := r
    obtain ⟨d, rfl⟩ := hd p List.mem_cons_self
    have e' : (((Opd.d d).get env).bind fun d => (Mini.gets env ps).map (d :: ·)) = some ds := e
    simp only [Option.bind_eq_some_iff, Option.map_eq_some_iff] at e'
    obtain ⟨d', e1, es, e2, rfl⟩ := e'
    cases e1
    exact ⟨v, r', rfl, .inl h1, repPs_of (fun p hp => hd p (List.mem_cons_of_mem _ hp)) e2 h2⟩
theorem ss_for {tg iter : Expr} {body : List Stmt} {t : T} {kk : IK} {its : List M} {fb : En → Option Out} (hz : ∀ i ∈ fz, i ∉ t.slots) (hp : PassesOwn (model X.prog X.w) X.A X.env X.xe) (hc : X.calm = true) (hi : PI X tg iter (tI X.K kk (opsM (its.map frO)))) (hg : PG X tg (gT X.K t)) (hb : SB X fz body fb)
    (hs : ∀ x, foldedSetIterable iter X.env x = pure x) : SS X fz (.For tg iter body [] pos) (frO2 t kk its fb) := ⟨(ps_for hp hc hi hg hb.run hs).imp fun D σ H q => by
  obtain ⟨O, env, out, w, e, k⟩ := q
  simp only [frO2, Option.bind_eq_some_iff] at e
  obtain ⟨⟨ps, e1⟩, h1, ds, h2, items, h3, h4⟩ := e
  refine ⟨O, env, ps, e1, ds, items, w, h1, h2, h3, fun O1 H1 J vs st1 w1 rp jo => ?_⟩
  have k1 := k.later st1 .refl
  have pd := opsF_d h1
  refine ⟨fun i m σ2 H2 => m = items.length - i ∧ i ≤ items.length ∧ ∃ O2 en, W X.K O2 H2 en σ2 ∧ frL t fb (items.drop i) en = some out ∧ Step O1 H1 (FpE H1 e1 σ) O2 H2 (FpE H2 en σ2) ∧ Kp fz σ σ2, ⟨_, rfl, Nat.zero_le _, O1, e1, w1, by simpa using h4, Step.refl w1.own, .refl⟩, ?_⟩
  rintro i m σ2 H2 ⟨rfl, hi, O2, en, w2, hl, st2, kp2⟩
  have rps : RepPs X.K O2 H2 ds vs := repPs_of pd h2 (RepOs.evo st2.evo rp)
  have k2 := k1.later st2 kp2
  by_cases hlt : i < items.length
  · obtain ⟨d, hd⟩ : ∃ d, items[i]? = some d := ⟨items[i], List.getElem?_eq_getElem hlt⟩
    have hdr : items.drop i = d :: items.drop (i + 1) := by
      rw [List.drop_eq_getElem_cons hlt]
      rw [List.getElem?_eq_getElem hlt] at hd; cases hd; rfl
    rw [hdr] at hl
    simp only [frL, Option.bind_eq_some_iff] at hl
    obtain ⟨en1, hasg, r, hbd, hrest⟩ := hl
    let Nx : St → Hp → Prop := fun σ3 H3 => ∃ O3 en3, W X.K O3 H3 en3 σ3 ∧ frL t fb (items.drop (i + 1)) en3 = some out ∧ Step O1 H1 (FpE H1 e1 σ) O3 H3 (FpE H3 en3 σ3) ∧ Kp fz σ σ3
    refine .inr ⟨jo.go i O2 H2 d w2.own rps hd, Nx, fun σ3 H3 ⟨O3, en3, z1, z2, z3, z4⟩ => ⟨_, by omega, rfl, hlt, O3, en3, z1, z2, z3, z4⟩, fun x H3 y => ?_⟩
    obtain ⟨sty, rdx⟩ := jo.yld i O2 H2 d x H3 w2.own rps hd y
    obtain ⟨wy, ky⟩ := w2.keep sty
    have sty' : Step O2 H2 (FpE H2 en σ2) O2 H3 (FpE H3 en σ2) := ⟨sty.evo, sty.own, fun b e _ => sty.keepO b e id, fun b f => .inl (ky b f)⟩
    refine ⟨O2, en, d, en1, wy, rdx, hasg, fun σ3 w3 k3 on3 => ?_⟩
    have kp3 : Kp fz σ2 σ3 := Kp.only on3 hz
    have st3 : Step O1 H1 (FpE H1 e1 σ) O2 H3 (FpE H3 en1 σ3) := (st2.trans sty' fun _ z => z).sub k3
    refine ⟨O2, en1, r, w3, hbd, ?_⟩
    have kk1 := k1.later st3 (kp2.trans kp3)
    cases r with
    | nx e2 => exact fun O4 H4 σ4 st4 w4 kp4 => ⟨O4, e2, w4, hrest, st3.trans st4 fun _ z => z, (kp2.trans kp3).trans kp4⟩
    | ct e2 => exact fun O4 H4 σ4 st4 w4 kp4 => ⟨O4, e2, w4, hrest, st3.trans st4 fun _ z => z, (kp2.trans kp3).trans kp4⟩
    | bk e2 => cases hrest; exact kk1
    | rt s e2 => cases hrest; exact kk1
  · have e : i = items.length := by omega
    subst e
    rw [List.drop_length] at hl
    cases hl
    exact .inl ⟨jo.stop O2 H2 w2.own rps, k2 O2 H2 σ2 (Step.refl w2.own) w2 .refl⟩⟩
end
end Mini

namespace Mini
open PySem PySem.Spec L2
section
variable {X : Cx} {fz : List Nat} {pos : Pos}
/-- a, b = x, y: new lists stay owned -/
def parO (i j : Nat) (a b : M) (env : En) : Option Out := (parM a b env).bind fun (r, e1) => (setS i r.1 e1).bind fun e2 => (setS j r.2 e2).map .nx
def tPair (K : PySem.W.Frag) (f : En → Option ((Sl × Sl) × En)) : TA := fun σ H Q => ∃ O env r env', W K O H env σ ∧ f env = some (r, env') ∧
  ∀ O' H' v u, Step O H (FpE H env σ) O' H' (fun b => FpE H' env' σ b ∨ Fp H' r.1 v b ∨ Fp H' r.2 u b) → W K O' H' env' σ → RepS K O' H' r.1 v → RepS K O' H' r.2 u →
    (∀ b, Fp H' r.1 v b → ¬ FpE H' env' σ b) → (∀ b, Fp H' r.2 u b → ¬ FpE H' env' σ b ∧ ¬ Fp H' r.1 v b) → Q [v, u] H'
theorem pa_pair {a b : Expr} {ma mb : M} (na : notStar a = true) (nb : notStar b = true) (ha : SE X a ma) (hb : SE X b mb) : PA X [a, b] (tPair X.K (parM ma mb)) := by
  refine (pa_cons ha.val (pa_cons hb.val pa_nil (star_of nb)) (star_of na)).imp fun σ H Q q => ?_
  obtain ⟨O, env, r, env', w, h, q⟩ := q
  simp only [parM, Option.bind_eq_some_iff, Option.map_eq_some_iff] at h
  obtain ⟨⟨s, e1⟩, h1, ⟨t, e2⟩, h2, h3⟩ := h
  cases h3
  refine ⟨O, env, s, e1, w, h1, fun O1 H1 v st1 w1 => ⟨O1, e1, t, e2, w1.w, h2, fun O2 H2 u st2 w2 => ?_⟩⟩
  -- the first value is out of what the second touches
  obtain ⟨r1, f1⟩ := RepS.keep st2 w1.val fun b f => w1.sep b f
  have own1 : ∀ b, Fp H1 s v b → O1 b := fun b f => Fp.own w1.val f
  have ne : ∀ b, Fp H1 s v b → ¬ FpR H2 e2 σ t u b := fun b f g => by
    rcases st2.fps b g with z | z
    · exact w1.sep b f z
    · obtain ⟨xs, e, _⟩ := w1.w.own b (own1 b f)
      rw [e] at z; cases z
  refine q O2 H2 v u ?_ w2.w r1 w2.val (fun b f g => ne b (f1 b f) (.inl g)) fun b f => ⟨w2.sep b f, fun g => ne b (f1 b g) (.inr f)⟩
  have st2' : Step O1 H1 (FpR H1 e1 σ s v) O2 H2 (fun b => FpE H2 e2 σ b ∨ Fp H2 s v b ∨ Fp H2 t u b) := by
    refine ⟨st2.evo, st2.own, fun b ob nb => st2.keepO b ob fun f => nb (.inl f), fun b f => ?_⟩
    rcases f with f | f | f
    · exact (st2.fps b (.inl f)).imp .inl id
    · exact .inl (.inr (f1 b f))
    · exact (st2.fps b (.inr f)).imp .inl id
  exact st1.trans st2' fun _ z => z
theorem ss_parS {i j : Nat} {x y : Str} {a b : Expr} {ma mb : M} {px py pt : Pos} {kt k2 : Nat} {pt2 : Pos} (hz : ∀ l ∈ fz, l ≠ i ∧ l ≠ j) (hc : X.calm = true) (hN : X.N.Nodup) (hi : X.N[i]? = some x) (hj : X.N[j]? = some y) (hij : i ≠ j)
    (hx : X.env.scope.names.lookup x = some .local) (hy : X.env.scope.names.lookup y = some .local) (na : notStar a = true) (nb : notStar b = true) (ha : SE X a ma) (hb : SE X b mb)
    (hw : swappedStores [.Tuple [.Name x px, .Name y py] kt pt] (.Tuple [a, b] k2 pt2) X.env = pure (some [x, y])) (hs : swapsWithSole [.Tuple [.Name x px, .Name y py] kt pt] (.Tuple [a, b] k2 pt2) pos.line X.env = pure false) :
    SS X fz (.Assign [.Tuple [.Name x px, .Name y py] kt pt] (.Tuple [a, b] k2 pt2) pos) (parO i j ma mb) := ⟨(L2.ps_par hc hN hi hj hij hx hy (pa_pair na nb ha hb) hw hs).imp fun D σ H q => by
  obtain ⟨O, env, out, w, e, k⟩ := q
  simp only [parO, Option.bind_eq_some_iff, Option.map_eq_some_iff] at e
  obtain ⟨⟨⟨s, t⟩, e1⟩, h1, e2, h2, e3, h3, h4⟩ := e
  cases h4
  refine ⟨O, env, (s, t), e1, w, h1, fun O' H' v u st w' rs rt n1 n2 => ⟨v, u, rfl, ?_⟩⟩
  obtain ⟨o, c1, c2, rfl⟩ := setS_some h2
  obtain ⟨o', c3, c4, rfl⟩ := setS_some h3
  have wr1 : WR X.K O' H' e1 σ s v := ⟨w', rs, n1⟩
  obtain ⟨w1, k1⟩ := wr1.store c1 c2
  have wr2 : WR X.K O' H' (e1.set i s) (σ.set i (some v)) t u := ⟨w1, rt, fun b f g => (k1 b g).elim (fun z => (n2 b f).1 z) fun z => (n2 b f).2 z⟩
  obtain ⟨w2, k2⟩ := wr2.store c3 c4
  refine k O' H' _ (st.sub fun b f => ?_) w2 fun l hl => ?_
  · rcases k2 b f with z | z
    · exact (k1 b z).imp id .inl
    · exact .inr (.inr z)
  · obtain ⟨m1, m2⟩ := hz l hl
    rw [List.getElem?_set_ne (Ne.symm m2), List.getElem?_set_ne (Ne.symm m1)]⟩
/-- x[i] op= e -/
def augiO (x : Nat) (i : M) (op : Operator) (e : M) (env : En) : Option Out := if isL env[x]? then (i.opd env).bind fun (p, e1) => (p.get e1).bind fun k => match e1[x]?, k with
    | some (.l xs), .int n => (atI xs n).bind fun old => (frzM e.val e1).bind fun (d, e2) => (augD op old d).bind fun r => r.frz.bind fun z => setiS x k z e2
    | _, _ => none else none
theorem get_listP : PGet X (rIxL X.K) := by
  intro pins s σ H x y v u Q I rx ry h
  obtain ⟨p, xs, i, z, rfl, rfl, hq, he, q⟩ := h
  cases rx
  obtain ⟨t, rfl⟩ := ry
  obtain ⟨its, r, pl, hz⟩ := I.list hq
  obtain ⟨j, h1, h2, h3, h4, h5⟩ := atI_get he
  obtain ⟨w, ew, rw'⟩ := r.get h2
  have hl := r.length
  have hn := line63
  have fin : EP X pins σ Q w s := ⟨z, H, I, rw', q⟩
  by_cases h0 : 0 ≤ i
  · have hj : i.toNat = j := by
      rw [seqIndex_of h0 h5] at h1
      exact Option.some.inj h1
    exact wpAny_getItem_list pl.isList h0 (by omega) (by rw [hj]; simpa using ew) fin
  · have hj : (i + (its.toArray.size : Int)).toNat = j := by
      rw [seqIndex_neg (by omega) h4] at h1
      rw [List.size_toArray, ← hl]
      exact Option.some.inj h1
    exact wpAny_getItem_list_neg pl.isList (by omega) (by rw [List.size_toArray] <;> omega) (by omega) (by rw [hj]; simpa using ew) fin
theorem ss_augi {x : Nat} {n : Str} {p tpos : Pos} {ie e : Expr} {mi m : M} {op : Operator} (hN : X.N[x]? = some n) (hv : Vis X.env.scope n) (hd : (n == ("__debug__" : Str)) = false) (hcd : (n == ("__classdict__" : Str)) = false) (hi : SE X ie mi) (he : SE X e m)
    (ha : ∀ ov iv new, augStore ie ov iv new = (do holding [new, ov, iv] (setItem ov iv new); release [new, ov, iv] []; pure .next)) :
    SS X fz (.AugAssign (.Subscript (.Name n p) ie tpos) op e pos) (augiO x mi op m) := ⟨(ps_augS (pe_slot hN hv hd hcd) hi.opd get_listP he.d (or_aug op) set_list ha).imp fun D σ H q => by
  obtain ⟨O, env, out, w, e, k⟩ := q
  simp only [augiO] at e
  split at e
  case isFalse => cases e
  rename_i hL
  simp only [Option.bind_eq_some_iff] at e
  obtain ⟨⟨p, e1⟩, h1, kd, h2, e⟩ := e
  split at e
  case h_2 => cases e
  rename_i xs nn g1
  simp only [Option.bind_eq_some_iff] at e
  obtain ⟨old, h3, ⟨d, e2⟩, h4, r, h5, z, h6, h7⟩ := e
  obtain ⟨a, us, sx, _⟩ := isL_slot w hL
  refine ⟨.ref a, sx, O, env, p, e1, w, h1, fun O1 H1 v1 st1 w1 rp => ?_⟩
  obtain ⟨a', vs, zz, hl, rl⟩ := own_slot w1 g1 sx
  cases zz
  have hi := (RepO.get w1 rp h2).int
  subst hi
  have h3' : (ixN xs.length nn).bind (fun j => xs[j]?) = some old := h3
  obtain ⟨j, j1, j2⟩ := Option.bind_eq_some_iff.mp h3'
  obtain ⟨vo, j3, ro⟩ := rl.get j2
  have at_ : atI vs nn = some vo := by
    show (ixN vs.length nn).bind (fun j => vs[j]?) = some vo
    rw [← rl.length, j1]; exact j3
  refine ⟨a, vs, nn, vo, rfl, rfl, SqL.of hl, at_, O1, e1, d, e2, w1, h4, fun O2 H2 v2 st2 w2 rd => ?_⟩
  refine ho_aug op O2 H2 old d vo v2 r _ w2.own (.inl (RepD.evo st2.evo _ _ ro)) (.inl rd) h5 (RP.end_ w2 fun O3 H3 v3 st3 wr => ?_)
  simp only [setiS] at h7
  split at h7
  case h_2 => cases h7
  rename_i ys kk g2 hk
  cases hk
  simp only [Option.map_eq_some_iff] at h7
  obtain ⟨j', g3, g4⟩ := h7
  cases g4
  -- the result as data
  have hz : RepD X.K O3 H3 z v3 ∨ ∃ ls, r = .l ls := by
    cases r with
    | v dd => cases h6; exact .inl wr.val
    | l ls => exact .inr ⟨ls, rfl⟩
    | _ => cases h6
  rcases hz with hz | ⟨ls, rfl⟩
  · obtain ⟨a2, us2, zz, hl2, rl2⟩ := own_slot wr.w g2 sx
    cases zz
    obtain ⟨w4, st4⟩ := wr.w.write g2 a sx (rl2.set j' hz)
    have st3' : Step O2 H2 (FpE H2 e2 σ) O3 H3 (FpE H3 e2 σ) := st3.sub fun b f => .inl f
    exact ⟨a, us2, nn, j', rfl, rfl, hl2, by rw [← rl2.length]; exact g3, k O3 _ σ (((st1.trans st2 fun _ z => z).trans st3' fun _ z => z).trans st4 fun _ z => z) w4 .refl⟩
  · exfalso
    cases op <;> cases old <;> cases d <;> simp [augD] at h5
    all_goals (first | (split at h5 <;> cases h5) | cases h5 | skip)⟩
theorem ss_ext2 {x : Nat} {n : Str} {p' : Pos} {e : Expr} {m : M} (hN : X.N.Nodup) (hi : X.N[x]? = some n) (hx : Loc X.env.scope n) (he : SE X e m) (hf : X.fn n = true ∨ X.env.scope.names.lookup n = some .local) :
    SS X fz (.AugAssign (.Name n p') .Add e pos) (extO x m) := ⟨(ps_aug hN hi hx he.d iop_ext hf).imp fun D σ H q => by
  obtain ⟨O, env, out, w, e, k⟩ := q
  simp only [extO] at e
  split at e
  case isFalse => cases e
  rename_i hL
  simp only [Option.bind_eq_some_iff] at e
  obtain ⟨⟨d, e1⟩, h1, h4⟩ := e
  simp only [extS] at h4
  split at h4
  case h_2 => cases h4
  rename_i xs ys g1
  split at h4
  case isFalse => cases h4
  rename_i hz
  cases h4
  obtain ⟨a, us, sx, hl0⟩ := isL_slot w hL
  refine ⟨.ref a, sx, O, env, .list ys, e1, w, h1, fun O1 H1 v1 st1 w1 rd => ?_⟩
  simp only [RepD] at rd
  obtain ⟨b, ws, rfl, hb, nb, rb⟩ := rd
  obtain ⟨a', zs, z, hl, rl⟩ := own_slot w1 g1 sx
  cases z
  have lens : zs.length + ws.length ≤ sizeLine := by
    have := rl.length; have := rb.length; omega
  obtain ⟨w3, st3⟩ := w1.write g1 a sx (rl.append rb)
  refine ⟨a, b, zs, ws, rfl, rfl, hl, hb, lens, ?_⟩
  have es : σ.set x (some (.ref a)) = σ := by
    apply List.ext_getElem?
    intro j
    by_cases hj : x = j
    · subst hj
      rw [List.getElem?_set_self (w.lt (show env[x]? = some (env[x]?.getD .no) from by
        cases q : env[x]? with
        | none => rw [q] at hL; cases hL
        | some s => rfl)).2, sx]
    · rw [List.getElem?_set_ne hj]
  have q := k O1 _ σ (st1.trans st3 fun _ z => z) w3 .refl
  show D.nx (σ.set x (some (.ref a))) _
  rw [es]; exact q⟩
/-- x.insert(i, e) -/
def insO (x : Nat) (i e : M) (env : En) : Option Out := if isL env[x]? then (argsM [i, e] env).bind fun (ds, e1) => insS x ds e1 else none
theorem ss_ins {x : Nat} {n : Str} {p apos cpos : Pos} {ei e : Expr} {mi m : M} (hN : X.N[x]? = some n) (hv : Vis X.env.scope n) (hd : (n == ("__debug__" : Str)) = false) (hcd : (n == ("__classdict__" : Str)) = false) (hi : SE X ei mi) (he : SE X e m) (ni : notStar ei = true) (ns : notStar e = true)
    (hbase : attributeBase (.Name n p) "insert" X.env (eval (.Name n p) X.env) = eval (.Name n p) X.env) (hline : (apos.endLine == cpos.line) = true)
    (hfew : ((backTo cpos (starEach [ei, e] X.env)).all (fun x => !x.1) && (backToKw cpos (keywordEach [] X.env)).all (fun x => x.1.isSome) && decide (([ei, e] : List Expr).length + ([] : List Keyword).length + (if ([] : List Keyword).isEmpty then 0 else 1) < 30)) = true)
    (hs : swapsWith (.Call (.Attribute (.Name n p) "insert" apos) [ei, e] [] cpos) none pos.line X.env = pure false) :
    SS X fz (.Expr (.Call (.Attribute (.Name n p) "insert" apos) [ei, e] [] cpos) pos) (insO x mi m) :=
  ⟨(ps_expr (pe_bm PySem.F.plainAttrs_list PySem.F.slot_list_insert PySem.F.type_list_insert mt_insert (pe_slot hN hv hd hcd) (pa_args (by simp [ns, ni]) (.cons hi (.cons he .nil))) hbase hfew hline (star_of ni) (by rw [star_of ns]; rfl)) hs).imp fun D σ H q => by
  obtain ⟨O, env, out, w, e, k⟩ := q
  simp only [insO] at e
  split at e
  case isFalse => cases e
  rename_i hL
  simp only [Option.bind_eq_some_iff] at e
  obtain ⟨⟨ds, e1⟩, h1, h4⟩ := e
  simp only [insS] at h4
  split at h4
  case h_2 => cases h4
  rename_i xs kk d g1
  split at h4
  case isFalse => cases h4
  rename_i hz
  cases h4
  obtain ⟨a, us, sx, hl0⟩ := isL_slot w hL
  refine ⟨.ref a, sx, .inl ⟨rfl, us, SqL.of hl0⟩, O, env, [.int kk, d], e1, w, h1, fun O1 H1 vs st1 w1 rds => ?_⟩
  simp only [RepDs, RepD] at rds
  obtain ⟨v, r, rfl, rfl, v2, r2, rfl, rd, rfl⟩ := rds
  obtain ⟨a', ys, z, hl, rl⟩ := own_slot w1 g1 sx
  cases z
  obtain ⟨w3, st3⟩ := w1.write g1 a sx (((rl.take kk.toNat).append (show RepDs X.K O1 H1 [d] [v2] from by simp only [RepDs]; exact ⟨v2, [], rfl, rd, rfl⟩)).append (rl.drop kk.toNat))
  exact ⟨a, ys, kk, v2, rfl, rfl, hl, by rw [← rl.length]; exact hz.1, hz.2.1, hz.2.2, k O1 _ σ (st1.trans st3 fun _ z => z) w3 .refl⟩⟩
/-- x.remove(e), of ints -/
def remO (x : Nat) (e : M) (env : En) : Option Out := if isL env[x]? then (frzM e.val env).bind fun (d, e1) => remS x d e1 else none
theorem ss_rem {x : Nat} {n : Str} {p apos cpos : Pos} {e : Expr} {m : M} (hN : X.N[x]? = some n) (hv : Vis X.env.scope n) (hd : (n == ("__debug__" : Str)) = false) (hcd : (n == ("__classdict__" : Str)) = false) (he : SE X e m) (ns : notStar e = true)
    (hbase : attributeBase (.Name n p) "remove" X.env (eval (.Name n p) X.env) = eval (.Name n p) X.env) (hline : (apos.endLine == cpos.line) = true)
    (hfew : ((backTo cpos (starEach [e] X.env)).all (fun x => !x.1) && (backToKw cpos (keywordEach [] X.env)).all (fun x => x.1.isSome) && decide (([e] : List Expr).length + ([] : List Keyword).length + (if ([] : List Keyword).isEmpty then 0 else 1) < 30)) = true)
    (hs : swapsWith (.Call (.Attribute (.Name n p) "remove" apos) [e] [] cpos) none pos.line X.env = pure false) :
    SS X fz (.Expr (.Call (.Attribute (.Name n p) "remove" apos) [e] [] cpos) pos) (remO x m) :=
  ⟨(ps_expr (pe_bm PySem.F.plainAttrs_list PySem.F.slot_list_remove PySem.F.type_list_remove mt_remove (pe_slot hN hv hd hcd) (pa_args (by simp [ns]) (.cons he .nil)) hbase hfew hline (star_of ns) rfl) hs).imp fun D σ H q => by
  obtain ⟨O, env, out, w, e, k⟩ := q
  simp only [remO] at e
  split at e
  case isFalse => cases e
  rename_i hL
  simp only [Option.bind_eq_some_iff] at e
  obtain ⟨⟨d, e1⟩, h1, h4⟩ := e
  simp only [remS] at h4
  split at h4
  case h_2 => cases h4
  rename_i xs kk g1
  simp only [Option.bind_eq_some_iff] at h4
  obtain ⟨is, h5, h4⟩ := h4
  split at h4
  case isFalse => cases h4
  rename_i hm
  cases h4
  obtain ⟨a, us, sx, hl0⟩ := isL_slot w hL
  refine ⟨.ref a, sx, .inl ⟨rfl, us, SqL.of hl0⟩, O, env, [.int kk], e1, w, args_one h1, fun O1 H1 vs st1 w1 rds => ?_⟩
  simp only [RepDs, RepD] at rds
  obtain ⟨v, r, rfl, rfl, rfl⟩ := rds
  obtain ⟨a', ys, z, hl, rl⟩ := own_slot w1 g1 sx
  cases z
  have e3 := rl.intsOf h5
  subst e3
  obtain ⟨w3, st3⟩ := w1.write g1 a sx (RepDs.ints (is.eraseIdx (is.idxOf kk)))
  have hlt := List.idxOf_lt_length_of_mem hm
  refine ⟨a, is, kk, is.idxOf kk, rfl, rfl, hl, by rw [List.getElem?_eq_getElem hlt, List.getElem_idxOf hlt], fun q hq e => ?_, k O1 _ σ (st1.trans st3 fun _ z => z) w3 .refl⟩
  have key : ∀ (l : List Int) (q : Nat), q < l.idxOf kk → l[q]? ≠ some kk := by
    intro l
    induction l with
    | nil => intro q h; simp at h
    | cons b l ih =>
      intro q h e
      rw [List.idxOf_cons] at h
      cases hb : b == kk with
      | true => rw [hb] at h; simp at h
      | false =>
        rw [hb] at h
        simp only [cond_false] at h
        cases q with
        | zero =>
          simp at e
          subst e
          simp at hb
        | succ q => exact ih q (by omega) (by simpa using e)
  exact key is q hq e⟩
end
end Mini

namespace Mini
open PySem PySem.Spec L2
/-! so many names at once, by the plain road: new lists stay owned -/
def RepLs (K : PySem.W.Frag) (O : Own) (H : Hp) : List Sl → List V → Prop
  | [], [] => True
  | s :: r, v :: vs => RepS K O H s v ∧ RepLs K O H r vs
  | _, _ => False
def FpL (H : Hp) : List Sl → List V → Addr → Prop
  | s :: r, v :: vs, b => Fp H s v b ∨ FpL H r vs b
  | _, _, _ => False
def SepL (H : Hp) : List Sl → List V → Prop
  | s :: r, v :: vs => (∀ b, Fp H s v b → ¬ FpL H r vs b) ∧ SepL H r vs
  | _, _ => True
section
variable {K : PySem.W.Frag} {O O' : Own} {H H' : Hp} {F F' : Own}
theorem RepLs.length : ∀ {r : List Sl} {vs : List V}, RepLs K O H r vs → r.length = vs.length
  | [], [], _ => rfl
  | s :: r, v :: vs, h => by simp [RepLs.length h.2]
  | [], _ :: _, h => h.elim
  | _ :: _, [], h => h.elim
theorem RepLs.keep (st : Step O H F O' H' F') : ∀ {r : List Sl} {vs : List V}, RepLs K O H r vs → (∀ b, FpL H r vs b → ¬ F b) → RepLs K O' H' r vs ∧ ∀ b, FpL H' r vs b → FpL H r vs b
  | [], [], _, _ => ⟨trivial, fun _ f => f⟩
  | s :: r, v :: vs, h, n => by
    obtain ⟨a1, a2⟩ := RepS.keep st h.1 fun b f => n b (.inl f)
    obtain ⟨b1, b2⟩ := RepLs.keep st h.2 fun b f => n b (.inr f)
    exact ⟨⟨a1, b1⟩, fun b f => f.elim (fun f => .inl (a2 b f)) fun f => .inr (b2 b f)⟩
  | [], _ :: _, h, _ => h.elim
  | _ :: _, [], h, _ => h.elim
theorem SepL.keep : ∀ {r : List Sl} {vs : List V}, (∀ (s : Sl) (v : V) b, (∃ i : Nat, r[i]? = some s ∧ vs[i]? = some v) → Fp H' s v b → Fp H s v b) → (∀ b, FpL H' r vs b → FpL H r vs b) → SepL H r vs → SepL H' r vs
  | [], _, _, _, _ => by unfold SepL; trivial
  | _ :: _, [], _, _, _ => by unfold SepL; trivial
  | s :: r, v :: vs, h1, h2, h => by
    have t : ∀ b, FpL H' r vs b → FpL H r vs b := by
      have : ∀ (r : List Sl) (vs : List V), (∀ (s : Sl) (v : V) b, (∃ i : Nat, r[i]? = some s ∧ vs[i]? = some v) → Fp H' s v b → Fp H s v b) → ∀ b, FpL H' r vs b → FpL H r vs b := by
        intro r
        induction r with
        | nil => intro vs _ b f; cases vs <;> exact f.elim
        | cons s r ih =>
          intro vs g b f
          cases vs with
          | nil => exact f.elim
          | cons v vs => exact f.elim (fun f => .inl (g s v b ⟨0, rfl, rfl⟩ f)) fun f => .inr (ih vs (fun s v b ⟨i, e1, e2⟩ => g s v b ⟨i + 1, by simpa using e1, by simpa using e2⟩) b f)
      exact this r vs fun s v b ⟨i, e1, e2⟩ => h1 s v b ⟨i + 1, by simpa using e1, by simpa using e2⟩
    exact ⟨fun b f g => h.1 b (h1 s v b ⟨0, rfl, rfl⟩ f) (t b g), SepL.keep (fun s v b ⟨i, e1, e2⟩ => h1 s v b ⟨i + 1, by simpa using e1, by simpa using e2⟩) t h.2⟩
theorem RepLs.one (st : Step O H F O' H' F') : ∀ {r : List Sl} {vs : List V}, RepLs K O H r vs → (∀ b, FpL H r vs b → ¬ F b) → ∀ (s : Sl) (v : V) b, (∃ i : Nat, r[i]? = some s ∧ vs[i]? = some v) → Fp H' s v b → Fp H s v b
  | [], _, _, _, _, _, _, ⟨_, e, _⟩, _ => by simp at e
  | _ :: _, [], h, _, _, _, _, _, _ => h.elim
  | s :: r, v :: vs, h, n, s', v', b, ⟨i, e1, e2⟩, f => by
    cases i with
    | zero =>
      cases e1; cases e2
      exact (RepS.keep st h.1 fun b f => n b (.inl f)).2 b f
    | succ i => exact RepLs.one st h.2 (fun b f => n b (.inr f)) s' v' b ⟨i, by simpa using e1, by simpa using e2⟩ f
end
section
variable {X : Cx} {fz : List Nat} {pos : Pos}
def tMany (K : PySem.W.Frag) (f : En → Option (List Sl × En)) : TA := fun σ H Q => ∃ O env r env', W K O H env σ ∧ f env = some (r, env') ∧
  ∀ O' H' vs, Step O H (FpE H env σ) O' H' (fun b => FpE H' env' σ b ∨ FpL H' r vs b) → W K O' H' env' σ → RepLs K O' H' r vs → (∀ b, FpL H' r vs b → ¬ FpE H' env' σ b) → SepL H' r vs → Q vs H'
theorem pa_many : ∀ {es : List Expr} {ms : List M}, es.all notStar = true → SEs X es ms → PA X es (tMany X.K (parMs ms))
  | [], _, _, .nil => pa_nil.imp fun σ H Q q => by
    obtain ⟨O, env, r, env', w, h, q⟩ := q
    cases h
    exact q O H [] ((Step.refl w.own).sub fun b f => f.elim id fun z => z.elim) w trivial (fun b f => f.elim) trivial
  | e :: es, _, n, .cons (m := m) (ms := ms) h hs => by
    simp only [List.all_cons, Bool.and_eq_true] at n
    refine (pa_cons h.val (pa_many n.2 hs) (star_of n.1)).imp fun σ H Q q => ?_
    obtain ⟨O, env, r, env', w, h, q⟩ := q
    simp only [parMs, Option.bind_eq_some_iff, Option.map_eq_some_iff] at h
    obtain ⟨⟨s, e1⟩, h1, ⟨ss, e2⟩, h2, h3⟩ := h
    cases h3
    refine ⟨O, env, s, e1, w, h1, fun O1 H1 v st1 w1 => ⟨O1, e1, ss, e2, w1.w, h2, fun O2 H2 vs st2 w2 rl nE sp => ?_⟩⟩
    obtain ⟨r1, f1⟩ := RepS.keep st2 w1.val fun b f => w1.sep b f
    have own1 : ∀ b, Fp H1 s v b → O1 b := fun b f => Fp.own w1.val f
    have ne : ∀ b, Fp H1 s v b → ¬ (FpE H2 e2 σ b ∨ FpL H2 ss vs b) := fun b f g => by
      rcases st2.fps b g with z | z
      · exact w1.sep b f z
      · obtain ⟨xs, e, _⟩ := w1.w.own b (own1 b f)
        rw [e] at z; cases z
    refine q O2 H2 (v :: vs) ?_ w2 ⟨r1, rl⟩ (fun b f => f.elim (fun f g => ne b (f1 b f) (.inl g)) (nE b)) ⟨fun b f g => ne b (f1 b f) (.inr g), sp⟩
    have st2' : Step O1 H1 (FpR H1 e1 σ s v) O2 H2 (fun b => FpE H2 e2 σ b ∨ FpL H2 (s :: ss) (v :: vs) b) := by
      refine ⟨st2.evo, st2.own, fun b ob nb => st2.keepO b ob fun f => nb (.inl f), fun b f => ?_⟩
      rcases f with f | f | f
      · exact (st2.fps b (.inl f)).imp .inl id
      · exact .inl (.inr (f1 b f))
      · exact (st2.fps b (.inr f)).imp .inl id
    exact st1.trans st2' fun _ z => z
def gLs (K : PySem.W.Frag) (is : List Nat) : TGs := fun vs σ H Q => ∃ O env r env2, W K O H env σ ∧ RepLs K O H r vs ∧ (∀ b, FpL H r vs b → ¬ FpE H env σ b) ∧ SepL H r vs ∧ setSs is r env = some env2 ∧
  ∀ σ2, W K O H env2 σ2 → (∀ b, FpE H env2 σ2 b → FpE H env σ b ∨ FpL H r vs b) → OnlyAt σ σ2 is → Q σ2 H
theorem pgs_nilL : PGs X [] (gLs X.K []) := by
  refine ⟨fun pins s σ H vs us Q I r q => pgs_nil.run pins s σ H vs us Q I r ?_⟩
  obtain ⟨O, env, ds, env2, w, rd, n, sp, e, q⟩ := q
  cases ds with
  | nil =>
    cases e
    cases vs with
    | nil => exact ⟨rfl, q σ w (fun _ f => .inl f) ⟨rfl, fun _ _ => rfl⟩⟩
    | cons _ _ => exact rd.elim
  | cons _ _ => cases e
theorem pgs_consL {i : Nat} {x : Str} {px : Pos} {es : List Expr} {is : List Nat} (hN : X.N.Nodup) (hi : X.N[i]? = some x) (hx : Loc X.env.scope x) (hf : X.fn x = true ∨ X.env.scope.names.lookup x = some .local) (h2 : PGs X es (gLs X.K is)) (hs : (assignEach (.Name x px :: es) X.env).map (·.2) = assign (.Name x px) X.env :: (assignEach es X.env).map (·.2)) : PGs X (.Name x px :: es) (gLs X.K (i :: is)) := by
  refine ⟨fun pins s σ H vs us Q I r q => (pgs_cons (pg_name hN hi hx hf) h2 hs).run pins s σ H vs us Q I r ?_⟩
  obtain ⟨O, env, ds, env2, w, rd, n, sp, e, q⟩ := q
  cases ds with
  | nil => cases e
  | cons d ds =>
    cases vs with
    | nil => exact rd.elim
    | cons v vr =>
      simp only [setSs, Option.bind_eq_some_iff] at e
      obtain ⟨e1, h3, h4⟩ := e
      obtain ⟨o, g1, g2, rfl⟩ := setS_some h3
      have wr : WR X.K O H env σ d v := ⟨w, rd.1, fun b f => n b (.inl f)⟩
      obtain ⟨w2, k⟩ := wr.store g1 g2
      refine ⟨v, vr, rfl, ⟨O, _, ds, env2, w2, rd.2, fun b f g => ?_, sp.2, h4, fun σ2 w3 k2 o2 => ?_⟩⟩
      · rcases k b g with z | z
        · exact n b (.inr f) z
        · exact sp.1 b z f
      · refine q σ2 w3 (fun b f => ?_) ⟨o2.1.trans (by rw [List.length_set]), fun j hj => ?_⟩
        · rcases k2 b f with z | z
          · exact (k b z).imp id .inl
          · exact .inr (.inr z)
        · simp only [List.mem_cons, not_or] at hj
          rw [o2.2 j hj.2, List.getElem?_set_ne (Ne.symm hj.1)]
def parnO (is : List Nat) (ms : List M) (env : En) : Option Out := (parMs ms env).bind fun (r, e1) => if r.length ≤ sizeLine then (setSs is r e1).map .nx else none
theorem setSs_len : ∀ {is : List Nat} {r : List Sl} {e e2 : En}, setSs is r e = some e2 → is.length = r.length
  | [], [], _, _, _ => rfl
  | [], _ :: _, _, _, h => by cases h
  | _ :: _, [], _, _, h => by cases h
  | i :: is, s :: r, e, e2, h => by
    obtain ⟨e1, _, h2⟩ := Option.bind_eq_some_iff.mp h
    simp [setSs_len h2]
theorem ss_parn {is : List Nat} {tes es : List Expr} {ms : List M} {kt k2 : Nat} {pt p2 : Pos} (hz : ∀ l ∈ fz, l ∉ is) (hc : X.calm = true) (n : es.all notStar = true) (hm : SEs X es ms) (hg : PGs X tes (gLs X.K is)) (hn : (assignEach tes X.env).length = is.length) (hst : (assignEach tes X.env).findIdx? (·.1) = none)
    (hs : swapsWithSole [.Tuple tes kt pt] (.Tuple es k2 p2) pos.line X.env = pure false) (hw : swappedStores [.Tuple tes kt pt] (.Tuple es k2 p2) X.env = pure none) (h1 : (assignEach [.Tuple tes kt pt] X.env).map (·.2) = [assign (.Tuple tes kt pt) X.env]) :
    SS X fz (.Assign [.Tuple tes kt pt] (.Tuple es k2 p2) pos) (parnO is ms) := ⟨(ps_asg (L2.pe_tup (pa_many n hm)) (L2.pg_tup hc hg hn hst) hs hw h1).imp fun D σ H q => by
  obtain ⟨O, env, out, w, e, k⟩ := q
  simp only [parnO, Option.bind_eq_some_iff] at e
  obtain ⟨⟨r, e1⟩, h1, h2⟩ := e
  split at h2
  case isFalse => cases h2
  rename_i hl
  obtain ⟨e2, h3, h4⟩ := Option.map_eq_some_iff.mp h2
  subst h4
  refine ⟨O, env, r, e1, w, h1, fun O1 H1 vs st w1 rl nE sp => ⟨by rw [← rl.length]; exact hl, fun p hp => ?_⟩⟩
  have stN := OwnOk.new (o := .tup vs) w1.own hp
  obtain ⟨w2, kE⟩ := w1.keep stN
  have nf : ∀ b, FpL H1 r vs b → ¬ F0 b := fun _ _ z => z.elim
  obtain ⟨rl2, kL⟩ := rl.keep stN nf
  refine ⟨p, vs, rfl, SqT.of upd_same, by rw [← rl.length, setSs_len h3], O1, e1, r, e2, w2, rl2, fun b f g => nE b (kL b f) (kE b g), SepL.keep (fun s v b hi f => rl.one stN nf s v b hi f) kL sp, h3, fun σ2 w3 k2 on => ?_⟩
  have st2 : Step O1 H1 (fun b => FpE H1 e1 σ b ∨ FpL H1 r vs b) O1 (upd H1 p (.tup vs)) (fun b => FpE (upd H1 p (.tup vs)) e2 σ2 b) := by
    refine ⟨stN.evo, stN.own, fun b ob _ => stN.keepO b ob id, fun b f => ?_⟩
    rcases k2 b f with z | z
    · exact .inl (.inl (kE b z))
    · exact .inl (.inr (kL b z))
  exact k O1 _ σ2 (st.trans st2 fun _ z => z) w3 (Kp.only on hz)⟩
/-- three plain local names -/
theorem ss_par3n {i j l : Nat} {x y z : Str} {a b c : Expr} {ms : List M} {px py pz : Pos} {kt k2 : Nat} {pt p2 : Pos} (hz : ∀ k ∈ fz, k ∉ [i, j, l]) (hc : X.calm = true) (hN : X.N.Nodup) (hi : X.N[i]? = some x) (hj : X.N[j]? = some y) (hl : X.N[l]? = some z) (hij : i ≠ j) (hil : i ≠ l) (hjl : j ≠ l)
    (hx : X.env.scope.names.lookup x = some .local) (hy : X.env.scope.names.lookup y = some .local) (hzz : X.env.scope.names.lookup z = some .local) (n : [a, b, c].all notStar = true) (hm : SEs X [a, b, c] ms)
    (hw : swappedStores [.Tuple [.Name x px, .Name y py, .Name z pz] kt pt] (.Tuple [a, b, c] k2 p2) X.env = pure (some [x, y, z])) (hs : swapsWithSole [.Tuple [.Name x px, .Name y py, .Name z pz] kt pt] (.Tuple [a, b, c] k2 p2) pos.line X.env = pure false) :
    SS X fz (.Assign [.Tuple [.Name x px, .Name y py, .Name z pz] kt pt] (.Tuple [a, b, c] k2 p2) pos) (parnO [i, j, l] ms) := ⟨(L2.ps_par3 hc hN hi hj hl hij hil hjl hx hy hzz (pa_many n hm) hw hs).imp fun D σ H q => by
  obtain ⟨O, env, out, w, e, k⟩ := q
  simp only [parnO, Option.bind_eq_some_iff] at e
  obtain ⟨⟨r, e1⟩, h1, h2⟩ := e
  split at h2
  case isFalse => cases h2
  obtain ⟨e2, h3, h4⟩ := Option.map_eq_some_iff.mp h2
  subst h4
  refine ⟨O, env, r, e1, w, h1, fun O1 H1 vs st w1 rl nE sp => ?_⟩
  have three : ∀ {α : Type} (l : List α), l.length = 3 → ∃ a b c, l = [a, b, c] := fun l h => match l, h with
    | [a, b, c], _ => ⟨a, b, c, rfl⟩
  have l3 := setSs_len h3
  obtain ⟨s1, s2, s3, rfl⟩ := three r l3.symm
  obtain ⟨u, v, t, rfl⟩ := three vs (by rw [← rl.length]; rfl)
  · obtain ⟨r1, r2, r3, _⟩ := rl
    obtain ⟨g1, g2, _⟩ := sp
    simp only [setSs, Option.bind_eq_some_iff] at h3
    obtain ⟨ea, k1, eb, k2, ec, k3, k4⟩ := h3
    cases k4
    obtain ⟨o1, c1, d1, rfl⟩ := setS_some k1
    obtain ⟨o2, c2, d2, rfl⟩ := setS_some k2
    obtain ⟨o3, c3, d3, rfl⟩ := setS_some k3
    have wr1 : WR X.K O1 H1 e1 σ s1 u := ⟨w1, r1, fun b f => nE b (.inl f)⟩
    obtain ⟨w2, q1⟩ := wr1.store c1 d1
    have wr2 : WR X.K O1 H1 _ _ s2 v := ⟨w2, r2, fun b f g => (q1 b g).elim (nE b (.inr (.inl f))) fun z => g1 b z (.inl f)⟩
    obtain ⟨w3, q2⟩ := wr2.store c2 d2
    have wr3 : WR X.K O1 H1 _ _ s3 t := ⟨w3, r3, fun b f g => (q2 b g).elim (fun g => (q1 b g).elim (nE b (.inr (.inr (.inl f)))) fun z => g1 b z (.inr (.inl f))) fun z => g2 b z (.inl f)⟩
    obtain ⟨w4, q3⟩ := wr3.store c3 d3
    refine ⟨u, v, t, rfl, k O1 H1 _ (st.sub fun b f => ?_) w4 fun m hm => ?_⟩
    · rcases q3 b f with z | z
      · rcases q2 b z with z | z
        · exact (q1 b z).imp id .inl
        · exact .inr (.inr (.inl z))
      · exact .inr (.inr (.inr (.inl z)))
    · have := hz m hm
      simp only [List.mem_cons, List.not_mem_nil, or_false, not_or] at this
      rw [List.getElem?_set_ne (Ne.symm this.2.2), List.getElem?_set_ne (Ne.symm this.2.1), List.getElem?_set_ne (Ne.symm this.1)]⟩
end
end Mini

namespace Mini
open PySem PySem.Spec L2
/-! built-ins by name -/
def HOpN (K : PySem.W.Frag) (f : List D → Option Sl) (r : List V → Hp → VK → Prop) : Prop :=
  ∀ (O : Own) (H : Hp) (ds : List D) (vs : List V) (res : Sl) (Q : VK), OwnOk O H → RepPs K O H ds vs → f ds = some res → RP K O H res Q → r vs H Q
theorem CallR.or {X : Cx} {f : Value} {r r' : List V → Hp → VK → Prop} (h : CallR X f r) (h' : CallR X f r') : CallR X f (fun vs H Q => r vs H Q ∨ r' vs H Q) := by
  intro pins s σ H xs us Q I rv q
  rcases q with q | q
  · exact h pins s σ H xs us Q I rv q
  · exact h' pins s σ H xs us Q I rv q
section
variable {X : Cx} {K : PySem.W.Frag}
theorem nil_ps {O : Own} {H : Hp} {vs : List V} (h : RepPs K O H [] vs) : vs = [] := h
theorem many_ps {O : Own} {H : Hp} {d e f : D} {r : List D} {vs : List V} {P : Prop} (h : RepPs K O H (d :: e :: f :: r) vs) : True := trivial
theorem ho_len : HOpN K (bltD .len) (fun xs H Q => ∃ x n, xs = [x] ∧ LenV K x H n ∧ Q (.int n) H) := by
  intro O H ds vs res Q own r e q
  match ds, r, e with
  | [d], r, e =>
    obtain ⟨v, rfl, h⟩ := one_ps r
    cases d with
    | list xs =>
      cases e
      obtain ⟨a, us, rfl, h1, h2⟩ := h.list
      exact ⟨_, us.length, rfl, .inl ⟨us, SqL.of h1, rfl⟩, by rw [← h2.length]; exact q.same own (by simp only [RepD])⟩
    | tuple xs =>
      cases e
      obtain ⟨a, us, rfl, h1, h2⟩ := h.tuple
      exact ⟨_, us.length, rfl, .inr ⟨us, h1, rfl⟩, by rw [← h2.length]; exact q.same own (by simp only [RepD])⟩
    | str s =>
      simp only [bltD] at e
      split at e
      · rename_i hs
        cases e
        have h := h.str
        subst h
        exact ⟨_, s.length, rfl, ⟨hs, rfl⟩, q.same own (by simp only [RepD])⟩
      · cases e
    | _ => cases e
  | [], _, e => cases e
  | d :: _ :: _, _, e => cases d <;> cases e
theorem ho_all : HOpN K (bltD .all) (rAll K) := by
  intro O H ds vs res Q own r e q
  match ds, r, e with
  | [d], r, e =>
    obtain ⟨v, rfl, h⟩ := one_ps r
    cases d with
    | list xs =>
      simp only [bltD, Option.map_eq_some_iff] at e
      obtain ⟨bs, e1, rfl⟩ := e
      obtain ⟨a, us, rfl, h1, h2⟩ := h.list
      have := h2.boolsOf e1
      subst this
      exact ⟨a, bs, rfl, SqL.of h1, q.same own (by simp only [RepD])⟩
    | _ => cases e
  | [], _, e => cases e
  | d :: _ :: _, _, e => cases d <;> cases e
theorem ho_any : HOpN K (bltD .any) (rAny K) := by
  intro O H ds vs res Q own r e q
  match ds, r, e with
  | [d], r, e =>
    obtain ⟨v, rfl, h⟩ := one_ps r
    cases d with
    | list xs =>
      simp only [bltD, Option.map_eq_some_iff] at e
      obtain ⟨bs, e1, rfl⟩ := e
      obtain ⟨a, us, rfl, h1, h2⟩ := h.list
      have := h2.boolsOf e1
      subst this
      exact ⟨a, bs, rfl, SqL.of h1, q.same own (by simp only [RepD])⟩
    | _ => cases e
  | [], _, e => cases e
  | d :: _ :: _, _, e => cases d <;> cases e
theorem ho_sum : HOpN K (bltD .sum) (fun vs H Q => rSum K vs H Q ∨ rSumT K vs H Q) := by
  intro O H ds vs res Q own r e q
  match ds, r, e with
  | [d], r, e =>
    obtain ⟨v, rfl, h⟩ := one_ps r
    cases d with
    | list xs =>
      simp only [bltD, Option.map_eq_some_iff] at e
      obtain ⟨bs, e1, rfl⟩ := e
      obtain ⟨a, us, rfl, h1, h2⟩ := h.list
      have := h2.intsOf e1
      subst this
      exact .inl ⟨a, bs, rfl, SqL.of h1, q.same own (by simp only [RepD])⟩
    | tuple xs =>
      simp only [bltD, Option.map_eq_some_iff] at e
      obtain ⟨bs, e1, rfl⟩ := e
      obtain ⟨a, us, rfl, h1, h2⟩ := h.tuple
      have := h2.intsOf e1
      subst this
      exact .inr ⟨a, bs, rfl, h1, q.same own (by simp only [RepD])⟩
    | _ => cases e
  | [], _, e => cases e
  | d :: _ :: _, _, e => cases d <;> cases e
theorem foldl_max_ge : ∀ (r : List Int) (x : Int), x ≤ r.foldl max x ∧ ∀ y ∈ r, y ≤ r.foldl max x
  | [], x => ⟨Int.le_refl _, fun _ h => nomatch h⟩
  | z :: r, x => by
    obtain ⟨h1, h2⟩ := foldl_max_ge r (max x z)
    refine ⟨by simp only [List.foldl_cons]; omega, fun y hy => ?_⟩
    rcases List.mem_cons.mp hy with rfl | hy
    · simp only [List.foldl_cons]; omega
    · exact h2 y hy
theorem foldl_max_mem : ∀ (r : List Int) (x : Int), r.foldl max x ∈ x :: r
  | [], x => by simp
  | z :: r, x => by
    have := foldl_max_mem r (max x z)
    simp only [List.foldl_cons]
    rcases List.mem_cons.mp this with h | h
    · rw [h]
      by_cases hx : x ≤ z
      · rw [Int.max_eq_right hx]; simp
      · rw [Int.max_eq_left (by omega)]; simp
    · exact List.mem_cons_of_mem _ (List.mem_cons_of_mem _ h)
theorem foldl_min_le : ∀ (r : List Int) (x : Int), r.foldl min x ≤ x ∧ ∀ y ∈ r, r.foldl min x ≤ y
  | [], x => ⟨Int.le_refl _, fun _ h => nomatch h⟩
  | z :: r, x => by
    obtain ⟨h1, h2⟩ := foldl_min_le r (min x z)
    refine ⟨by simp only [List.foldl_cons]; omega, fun y hy => ?_⟩
    rcases List.mem_cons.mp hy with rfl | hy
    · simp only [List.foldl_cons]; omega
    · exact h2 y hy
theorem foldl_min_mem : ∀ (r : List Int) (x : Int), r.foldl min x ∈ x :: r
  | [], x => by simp
  | z :: r, x => by
    have := foldl_min_mem r (min x z)
    simp only [List.foldl_cons]
    rcases List.mem_cons.mp this with h | h
    · rw [h]
      by_cases hx : x ≤ z
      · rw [Int.min_eq_left hx]; simp
      · rw [Int.min_eq_right (by omega)]; simp
    · exact List.mem_cons_of_mem _ (List.mem_cons_of_mem _ h)
theorem intsL_eq : ∀ {xs : List D} {ns : List Int}, intsL xs = some ns → xs = ns.map .int
  | [], ns, e => by simp [intsL] at e; subst e; rfl
  | d :: ds, ns, e => by
    cases d with
    | int i =>
      simp only [intsL, Option.map_eq_some_iff] at e
      obtain ⟨m, e1, rfl⟩ := e
      rw [intsL_eq e1]; rfl
    | _ => simp [intsL] at e
theorem ints_alike (ns : List Int) : PySem.W.AlikeAll (ns.map PyData.int) := by
  refine ⟨fun x hx y hy => ?_, fun x hx => ?_⟩
  · obtain ⟨a, _, rfl⟩ := List.mem_map.mp hx
    obtain ⟨b, _, rfl⟩ := List.mem_map.mp hy
    rfl
  · obtain ⟨a, _, rfl⟩ := List.mem_map.mp hx
    exact nofun
theorem ints_depth : ∀ ns : List Int, PyData.depthAll (ns.map PyData.int) ≤ 60
  | [] => by simp [PyData.depthAll]
  | n :: ns => by
    have := ints_depth ns
    simp only [List.map_cons, PyData.depthAll, PyData.depth]; omega
/-- what is handed back is one of the items -/
theorem best_ok {f : List Int → Option Int} {g : D → List D → D} (hg : ∀ (n : Int) (ns : List Int) (m : Int), f (n :: ns) = some m → g (.int n) (ns.map .int) = .int m) (hf : f [] = none) (hm : ∀ d ds, g d ds ∈ d :: ds) {O : Own} {H : Hp} {xs : List D} {us : List V} {a : Addr} {res : Sl} {Q : VK} (own : OwnOk O H)
    (h1 : SqL K H a us ∨ SqT K H a us) (h2 : RepDs K O H xs us) (e : bestOf f g xs = some res) (q : RP K O H res Q) : rBest K g [.ref a] H Q := by
  have dp := RepDs.dp _ _ h2
  have fin : ∀ (d : D) (ds : List D), xs = d :: ds → PySem.W.AlikeAll (d :: ds) → PyData.depthAll (d :: ds) ≤ 60 → res = .v (g d ds) → rBest K g [.ref a] H Q := fun d ds e1 e2 e3 e4 => by
    subst e1 e4
    refine ⟨a, us, d, ds, rfl, h1, dp, e2, e3, fun i v hi hd => ?_⟩
    obtain ⟨v', e5, r⟩ := h2.get hd
    rw [hi] at e5; cases e5
    exact q.same own r
  unfold bestOf at e
  split at e
  · rename_i is hi
    obtain ⟨m, e1, e2⟩ := Option.map_eq_some_iff.mp e
    cases is with
    | nil => rw [hf] at e1; cases e1
    | cons n ns =>
      have ex := intsL_eq hi
      rw [List.map_cons] at ex
      refine fin _ _ ex ?_ ?_ ?_
      · have := ints_alike (n :: ns); rwa [List.map_cons] at this
      · have := ints_depth (n :: ns); rwa [List.map_cons] at this
      · rw [hg n ns m e1]; exact e2.symm
  · split at e
    · cases e
    · split at e
      · rename_i c
        cases e
        exact fin _ _ rfl c.1 c.2 rfl
      · cases e
theorem ho_max : HOpN K (bltD .max) (fun vs H Q => rBest K PySem.W.maxD vs H Q ∨ ∃ i j, vs = [.int i, .int j] ∧ Q (.int (if j > i then j else i)) H) := by
  have hg : ∀ (n : Int) (ns : List Int) (m : Int), maxL (n :: ns) = some m → PySem.W.maxD (.int n) (ns.map .int) = .int m := fun n ns m e => by
    cases e; exact PySem.W.maxD_ints n ns
  intro O H ds vs res Q own r e q
  match ds, r, e with
  | [d], r, e =>
    obtain ⟨v, rfl, h⟩ := one_ps r
    cases d with
    | list xs =>
      obtain ⟨a, us, rfl, h1, h2⟩ := h.list
      exact .inl (best_ok hg rfl maxD_mem own (.inl (SqL.of h1)) h2 e q)
    | tuple xs =>
      obtain ⟨a, us, rfl, h1, h2⟩ := h.tuple
      exact .inl (best_ok hg rfl maxD_mem own (.inr h1) h2 e q)
    | _ => cases e
  | [d1, d2], r, e =>
    obtain ⟨v, u, rfl, h1, h2⟩ := two_ps r
    cases d1 with
    | int i =>
      cases d2 with
      | int j =>
        cases e
        have h1 := h1.int
        have h2 := h2.int
        subst h1 h2
        exact .inr ⟨i, j, rfl, q.same own (by simp only [RepD])⟩
      | _ => cases e
    | _ => cases e
  | [], _, e => cases e
  | d :: d2 :: _ :: _, _, e => cases d <;> cases d2 <;> cases e
theorem ho_min : HOpN K (bltD .min) (fun vs H Q => rBest K PySem.W.minD vs H Q ∨ ∃ i j, vs = [.int i, .int j] ∧ Q (.int (if j < i then j else i)) H) := by
  have hg : ∀ (n : Int) (ns : List Int) (m : Int), minL (n :: ns) = some m → PySem.W.minD (.int n) (ns.map .int) = .int m := fun n ns m e => by
    cases e; exact PySem.W.minD_ints n ns
  intro O H ds vs res Q own r e q
  match ds, r, e with
  | [d], r, e =>
    obtain ⟨v, rfl, h⟩ := one_ps r
    cases d with
    | list xs =>
      obtain ⟨a, us, rfl, h1, h2⟩ := h.list
      exact .inl (best_ok hg rfl minD_mem own (.inl (SqL.of h1)) h2 e q)
    | tuple xs =>
      obtain ⟨a, us, rfl, h1, h2⟩ := h.tuple
      exact .inl (best_ok hg rfl minD_mem own (.inr h1) h2 e q)
    | _ => cases e
  | [d1, d2], r, e =>
    obtain ⟨v, u, rfl, h1, h2⟩ := two_ps r
    cases d1 with
    | int i =>
      cases d2 with
      | int j =>
        cases e
        have h1 := h1.int
        have h2 := h2.int
        subst h1 h2
        exact .inr ⟨i, j, rfl, q.same own (by simp only [RepD])⟩
      | _ => cases e
    | _ => cases e
  | [], _, e => cases e
  | d :: d2 :: _ :: _, _, e => cases d <;> cases d2 <;> cases e
theorem reps_all {O : Own} {H : Hp} : ∀ {ps : List (V × D)}, (∀ p ∈ ps, RepD K O H p.2 p.1) → RepDs K O H (ps.map (·.2)) (ps.map (·.1))
  | [], _ => by simp [RepDs]
  | p :: ps, h => by
    simp only [List.map_cons, RepDs]
    exact ⟨_, _, rfl, h p List.mem_cons_self, reps_all fun q hq => h q (List.mem_cons_of_mem _ hq)⟩
theorem reps_zip {O : Own} {H : Hp} : ∀ {ds : List D} {vs : List V}, RepDs K O H ds vs → ∃ ps : List (V × D), ps.map (·.1) = vs ∧ ps.map (·.2) = ds ∧ ∀ p ∈ ps, RepD K O H p.2 p.1
  | [], vs, h => by simp only [RepDs] at h; exact ⟨[], h.symm ▸ rfl, rfl, by simp⟩
  | d :: ds, vs, h => by
    simp only [RepDs] at h
    obtain ⟨v, r, rfl, h1, h2⟩ := h
    obtain ⟨ps, e1, e2, h3⟩ := reps_zip h2
    refine ⟨(v, d) :: ps, by simp [e1], by simp [e2], fun p hp => ?_⟩
    rcases List.mem_cons.mp hp with rfl | hp
    · exact h1
    · exact h3 p hp
theorem ho_sorted : HOpN K (bltD .sorted) (rSortD K) := by
  intro O H ds vs res Q own r e q
  match ds, r, e with
  | [d], r, e =>
    obtain ⟨v, rfl, h⟩ := one_ps r
    cases d with
    | list xs =>
      have e : sortOf xs = some res := e
      unfold sortOf at e
      split at e
      · rename_i c
        cases e
        obtain ⟨c1, c2, c3⟩ := c
        obtain ⟨a, us, rfl, h1, h2⟩ := h.list
        obtain ⟨ps, rfl, rfl, h3⟩ := reps_zip h2
        refine ⟨a, ps, rfl, SqL.of h1, RepDs.dp _ _ h2, c1, c2, fun p hp => c3 _ (List.mem_map.mpr ⟨p, hp, rfl⟩), fun l hl => ?_⟩
        have e5 : (ps.map (·.2)).mergeSort (PySem.W.dataLe false fun x : D => x) = (ps.mergeSort (PySem.W.dataLe false fun p : V × D => p.2)).map (·.2) := (List.map_mergeSort (f := fun p : V × D => p.2) (r := PySem.W.dataLe false fun p : V × D => p.2) (s := PySem.W.dataLe false fun x : D => x) fun a _ b _ => rfl).symm
        rw [e5] at q
        exact q.lst own (reps_all fun p hp => h3 p (List.mem_mergeSort.mp hp)) l hl
      · cases e
    | _ => cases e
  | [], _, e => cases e
  | d :: _ :: _, _, e => cases d <;> cases e
theorem ho_abs : HOpN K (bltD .abs) (fun xs H Q => ∃ i, xs = [.int i] ∧ Q (.int (if i < 0 then -i else i)) H) := by
  intro O H ds vs res Q own r e q
  match ds, r, e with
  | [d], r, e =>
    obtain ⟨v, rfl, h⟩ := one_ps r
    cases d with
    | int i =>
      cases e
      have h := h.int
      subst h
      exact ⟨i, rfl, q.same own (by simp only [RepD])⟩
    | _ => cases e
  | [], _, e => cases e
  | d :: _ :: _, _, e => cases d <;> cases e
theorem ho_intT : HOpN K (bltD .int) (fun xs H Q => (∃ i, xs = [.int i] ∧ Q (.int i) H) ∨ ∃ k, xs = [.bl k] ∧ Q (.int (if k then 1 else 0)) H) := by
  intro O H ds vs res Q own r e q
  match ds, r, e with
  | [d], r, e =>
    obtain ⟨v, rfl, h⟩ := one_ps r
    cases d with
    | int i =>
      cases e
      have h := h.int
      subst h
      exact .inl ⟨i, rfl, q.same own (by simp only [RepD])⟩
    | bool i =>
      cases e
      have h := h.bool
      subst h
      exact .inr ⟨i, rfl, q.same own (by simp only [RepD])⟩
    | _ => cases e
  | [], _, e => cases e
  | d :: _ :: _, _, e => cases d <;> cases e
theorem ho_strT : HOpN K (bltD .str) (fun xs H Q => ∃ i, xs = [.int i] ∧ i.natAbs.log2 < 1920 ∧ Q (.str (toString i)) H) := by
  intro O H ds vs res Q own r e q
  match ds, r, e with
  | [d], r, e =>
    obtain ⟨v, rfl, h⟩ := one_ps r
    cases d with
    | int i =>
      simp only [bltD] at e
      split at e
      · rename_i hl
        cases e
        have h := h.int
        subst h
        exact ⟨i, rfl, hl, q.same own (by simp only [RepD])⟩
      · cases e
    | _ => cases e
  | [], _, e => cases e
  | d :: _ :: _, _, e => cases d <;> cases e
theorem ho_tupleT : HOpN K (bltD .tuple) (fun xs H Q => ∃ p ys, xs = [.ref p] ∧ ((SqL K H p ys ∧ ∀ l, H l = none → Q (.ref l) (upd H l (.tup ys))) ∨ (SqT K H p ys ∧ Q (.ref p) H))) := by
  intro O H ds vs res Q own r e q
  match ds, r, e with
  | [d], r, e =>
    obtain ⟨v, rfl, h⟩ := one_ps r
    cases d with
    | list xs =>
      cases e
      obtain ⟨a, us, rfl, h1, h2⟩ := h.list
      exact ⟨a, us, rfl, .inl ⟨SqL.of h1, fun l hl => q.tup own h2 l hl⟩⟩
    | tuple xs =>
      cases e
      obtain ⟨a, us, rfl, h1, h2⟩ := h.tuple
      exact ⟨a, us, rfl, .inr ⟨h1, q.same own (by simp only [RepD]; exact ⟨a, us, rfl, h1, h2⟩)⟩⟩
    | _ => cases e
  | [], _, e => cases e
  | d :: _ :: _, _, e => cases d <;> cases e
theorem ho_listT : HOpN K (bltD .list) (fun xs H Q => ∃ p ys, xs = [.ref p] ∧ (SqL K H p ys ∨ SqT K H p ys) ∧ ∀ l, H l = none → Q (.ref l) (upd H l (.lst ys))) := by
  intro O H ds vs res Q own r e q
  match ds, r, e with
  | [d], r, e =>
    obtain ⟨v, rfl, h⟩ := one_ps r
    cases d with
    | list xs =>
      cases e
      obtain ⟨a, us, rfl, h1, h2⟩ := h.list
      exact ⟨a, us, rfl, .inl (SqL.of h1), fun l hl => q.lst own h2 l hl⟩
    | tuple xs =>
      cases e
      obtain ⟨a, us, rfl, h1, h2⟩ := h.tuple
      exact ⟨a, us, rfl, .inr h1, fun l hl => q.lst own h2 l hl⟩
    | _ => cases e
  | [], _, e => cases e
  | d :: _ :: _, _, e => cases d <;> cases e
def blName : Bl → Str
  | .len => "len" | .all => "all" | .any => "any" | .sum => "sum" | .min => "min" | .max => "max" | .abs => "abs" | .tuple => "tuple" | .list => "list" | .int => "int" | .sorted => "sorted" | .str => "str"
theorem te_ops {f : List D → Option Sl} {r : List V → Hp → VK → Prop} (hop : HOpN K f r) {ms : List M} {σ : St} {H : Hp} {Q : VK} (q : tE K (fun env => (opsM ms env).bind fun (ps, e1) => (gets e1 ps).bind fun ds => (f ds).map fun r => (r, e1)) σ H Q) : tCB r (tOs K (opsM ms)) σ H Q := by
  obtain ⟨O, env, s, env', w, e, q⟩ := q
  simp only [Option.bind_eq_some_iff, Option.map_eq_some_iff] at e
  obtain ⟨⟨ps, e1⟩, h1, ds, h2, res, h3, h4⟩ := e
  cases h4
  exact ⟨O, env, ps, e1, w, h1, fun O' H' vs st w' rp => hop O' H' ds vs _ _ w'.own (RepOs.gets w' rp h2) h3 (RP.end_ w' fun O2 H2 v2 st2 wr => q O2 H2 v2 (st.trans st2 fun _ z => z) wr)⟩
theorem any_star {es : List Expr} {env : PySem.Env} {pos : Pos} (n : es.all notStar = true) : (backTo pos (starEach es env)).any (·.1) = false := by
  induction es with
  | nil => rfl
  | cons e es ih =>
    simp only [List.all_cons, Bool.and_eq_true] at n
    rw [star_of n.1]
    have := ih n.2
    simpa [backTo] using this
theorem se_blt {k : Nat} (hr : Room k X.A) {b : Bl} {e : Expr} {es : List Expr} {ms : List M} {p pos : Pos} (hc : X.calm = true) (hg : Gl X (blName b)) (hm : X.mg (blName b) = none) (n : (e :: es).all notStar = true) (h : SEs X (e :: es) ms) : SE X (.Call (.Name (blName b) p) (e :: es) [] pos) (bltM b ms) := by
  have hs : starEach (e :: es) X.env = (false, eval e X.env) :: starEach es X.env := star_of (by simp only [List.all_cons, Bool.and_eq_true] at n; exact n.1)
  have hpl : (backTo pos (starEach es X.env)).any (·.1) = false := any_star (by simp only [List.all_cons, Bool.and_eq_true] at n; exact n.2)
  have fin : ∀ {r : List V → Hp → VK → Prop}, HOpN X.K (bltD b) r → PE X (.Call (.Name (blName b) p) (e :: es) [] pos) (tCB r (tOs X.K (opsM ms))) → SE X (.Call (.Name (blName b) p) (e :: es) [] pos) (bltM b ms) := fun {r} ho pe =>
    .ofVal rfl (pe.imp fun _ _ _ q => te_ops ho q)
  have pa := pa_ops n h
  have hu : X.A.units + 65 < cLine := by have := hr.un; omega
  cases b with
  | len => exact fin ho_len (pe_callB call_len hg hm PySem.boot_len pa (by decide) (by decide) hs hpl)
  | all => exact fin ho_all (pe_callB (cr_all hc) hg hm PyProof.Rows.boot_all pa (by decide) (by decide) hs hpl)
  | any => exact fin ho_any (pe_callB (cr_any hc) hg hm PyProof.Rows.boot_any pa (by decide) (by decide) hs hpl)
  | sum => exact fin ho_sum (pe_callB (CallR.or (cr_sum hc) (cr_sumT hc)) hg hm PyProof.Rows.boot_sum pa (by decide) (by decide) hs hpl)
  | min => exact fin ho_min (pe_callB (CallR.or (cr_minD hc hu) (call_min2 hc)) hg hm PyProof.Rows.boot_min pa (by decide) (by decide) hs hpl)
  | max => exact fin ho_max (pe_callB (CallR.or (cr_maxD' hc hu) (call_max2 hc)) hg hm PyProof.Rows.boot_max pa (by decide) (by decide) hs hpl)
  | abs => exact fin ho_abs (pe_callB call_abs hg hm PyProof.Rows.boot_abs pa (by decide) (by decide) hs hpl)
  | tuple => exact fin ho_tupleT (pe_callTy call_tuple_of hg hm PyProof.Rows.boot_tuple pa (by decide) (by decide) hs hpl)
  | list => exact fin ho_listT (pe_callTy call_list_of hg hm PyProof.Rows.boot_list pa (by decide) (by decide) hs hpl)
  | int => exact fin ho_intT (pe_callTy call_int1 hg hm PyProof.Rows.boot_int pa (by decide) (by decide) hs hpl)
  | sorted => exact fin ho_sorted (pe_callB (cr_sortD hu) hg hm PyProof.Rows.boot_sorted pa (by decide) (by decide) hs hpl)
  | str => exact fin ho_strT (pe_callTy call_str_int hg hm PyProof.Rows.boot_str pa (by decide) (by decide) hs hpl)
/-! isinstance -/
def tyName : Ty → String
  | .int => "int" | .bool => "bool" | .tuple => "tuple" | .list => "list" | .str => "str"
def dTy : D → String
  | .none => "NoneType" | .bool _ => "bool" | .int _ => "int" | .str _ => "str" | .tuple _ => "tuple" | .list _ => "list" | .dict _ => "dict"
theorem tyx_of {O : Own} {H : Hp} {d : D} {v : V} (r : RepP K O H d v) : TyX K H v (.type (dTy d)) := by
  cases d with
  | none => have e := r.none; subst e; exact .base .non
  | bool b => have e := r.bool; subst e; exact .base (.bl b)
  | int b => have e := r.int; subst e; exact .base (.int b)
  | str b => have e := r.str; subst e; exact .base (.str b)
  | list b => obtain ⟨a, vs, rfl, h, _⟩ := r.list; exact .base (.lst h)
  | tuple b =>
    obtain ⟨a, vs, rfl, h, _⟩ := r.tuple
    rcases h with (h | ⟨o, h⟩) | ⟨o, its, n, h, h2, _⟩
    · exact .base (.tup h)
    · exact .fTuple h
    · exact .kTuple h h2
  | dict b => exact r.dict.elim
def tyB (a b : Ty) : Bool := match a, b with
  | .int, .int => true | .bool, .int => true | .bool, .bool => true | .tuple, .tuple => true | .list, .list => true | .str, .str => true | _, _ => false
theorem kit_tt (a b : Ty) : kitB (tyName a) (tyName b) = some (tyB a b) := by cases a <;> cases b <;> decide +kernel
theorem kit_n (b : Ty) : kitB "NoneType" (tyName b) = some false := by cases b <;> decide +kernel
theorem kit_d (b : Ty) : kitB "dict" (tyName b) = some false := by cases b <;> decide +kernel
theorem kit_of {d : D} {t : Ty} : PySem.W.kitOne K (.type (dTy d)) (.type (tyName t)) = some (isiD d t) := by
  refine kit_ty ?_
  cases d with
  | none => exact (kit_n t).trans (by cases t <;> rfl)
  | bool b => exact (kit_tt .bool t).trans (by cases t <;> rfl)
  | int b => exact (kit_tt .int t).trans (by cases t <;> rfl)
  | str b => exact (kit_tt .str t).trans (by cases t <;> rfl)
  | tuple b => exact (kit_tt .tuple t).trans (by cases t <;> rfl)
  | list b => exact (kit_tt .list t).trans (by cases t <;> rfl)
  | dict b => exact (kit_d t).trans (by cases t <;> rfl)
theorem boot_ty (t : Ty) : bootBuiltins (tyName t : Str) = some (.type (tyName t)) := by cases t <;> decide +kernel
theorem se_isi {a : Expr} {ma : M} {t : Ty} {p p2 pos : Pos} (hg : Gl X "isinstance") (hm : X.mg "isinstance" = none) (hg2 : Gl X (tyName t)) (hm2 : X.mg (tyName t) = none) (n : notStar a = true) (h : SE X a ma) :
    SE X (.Call (.Name "isinstance" p) [a, .Name (tyName t) p2] [] pos) (.cmp (op1 (fun d => some (.v (.bool (isiD d t)))) ma).val) := by
  have pt : PE X (.Name (tyName t) p2) (tC (.ty (tyName t))) := pe_bltn hg2 hm2 (boot_ty t) rfl (by cases t <;> decide) (by cases t <;> decide)
  have pe0 := pe_callB (X := X) (pos := pos) (p := p) call_isi hg hm PyProof.Rows.boot_isinstance (pa_cons h.opd (pa_cons pt pa_nil) (star_of n)) (by decide) (by decide) (star_of n) (any_star (by rfl))
  have key : ∀ {σ : St} {H : Hp} {Q : VK}, tE X.K (op1 (fun d => some (.v (.bool (isiD d t)))) ma).val σ H Q → tCB (rIsi X.K) (tCons (tO X.K ma.opd) (tCons (tC (.ty (tyName t))) tNil)) σ H Q := fun {σ H Q} q => by
    refine te_op1 (r := fun x H Q => rIsi X.K [x, .ty (tyName t)] H Q) (fun O H d x res Q own r e q => ?_) q
    cases e
    exact ⟨x, .ty (tyName t), _, _, isiD d t, rfl, .ty _, tyx_of r, kit_of, q.same own (by simp only [RepD])⟩
  refine se_of_cmp (pe0.imp fun _ _ _ q => key q) ((pt_val pe0).imp fun σ H Q q => key (tt_of_te q))
/-! slices -/
def plainIx : Expr → Bool
  | .Slice _ _ _ _ => false
  | .Tuple _ _ _ => false
  | _ => true
theorem po_part {o : Option Expr} {ms : List M} (h : match o, ms with | none, [] => True | some e, [m] => SE X e m | _, _ => False) : PO X o (fun σ H Q => ∃ O env l env', W X.K O H env σ ∧ partM ms env = some (l, env') ∧
    ∀ O' H', Step O H (FpE H env σ) O' H' (FpE H' env' σ) → W X.K O' H' env' σ → Q l H') := by
  cases o with
  | none =>
    cases ms with
    | nil =>
      refine ⟨fun pins s σ H Q I q => po_none.run pins s σ H Q I ?_⟩
      obtain ⟨O, env, l, env', w, e, q⟩ := q
      cases e
      exact q O H (Step.refl w.own) w
    | cons _ _ => exact h.elim
  | some e =>
    match ms, h with
    | [m], h =>
      refine ⟨fun pins s σ H Q I q => (po_some h.opd).run pins s σ H Q I ?_⟩
      obtain ⟨O, env, l, env', w, e, q⟩ := q
      simp only [partM, Option.bind_eq_some_iff] at e
      obtain ⟨⟨p, e1⟩, h1, d, h2, h3⟩ := e
      refine ⟨O, env, p, e1, w, h1, fun O' H' v st w' r => ?_⟩
      have rp := RepO.get w' r h2
      cases d with
      | int i => cases h3; exact ⟨i, rp.int, q O' H' st w'⟩
      | _ => cases h3
    | [], h => exact h.elim
    | _ :: _ :: _, h => exact h.elim
theorem cut_rep {O : Own} {H : Hp} {xs : List D} {vs : List V} (r : RepDs K O H xs vs) (lo hi : Option Int) : RepDs K O H (cutD xs lo hi) (cutV vs lo hi) := by
  unfold cutD cutV
  rw [r.length]
  exact (r.drop _).take _
theorem cutV_whole {vs : List V} {lo hi : Option Int} (h : HT.sIx vs.length 0 lo = 0 ∧ HT.sIx vs.length vs.length hi = vs.length) : cutV vs lo hi = vs := by
  unfold cutV; rw [h.1, h.2]; simp
theorem se_slc {a : Expr} {ma : M} {lo hi : Option Expr} {ml mh : List M} {p2 pos : Pos} (ha : SE X a ma) (hl : match lo, ml with | none, [] => True | some e, [m] => SE X e m | _, _ => False) (hh : match hi, mh with | none, [] => True | some e, [m] => SE X e m | _, _ => False) :
    SE X (.Subscript a (.Slice lo hi none p2) pos) (slcM ma ml mh) := .ofVal rfl ((pe_slice (SlR.or sl_list sl_tupA) ha.opd (po_part hl) (po_part hh)).imp fun σ H Q q => by
  obtain ⟨O, env, s, env', w, e, q⟩ := q
  simp only [Option.bind_eq_some_iff, Option.map_eq_some_iff] at e
  obtain ⟨⟨p, e1⟩, h1, ⟨l, e2⟩, h2, ⟨h, e3⟩, h3, x, h4, res, h5, h6⟩ := e
  cases h6
  refine ⟨O, env, p, e1, w, h1, fun O1 H1 v st1 w1 rp => ⟨O1, e1, l, e2, w1, h2, fun O2 H2 st2 w2 => ⟨O2, e2, h, e3, w2, h3, fun O3 H3 st3 w3 => ?_⟩⟩⟩
  have r3 := RepO.get w3 (RepO.evo st3.evo (RepO.evo st2.evo rp)) h4
  have q3 : RP X.K O3 H3 s Q := RP.end_ w3 fun O4 H4 v4 st4 wr => q O4 H4 v4 (((st1.trans st2 fun _ z => z).trans st3 fun _ z => z).trans st4 fun _ z => z) wr
  cases x with
  | list xs =>
    cases h5
    obtain ⟨a, us, rfl, g1, g2⟩ := r3.list
    exact .inl ⟨a, us, rfl, SqL.of g1, fun p hp => q3.lst w3.own (cut_rep g2 _ _) p hp⟩
  | tuple xs =>
    cases h5
    obtain ⟨a, us, rfl, g1, g2⟩ := r3.tuple
    refine .inr ⟨a, us, rfl, g1, fun hw => ?_, fun hw p hp => q3.tup w3.own (cut_rep g2 _ _) p hp⟩
    refine q3.same w3.own ?_
    simp only [RepD]
    refine ⟨a, us, rfl, g1, ?_⟩
    have := cut_rep g2 l h
    rw [cutV_whole hw] at this
    exact this
  | _ => cases h5)
/-! x[::-1] -/
theorem ho_rev : HOp1 K revD (fun x H Q => (∃ a xs, x = .ref a ∧ SqL K H a xs ∧ ∀ p, H p = none → Q (.ref p) (upd H p (.lst xs.reverse))) ∨
  (∃ a xs, x = .ref a ∧ SqT K H a xs ∧ ∀ p, H p = none → Q (.ref p) (upd H p (.tup xs.reverse)))) := by
  intro O H d x res Q own h e q
  have rv : ∀ {ds : List D} {vs : List V}, RepDs K O H ds vs → RepDs K O H ds.reverse vs.reverse := by
    intro ds
    induction ds with
    | nil => intro vs h; simp only [RepDs] at h; subst h; simp [RepDs]
    | cons d ds ih =>
      intro vs h
      simp only [RepDs] at h
      obtain ⟨v, r, rfl, h1, h2⟩ := h
      rw [List.reverse_cons, List.reverse_cons]
      exact (ih h2).append (by simp only [RepDs]; exact ⟨v, [], rfl, h1, rfl⟩)
  cases d with
  | list xs =>
    cases e
    obtain ⟨a, vs, rfl, s1, r1⟩ := h.list
    exact .inl ⟨a, vs, rfl, SqL.of s1, fun p hp => q.lst own (rv r1) p hp⟩
  | tuple xs =>
    cases e
    obtain ⟨a, vs, rfl, s1, r1⟩ := h.tuple
    exact .inr ⟨a, vs, rfl, s1, fun p hp => q.tup own (rv r1) p hp⟩
  | _ => cases e
theorem se_rev {a : Expr} {ma : M} {k : Nat} {p1 p2 p3 pos : Pos} (ha : SE X a ma) : SE X (.Subscript a (.Slice none none (some (.UnaryOp .USub (.Constant (.int 1) k p1) p2)) p3) pos) (op1 revD ma) :=
  .ofVal rfl ((pe_revA ha.opd).imp fun _ _ _ q => te_op1 ho_rev q)
/-! is True, is False -/
theorem te_isb {K : PySem.W.Frag} {ng k : Bool} {ma : M} {σ : St} {H : Hp} {Q : VK} (q : tE K (op1 (isbD ng k) ma).val σ H Q) : tO K ma.opd σ H fun x H1 => (if ng then rNotB else rIsB) x (.bl k) H1 Q := by
  refine te_op1 (r := fun x H Q => (if ng then rNotB else rIsB) x (.bl k) H Q) (fun O H d x res Q own h e q => ?_) q
  cases d with
  | bool b =>
    have e1 := h.bool
    subst e1
    cases ng with
    | true => cases e; exact ⟨b, k, rfl, rfl, q.same own (by simp only [RepD]; rfl)⟩
    | false => cases e; exact ⟨b, k, rfl, rfl, q.same own (by simp only [RepD]; rfl)⟩
  | _ => cases e
theorem se_isb {a : Expr} {ma : M} {ng k : Bool} {j : Nat} {p pos : Pos} (ha : SE X a ma) : SE X (.Compare a [if ng then .IsNot else .Is] [.Constant (.bool k) j p] pos) (.cmp (op1 (isbD ng k) ma).val) := by
  cases ng with
  | true => exact se_of_cmp ((pe_cmpR op_notBl ha.opd pe_bl (by rfl)).imp fun σ H Q q => te_isb (ng := true) q) ((pt_cmpR op_notBl ha.opd pe_bl (by rfl)).imp fun σ H Q q => te_isb (ng := true) (tt_of_te q))
  | false => exact se_of_cmp ((pe_cmpR op_isBl ha.opd pe_bl (by rfl)).imp fun σ H Q q => te_isb (ng := false) q) ((pt_cmpR op_isBl ha.opd pe_bl (by rfl)).imp fun σ H Q q => te_isb (ng := false) (tt_of_te q))
/-! list(range(..)), tuple(range(..)) -/
theorem rgv_rep {O : Own} {H : Hp} (a b : Int) : RepDs K O H (rngL a (b - a).toNat) (rgV a b) := by
  have := RepDs.ints (K := K) (O := O) (H := H) ((List.range (b - a).toNat).map fun i => a + (i : Nat))
  simpa [rngL, rgV, List.map_map, Function.comp_def] using this
def rgvName (tup : Bool) : Str := if tup then "tuple" else "list"
theorem rgv_end {K : PySem.W.Frag} {tup : Bool} {ms : List M} {σ : St} {H : Hp} {Q : VK} (q : tE K (rgvM tup ms).val σ H Q) : tOs K (opsM ms) σ H fun vs H1 => ∃ a b, (vs = [.int b] ∧ a = 0 ∨ vs = [.int a, .int b]) ∧ RgOk a b ∧
    ∀ q, H1 q = none → Q (.ref q) (upd H1 q (if tup then .tup (rgV a b) else .lst (rgV a b))) := by
  obtain ⟨O, env, s, env', w, e, q⟩ := q
  simp only [rgvM, M.ofVal, Option.bind_eq_some_iff, Option.map_eq_some_iff] at e
  obtain ⟨⟨ps, e1⟩, h1, ds, h2, res, h3, h4⟩ := e
  cases h4
  refine ⟨O, env, ps, e1, w, h1, fun O' H' vs st w' rp => ?_⟩
  have r := RepOs.gets w' rp h2
  have q3 : RP K O' H' s Q := RP.end_ w' fun O2 H2 v2 st2 wr => q O2 H2 v2 (st.trans st2 fun _ z => z) wr
  have fin : ∀ a b, s = (if tup = true then Sl.v (.tuple (rngL a (b - a).toNat)) else .l (rngL a (b - a).toNat)) → ∀ p, H' p = none → Q (.ref p) (upd H' p (if tup = true then .tup (rgV a b) else .lst (rgV a b))) := by
    intro a b hs p hp
    cases tup with
    | true => rw [if_pos rfl] at hs ⊢; subst hs; exact q3.tup w'.own (rgv_rep a b) p hp
    | false => rw [if_neg (by decide)] at hs ⊢; subst hs; exact q3.lst w'.own (rgv_rep a b) p hp
  match ds, r, h3 with
  | [.int n], r, h3 =>
    simp only [rgvD] at h3
    split at h3
    · rename_i ok
      obtain ⟨v, rfl, h⟩ := one_ps r
      have h := h.int
      subst h
      refine ⟨0, n, .inl ⟨rfl, rfl⟩, ok, fin 0 n ?_⟩
      rw [Int.sub_zero]
      exact (Option.some.inj h3).symm
    · cases h3
  | [.int a, .int b], r, h3 =>
    simp only [rgvD] at h3
    split at h3
    · rename_i ok
      obtain ⟨v, u, rfl, h, g⟩ := two_ps r
      have h := h.int
      have g := g.int
      subst h g
      exact ⟨a, b, .inr rfl, ok, fin a b (Option.some.inj h3).symm⟩
    · cases h3
  | [], _, h3 => cases h3
  | .none :: _, _, h3 => cases h3
  | .bool _ :: _, _, h3 => cases h3
  | .str _ :: _, _, h3 => cases h3
  | .tuple _ :: _, _, h3 => cases h3
  | .list _ :: _, _, h3 => cases h3
  | .dict _ :: _, _, h3 => cases h3
  | .int _ :: .none :: _, _, h3 => cases h3
  | .int _ :: .bool _ :: _, _, h3 => cases h3
  | .int _ :: .str _ :: _, _, h3 => cases h3
  | .int _ :: .tuple _ :: _, _, h3 => cases h3
  | .int _ :: .list _ :: _, _, h3 => cases h3
  | .int _ :: .dict _ :: _, _, h3 => cases h3
  | .int _ :: .int _ :: _ :: _, _, h3 => cases h3
theorem se_rgv {tup : Bool} {es : List Expr} {ms : List M} {p p2 q pos : Pos} (hc : X.calm = true) (hg : Gl X "range") (hm : X.mg "range" = none) (hg2 : Gl X (rgvName tup)) (hm2 : X.mg (rgvName tup) = none) (n : es.all notStar = true) (hl : es.length = 1 ∨ es.length = 2) (h : SEs X es ms) :
    SE X (.Call (.Name (rgvName tup) p) [.Call (.Name "range" p2) es [] q] [] pos) (rgvM tup ms) := by
  have key : ∀ {t : St → Hp → (Int → Int → Hp → Prop) → Prop}, PRg X (.Call (.Name "range" p2) es [] q) t → (∀ {σ : St} {H : Hp} {Q : Int → Int → Hp → Prop}, tOs X.K (opsM ms) σ H (fun vs H1 => ∃ a b, (vs = [.int b] ∧ a = 0 ∨ vs = [.int a, .int b]) ∧ Q a b H1) → t σ H Q) →
      SE X (.Call (.Name (rgvName tup) p) [.Call (.Name "range" p2) es [] q] [] pos) (rgvM tup ms) := fun {t} pr ht => by
    have fin : ∀ {σ : St} {H : Hp} {Q : VK}, tE X.K (rgvM tup ms).val σ H Q → t σ H fun a b H1 => RgOk a b ∧ ∀ q, H1 q = none → Q (.ref q) (upd H1 q (if tup then .tup (rgV a b) else .lst (rgV a b))) := fun {σ H Q} q => by
      refine ht ?_
      obtain ⟨O, env, ps, e1, w, h1, k⟩ := rgv_end q
      refine ⟨O, env, ps, e1, w, h1, fun O' H' vs st w' rp => ?_⟩
      obtain ⟨a, b, h2, h3, h4⟩ := k O' H' vs st w' rp
      exact ⟨a, b, h2, h3, h4⟩
    cases tup with
    | true => exact .ofVal rfl ((pe_tupRg hc hg2 hm2 pr).imp fun _ _ _ q => fin q)
    | false => exact .ofVal rfl ((pe_listRg hc hg2 hm2 pr).imp fun _ _ _ q => fin q)
  match es, ms, h, hl with
  | [e], [m], .cons h1 .nil, _ =>
    simp only [List.all_cons, Bool.and_eq_true] at n
    refine key (prg_1 hg hm h1.opd (star_of n.1)) fun {σ H Q} q => ?_
    obtain ⟨O, env, ps, env', w, e, k⟩ := q
    simp only [opsM, Option.bind_eq_some_iff, Option.map_eq_some_iff] at e
    obtain ⟨⟨d, e1⟩, g1, ⟨ds', e2⟩, g2, g3⟩ := e
    cases g2
    cases g3
    refine ⟨O, env, d, e1, w, g1, fun O1 H1 v1 st1 w1 r1 => ?_⟩
    obtain ⟨a, b, h2, h3⟩ := k O1 H1 [v1] st1 w1 ⟨v1, [], rfl, r1, rfl⟩
    rcases h2 with ⟨h2, rfl⟩ | h2
    · cases h2; exact ⟨b, rfl, h3⟩
    · cases h2
  | [e, e'], [m, m'], .cons h1 (.cons h2 .nil), _ =>
    simp only [List.all_cons, Bool.and_eq_true] at n
    refine key (prg_2 hg hm h1.opd h2.opd (star_of n.1) (star_of n.2.1) (any_star (by simp [n.2.1]))) fun {σ H Q} q => ?_
    obtain ⟨O, env, ps, env', w, e, k⟩ := q
    simp only [opsM, Option.bind_eq_some_iff, Option.map_eq_some_iff] at e
    obtain ⟨⟨d, e1⟩, g1, ⟨ds', e2⟩, ⟨⟨d2, e3⟩, g2, ⟨ds2, e4⟩, g4, g5⟩, g3⟩ := e
    cases g4
    cases g5
    cases g3
    refine ⟨O, env, d, e1, w, g1, fun O1 H1 v1 st1 w1 r1 => ⟨O1, e1, d2, e3, w1, g2, fun O2 H2 v2 st2 w2 r2 => ?_⟩⟩
    obtain ⟨a, b, h2, h3⟩ := k O2 H2 [v1, v2] (st1.trans st2 fun _ z => z) w2 ⟨v1, _, rfl, RepO.evo st2.evo r1, v2, [], rfl, r2, rfl⟩
    rcases h2 with ⟨h2, _⟩ | h2
    · cases h2
    · cases h2; exact ⟨a, b, rfl, rfl, h3⟩
  | [], _, _, hl => simp at hl
  | _ :: _ :: _ :: _, _, _, hl => simp at hl
/-! sorted(set(t)) -/
theorem se_sset {a : Expr} {ma : M} {p p2 q pos : Pos} (hc : X.calm = true) (hg : Gl X "sorted") (hm : X.mg "sorted" = none) (hg2 : Gl X "set") (hm2 : X.mg "set" = none) (n : notStar a = true) (h : SE X a ma) :
    SE X (.Call (.Name "sorted" p) [.Call (.Name "set" p2) [a] [] q] [] pos) (op1 ssetD ma) := by
  have p1 := pe_callTy (X := X) (pos := q) (p := p2) (cr_setT hc) hg2 hm2 PyProof.Rows.boot_set (pa_cons h.opd pa_nil (star_of n)) (by decide) (by decide) (star_of n) (any_star (by rfl))
  have p3 := pe_callB (X := X) (pos := pos) (p := p) (cr_sortedSet hc) hg hm PyProof.Rows.boot_sorted (pa_cons p1 pa_nil) (by decide) (by decide) (by rfl) (by rfl)
  refine .ofVal rfl (p3.imp fun σ H Q q => ?_)
  exact te_op1 (r := fun x H Q => rSetT X.K X.w [x] H fun v H2 => rSortedSet X.w [v] H2 Q) ho_sset q
/-! len(set(t)) -/
theorem se_lset {a : Expr} {ma : M} {p p2 q pos : Pos} (hc : X.calm = true) (hg : Gl X "len") (hm : X.mg "len" = none) (hg2 : Gl X "set") (hm2 : X.mg "set" = none) (n : notStar a = true) (h : SE X a ma) :
    SE X (.Call (.Name "len" p) [.Call (.Name "set" p2) [a] [] q] [] pos) (op1 lsetD ma) := by
  refine .ofVal rfl ((pe_lset (pos := pos) (p := p) (p2 := p2) (q := q) hc hg hm hg2 hm2 h.opd (star_of n)).imp fun σ H Q q => ?_)
  exact te_op1 (r := fun x H Q => rLSet X.K x H Q) ho_lset q
/-! s.upper() -/
theorem se_upper {o : Expr} {mo : M} {apos cpos : Pos} (h1 : SE X o mo) (ho : attributeBase o "upper" X.env (eval o X.env) = eval o X.env) (hline : (apos.endLine == cpos.line) = true) :
    SE X (.Call (.Attribute o "upper" apos) [] [] cpos) (upperM mo) := by
  refine .ofVal rfl ((pe_upper h1.opd ho hline).imp fun σ H Q q => ?_)
  obtain ⟨O, env, s, env', w, e, q⟩ := q
  simp only [Option.bind_eq_some_iff, Option.map_eq_some_iff] at e
  obtain ⟨⟨p, e1⟩, g1, x0, g2, e⟩ := e
  dsimp only at g2 e
  split at e
  case isFalse => cases e
  simp only [Option.map_eq_some_iff] at e
  obtain ⟨res, g3, g4⟩ := e
  cases g4
  refine ⟨O, env, p, env', w, g1, fun O1 H1 v st1 w1 rp1 => ?_⟩
  have r := RepO.get w1 rp1 g2
  have q3 : RP X.K O1 H1 s Q := RP.end_ w1 fun O3 H3 v3 st3 wr => q O3 H3 v3 (st1.trans st3 fun _ z => z) wr
  cases x0 with
  | str a =>
    have e2 := r.str
    subst e2
    simp only [upperD] at g3
    split at g3
    · rename_i hl
      cases g3
      exact ⟨⟨a, rfl⟩, a, rfl, rfl, hl, q3.same w1.own (by simp only [RepD])⟩
    · cases g3
  | _ => cases g3
/-! x.pop() -/
theorem se_pop {x : Nat} {n : Str} {p apos cpos : Pos} (hN : X.N[x]? = some n) (hv : Vis X.env.scope n) (hd : (n == ("__debug__" : Str)) = false) (hcd : (n == ("__classdict__" : Str)) = false)
    (hbase : attributeBase (.Name n p) "pop" X.env (eval (.Name n p) X.env) = eval (.Name n p) X.env) (hline : (apos.endLine == cpos.line) = true) : SE X (.Call (.Attribute (.Name n p) "pop" apos) [] [] cpos) (popM x) :=
  .ofVal rfl ((pe_bm0 PySem.F.plainAttrs_list PySem.F.slot_list_pop PySem.F.type_list_pop mt_pop (pe_slot hN hv hd hcd) hbase hline).imp fun σ H Q q => by
  obtain ⟨O, env, s, env', w, e, q⟩ := q
  dsimp only at e
  split at e
  case h_2 => cases e
  rename_i xs g1
  split at e
  case h_2 => cases e
  rename_i d g2
  cases e
  rcases w.rep x _ g1 with z | ⟨v, sx, r⟩
  · cases z
  obtain ⟨a, vs, rfl, h1, h2, h3⟩ := id r
  have hl := h3.length
  have gl : xs[xs.length - 1]? = some d := by rw [← g2]; exact List.getLast?_eq_getElem?.symm
  obtain ⟨y, g3, g4⟩ := h3.get gl
  refine ⟨.ref a, sx, .inl ⟨rfl, vs, SqL.of h1⟩, a, vs, y, rfl, rfl, h1, by rw [← hl]; exact g3, ?_⟩
  have rd : RepDs X.K O H xs.dropLast vs.dropLast := by
    rw [List.dropLast_eq_take, List.dropLast_eq_take, hl]; exact h3.take _
  obtain ⟨w3, st3⟩ := w.write g1 a sx rd
  exact q O _ y (st3.sub fun b f => f.elim id fun z => z.elim) ⟨w3, RepD.evo st3.evo _ _ g4, fun b f => f.elim⟩)
/-! methods of lists, with one argument -/
def mtName : Mt → Str
  | .index => "index"
def attOk : Expr → Bool
  | .Call _ [] [] _ => false
  | _ => true
theorem att_ok {o : Expr} {name : Str} {env : PySem.Env} (h : attOk o = true) : attributeBase o name env (eval o env) = eval o env := by
  unfold attributeBase
  cases o with
  | Call g es kw p =>
    cases g <;> cases es <;> cases kw <;> first | rfl | cases h
  | _ => rfl
def rMt (K : PySem.W.Frag) : Mt → V → List V → Hp → VK → Prop
  | .index => rIndexD K
theorem idxOf_some : ∀ {d : D} {xs : List D} {k n : Nat}, idxOf d xs k = some n → ∃ j z, n = k + j ∧ xs[j]? = some z ∧ PyData.eqv z d = true ∧ ∀ (m : Nat) (z' : D), m < j → xs[m]? = some z' → PyData.eqv z' d = false
  | d, [], k, n, h => by cases h
  | d, x :: xs, k, n, h => by
    simp only [idxOf] at h
    split at h
    · rename_i hx
      cases h
      exact ⟨0, x, rfl, rfl, hx, fun m z' hm => by omega⟩
    · rename_i hx
      obtain ⟨j, z, e, h1, h2, h3⟩ := idxOf_some h
      refine ⟨j + 1, z, by omega, by simpa using h1, h2, fun m z' hm hz => ?_⟩
      cases m with
      | zero => have : x = z' := by simpa using hz
                subst this; simpa using hx
      | succ m => exact h3 m z' (by omega) (by simpa using hz)
theorem se_mth {k : Nat} {m : Mt} {o e : Expr} {mo me : M} {apos cpos : Pos} (hr : Room k X.A) (ho : attOk o = true) (n : notStar e = true) (hline : (apos.endLine == cpos.line) = true) (h1 : SE X o mo) (h2 : SE X e me) :
    SE X (.Call (.Attribute o (mtName m) apos) [e] [] cpos) (mthM m mo me) := by
  have hu : X.A.units + 65 < cLine := by have := hr.un; omega
  have hfew : ((backTo cpos (starEach [e] X.env)).all (fun x => !x.1) && (backToKw cpos (keywordEach [] X.env)).all (fun x => x.1.isSome) && decide (([e] : List Expr).length + ([] : List Keyword).length + (if ([] : List Keyword).isEmpty then 0 else 1) < 30)) = true := by
    rw [star_of n]; rfl
  have pe : PE X (.Call (.Attribute o (mtName m) apos) [e] [] cpos) (tBM X.K "list" (rMt X.K m) (tO X.K mo.opd) (tCons (tO X.K me.opd) tNil)) := by
    cases m
    exact pe_bm PySem.F.plainAttrs_list PySem.F.slot_list_index PySem.F.type_list_index (mt_indexD hu) h1.opd (pa_cons h2.opd pa_nil (star_of n)) (att_ok ho) hfew hline (star_of n) rfl
  refine .ofVal rfl (pe.imp fun σ H Q q => ?_)
  obtain ⟨O, env, s, env', w, e, q⟩ := q
  simp only [Option.bind_eq_some_iff, Option.map_eq_some_iff] at e
  obtain ⟨⟨p, e1⟩, g1, x0, g2, e⟩ := e
  dsimp only at g2 e
  split at e
  case isFalse => cases e
  rename_i hl
  simp only [Option.bind_eq_some_iff, Option.map_eq_some_iff] at e
  obtain ⟨⟨p2, e2⟩, g3, x, g4, y, g5, res, g6, g7⟩ := e
  cases g7
  refine ⟨O, env, p, e1, w, g1, fun O1 H1 v st1 w1 rp1 => ⟨?_, O1, e1, p2, e2, w1, g3, fun O2 H2 v2 st2 w2 rp2 => ?_⟩⟩
  · have r := RepO.get w1 rp1 g2
    cases x0 with
    | list xs =>
      obtain ⟨a, us, rfl, h5, h6⟩ := r.list
      exact .inl ⟨rfl, us, SqL.of h5⟩
    | _ => cases hl
  · have rx := RepO.get w2 (RepO.evo st2.evo rp1) g4
    have ry := RepO.get w2 rp2 g5
    have q3 : RP X.K O2 H2 s Q := RP.end_ w2 fun O3 H3 v3 st3 wr => q O3 H3 v3 ((st1.trans st2 fun _ z => z).trans st3 fun _ z => z) wr
    cases m
    cases x with
    | list xs =>
      simp only [mthD] at g6
      split at g6
      case isFalse => cases g6
      rename_i hs
      simp only [Option.map_eq_some_iff] at g6
      obtain ⟨n, h7, h8⟩ := g6
      subst h8
      obtain ⟨j, z, e, i1, i2, i3⟩ := idxOf_some h7
      have ej : n = j := by omega
      subst ej
      obtain ⟨a, us, rfl, h5, h6⟩ := rx.list
      exact ⟨a, v2, y, xs, n, z, rfl, rfl, rx.dp, ry.dp, hs.1, hs.2, i1, i2, i3, q3.same w2.own (by simp only [RepD])⟩
    | _ => cases g6
end
end Mini

namespace Mini
open PySem PySem.Spec L2 PySem.W
section
variable {K : PySem.W.Frag} {O O' : Own} {H H' : Hp} {env : En} {σ : St} {i : Nat}
/-- an owned thing changed in place -/
theorem W.over {s t : Sl} {u : HO} {a : Addr} (w : W K O H env σ) (e : env[i]? = some s) (es : σ[i]? = some (some (.ref a))) (ho : O a) (hs : ∀ H, Fp H s (.ref a) a) (ht : ∀ H b, Fp H t (.ref a) b → b = a) (hu : OwnO u)
    (r : Evo O H O (upd H a u) → RepS K O (upd H a u) t (.ref a)) : W K O (upd H a u) (env.set i t) σ ∧ Step O H (FpE H env σ) O (upd H a u) (FpE (upd H a u) (env.set i t) σ) := by
  have ev : Evo O H O (upd H a u) := ⟨w.own, fun b o q n => by rw [upd_ne (fun z => n (by rw [z]; exact ho))]; exact q, fun b z => .inl z, fun b z => by
    by_cases hb : b = a
    · rw [hb, upd_same]; exact Option.some_ne_none _
    · rw [upd_ne hb]; exact z⟩
  have own' : OwnOk O (upd H a u) := fun b z => by
    by_cases hb : b = a
    · rw [hb]; exact ⟨_, upd_same, hu⟩
    · rw [upd_ne hb]; exact w.own b z
  have st : Step O H (Fp H s (.ref a)) O (upd H a u) (Fp (upd H a u) t (.ref a)) :=
    ⟨ev, own', fun b z n => ⟨z, upd_ne fun q => n (by rw [q]; exact hs H)⟩, fun b f => .inl (by rw [ht _ _ f]; exact hs H)⟩
  exact w.put st e es (r ev)
theorem any_keys {α κ : Type} [DecidableEq α] [DecidableEq κ] {f : α → κ} (hf : ∀ a b, f a = f b → a = b) (k : α) : ∀ {us : List (κ × V)} {kvs : List (α × D)}, us.map (·.1) = kvs.map (fun p => f p.1) → (us.any fun kv => decide (kv.1 = f k)) = kvs.any fun kv => decide (kv.1 = k)
  | [], [], _ => rfl
  | [], _ :: _, e => by simp at e
  | _ :: _, [], e => by simp at e
  | u :: us, p :: kvs, e => by
    rw [List.map_cons, List.map_cons] at e
    injection e with e1 e2
    rw [List.any_cons, List.any_cons, any_keys hf k e2]
    congr 1
    by_cases h : p.1 = k
    · rw [decide_eq_true h, decide_eq_true (by rw [e1, h])]
    · rw [decide_eq_false h, decide_eq_false (fun z => h (hf _ _ (e1.symm.trans z)))]
theorem put_rep {α κ : Type} [DecidableEq α] [DecidableEq κ] {f : α → κ} (hf : ∀ a b, f a = f b → a = b) (k : α) {d : D} {v : V} (rd : RepD K O H d v) : ∀ {us : List (κ × V)} {kvs : List (α × D)}, us.map (·.1) = kvs.map (fun p => f p.1) → RepDs K O H (kvs.map (·.2)) (us.map (·.2)) →
    (us.map fun kv => if kv.1 = f k then (kv.1, v) else kv).map (·.1) = (kvs.map fun kv => if kv.1 = k then (kv.1, d) else kv).map (fun p => f p.1) ∧ RepDs K O H ((kvs.map fun kv => if kv.1 = k then (kv.1, d) else kv).map (·.2)) ((us.map fun kv => if kv.1 = f k then (kv.1, v) else kv).map (·.2))
  | [], [], _, _ => ⟨rfl, by simp [RepDs]⟩
  | [], _ :: _, e, _ => by simp at e
  | _ :: _, [], e, _ => by simp at e
  | u :: us, p :: kvs, e, r => by
    rw [List.map_cons, List.map_cons] at e
    injection e with e1 e2
    rw [List.map_cons, List.map_cons] at r
    simp only [RepDs] at r
    obtain ⟨v0, r0, ez, h1, h2⟩ := r
    injection ez with ez1 ez2
    subst ez1 ez2
    obtain ⟨i1, i2⟩ := put_rep hf k rd e2 h2
    simp only [List.map_cons, RepDs]
    by_cases h : p.1 = k
    · have h' : u.1 = f k := by rw [e1, h]
      rw [if_pos h, if_pos h']
      exact ⟨by rw [i1, e1], _, _, rfl, rd, i2⟩
    · have h' : ¬ u.1 = f k := fun z => h (hf _ _ (e1.symm.trans z))
      rw [if_neg h, if_neg h']
      exact ⟨by rw [i1, e1], _, _, rfl, h1, i2⟩
theorem putD_rep {α κ : Type} [DecidableEq α] [DecidableEq κ] {f : α → κ} (hf : ∀ a b, f a = f b → a = b) {us : List (κ × V)} {kvs : List (α × D)} (k : α) {d : D} {v : V} (e : us.map (·.1) = kvs.map (fun p => f p.1)) (r : RepDs K O H (kvs.map (·.2)) (us.map (·.2))) (rd : RepD K O H d v) :
    (putK us (f k) v).map (·.1) = (putD kvs k d).map (fun p => f p.1) ∧ RepDs K O H ((putD kvs k d).map (·.2)) ((putK us (f k) v).map (·.2)) := by
  unfold putK putD
  rw [any_keys hf k e]
  by_cases h : (kvs.any fun kv => decide (kv.1 = k)) = true
  · rw [if_pos h, if_pos h]; exact put_rep hf k rd e r
  · rw [if_neg h, if_neg h, List.map_append, List.map_append, List.map_append, List.map_append, e]
    exact ⟨rfl, r.append (by simp only [List.map_cons, List.map_nil, RepDs]; exact ⟨v, [], rfl, rd, rfl⟩)⟩
theorem Step.more (own : OwnOk O H) (g : ∀ b o, H b = some o → H' b = some o) : Step O H F0 O H' F0 :=
  ⟨⟨own, fun b o e _ => g b o e, fun b e => .inl e, fun b n => by
    cases q : H b with
    | none => exact absurd q n
    | some u => rw [g b u q]; exact Option.some_ne_none _⟩, fun b e => by obtain ⟨u, q, hw⟩ := own b e; exact ⟨u, g b u q, hw⟩, fun b e _ => by obtain ⟨u, q, _⟩ := own b e; exact ⟨e, by rw [q]; exact g b u q⟩, fun _ e => e.elim⟩
theorem inl_inj (a b : Int) (h : (Sum.inl a : L2.Key) = Sum.inl b) : a = b := by injection h
theorem map_inl_inj : ∀ (a b : List Int), a.map (Sum.inl : Int → L2.Key) = b.map Sum.inl → a = b
  | [], [], _ => rfl
  | [], _ :: _, e => by simp at e
  | _ :: _, [], e => by simp at e
  | x :: a, y :: b, e => by
    rw [List.map_cons, List.map_cons] at e
    injection e with e1 e2
    injection e1 with e1
    rw [e1, map_inl_inj a b e2]
end
section
variable {X : Cx} {fz : List Nat} {pos : Pos}
/-- {} -/
theorem se_dnew (t : Bool) : SE X (.Dict [] [] pos) (dnewM t) := by
  cases t with
  | true =>
    refine .ofVal rfl (pe_dnewT.imp fun σ H Q q p hp => ?_)
    obtain ⟨O, env, s, env', w, e, q⟩ := q
    cases e
    have st : Step O H F0 (fun b => O b ∨ b = p) (upd H p (.dT [])) (fun b => Fp (upd H p (.dT [])) (.dt []) (.ref p) b) := by
      have n := OwnOk.new (o := .dT []) w.own hp
      refine ⟨⟨w.own, n.evo.keepH, fun b e => ?_, n.evo.there⟩, fun b e => ?_, fun b e f => ⟨.inl e, (n.keepO b e f).2⟩, fun b e => ?_⟩
      · rcases e with e | rfl
        · exact .inl e
        · exact .inr hp
      · rcases e with e | rfl
        · exact n.own b e
        · exact ⟨_, upd_same, .t []⟩
      · cases e; exact .inr hp
    exact RP.end_ w q _ _ _ st ⟨p, [], rfl, upd_same, .inr rfl, rfl, by simp [RepDs]⟩
  | false =>
    refine .ofVal rfl (pe_dnewK.imp fun σ H Q q p hp => ?_)
    obtain ⟨O, env, s, env', w, e, q⟩ := q
    cases e
    have st : Step O H F0 (fun b => O b ∨ b = p) (upd H p (.dK [])) (fun b => Fp (upd H p (.dK [])) (.dk []) (.ref p) b) := by
      have n := OwnOk.new (o := .dK []) w.own hp
      refine ⟨⟨w.own, n.evo.keepH, fun b e => ?_, n.evo.there⟩, fun b e => ?_, fun b e f => ⟨.inl e, (n.keepO b e f).2⟩, fun b e => ?_⟩
      · rcases e with e | rfl
        · exact .inl e
        · exact .inr hp
      · rcases e with e | rfl
        · exact n.own b e
        · exact ⟨_, upd_same, .k []⟩
      · cases e; exact .inr hp
    exact RP.end_ w q _ _ _ st ⟨p, [], rfl, upd_same, .inr rfl, rfl, by simp [RepDs]⟩
theorem CallR.or2 {f : Value} {r r' : List V → Hp → VK → Prop} (a : CallR X f r) (b : CallR X f r') : CallR X f (fun vs H Q => r vs H Q ∨ r' vs H Q) := fun pins s σ H xs us Q I rv h => h.elim (a pins s σ H xs us Q I rv) (b pins s σ H xs us Q I rv)
theorem sort_ends {V' : Type} (f : V' → D) (ps : List V') : (ps.map f).mergeSort (dataLe false fun x : D => x) = (ps.mergeSort (dataLe false f)).map f :=
  (List.map_mergeSort (f := f) (r := dataLe false f) (s := dataLe false fun x : D => x) fun a _ b _ => rfl).symm
/-- sorted(d) -/
theorem se_dsrt {x : Nat} {n : Str} {p p2 : Pos} (hu : X.A.units + 65 < cLine) (hc : X.calm = true) (hg : Gl X "sorted") (hm : X.mg "sorted" = none) (hN : X.N[x]? = some n) (hv : Vis X.env.scope n) (hd : (n == ("__debug__" : Str)) = false) (hcd : (n == ("__classdict__" : Str)) = false) :
    SE X (.Call (.Name "sorted" p) [.Name n p2] [] pos) (dsrtM x) := by
  have p3 := pe_callB (X := X) (pos := pos) (p := p) (CallR.or2 (cr_sortK hc hu) (cr_sortTK hc hu)) hg hm PyProof.Rows.boot_sorted (pa_cons (pe_slot (p := p2) hN hv hd hcd) pa_nil (star_of rfl)) (by decide) (by decide) (star_of rfl) (any_star rfl)
  refine .ofVal rfl (p3.imp fun σ H Q q => ?_)
  obtain ⟨O, env, s, env', w, e, q⟩ := q
  dsimp only at e
  split at e
  · rename_i kvs g1
    obtain ⟨r, e1, e2⟩ := Option.map_eq_some_iff.mp e
    cases e2
    unfold sortOf at e1
    split at e1
    case isFalse => cases e1
    rename_i c
    obtain ⟨c1, c2, c3⟩ := c
    cases e1
    rcases w.rep x _ g1 with z | ⟨v, s1, rb⟩
    · cases z
    obtain ⟨a, us, rfl, h1, h2, h3, h4⟩ := rb
    have q3 := RP.end_ w q
    refine ⟨.ref a, s1, .inl ⟨a, us, kvs.map (fun p : Int × D => p.1), rfl, h1, by rw [h3, List.map_map]; rfl, c1, c2, c3, fun ps l e5 hp hl => ?_⟩⟩
    rw [← e5, sort_ends] at q3
    exact q3.lst w.own (reps_all fun p hp2 => hp p (List.mem_mergeSort.mp hp2) _ _) l hl
  · rename_i kvs g1
    obtain ⟨r, e1, e2⟩ := Option.map_eq_some_iff.mp e
    cases e2
    unfold sortOf at e1
    split at e1
    case isFalse => cases e1
    rename_i c
    obtain ⟨c1, c2, c3⟩ := c
    cases e1
    rcases w.rep x _ g1 with z | ⟨v, s1, rb⟩
    · cases z
    obtain ⟨a, us, rfl, h1, h2, h3, h4⟩ := rb
    have q3 := RP.end_ w q
    refine ⟨.ref a, s1, .inr ⟨a, us, kvs.map (fun p : List Int × D => p.1), rfl, h1, by rw [h3, List.map_map]; rfl, c1, c2, c3, fun ps l e5 hp hl => ?_⟩⟩
    rw [← e5, sort_ends] at q3
    exact q3.lst w.own (reps_tup fun p hp2 => hp p (List.mem_mergeSort.mp hp2)) l hl
  · cases e
/-- sorted(d.items()) -/
theorem se_ditm {x : Nat} {n : Str} {p p2 apos cpos : Pos} (hu : X.A.units + 65 < cLine) (hc : X.calm = true) (hg : Gl X "sorted") (hm : X.mg "sorted" = none) (hN : X.N[x]? = some n) (hv : Vis X.env.scope n) (hd : (n == ("__debug__" : Str)) = false) (hcd : (n == ("__classdict__" : Str)) = false)
    (hbase : attributeBase (.Name n p2) "items" X.env (eval (.Name n p2) X.env) = eval (.Name n p2) X.env) (hline : (apos.endLine == cpos.line) = true) :
    SE X (.Call (.Name "sorted" p) [.Call (.Attribute (.Name n p2) "items" apos) [] [] cpos] [] pos) (ditmM x) := by
  have p1 := pe_bm0 (X := X) PySem.F.plainAttrs_dict PySem.F.slot_dict_items PySem.F.type_dict_items mt_itemsK (pe_slot (p := p2) hN hv hd hcd) hbase hline
  have p3 := pe_callB (X := X) (pos := pos) (p := p) (cr_sortI hc hu) hg hm PyProof.Rows.boot_sorted (pa_cons p1 pa_nil (star_of rfl)) (by decide) (by decide) (star_of rfl) (any_star rfl)
  refine .ofVal rfl (p3.imp fun σ H Q q => ?_)
  obtain ⟨O, env, s, env', w, e, q⟩ := q
  dsimp only at e
  split at e
  case h_2 => cases e
  rename_i kvs g1
  obtain ⟨r, e1, e2⟩ := Option.map_eq_some_iff.mp e
  cases e2
  unfold sortOf at e1
  split at e1
  case isFalse => cases e1
  rename_i c
  obtain ⟨c1, c2, c3⟩ := c
  cases e1
  rcases w.rep x _ g1 with z | ⟨v, s1, rb⟩
  · cases z
  obtain ⟨a, us, rfl, h1, h2, h3, h4⟩ := rb
  have q3 := RP.end_ w q
  have zip : ∀ {us : List (L2.Key × V)} {kvs : List (Int × D)}, us.map (·.1) = kvs.map (fun p => Sum.inl p.1) → RepDs X.K O H (kvs.map (·.2)) (us.map (·.2)) → ∃ ts : List (Int × V × D), us = ts.map (fun u => (Sum.inl u.1, u.2.1)) ∧ kvs = ts.map (fun u => (u.1, u.2.2)) ∧ ∀ u ∈ ts, RepD X.K O H u.2.2 u.2.1 := by
    intro us
    induction us with
    | nil => intro kvs e r; cases kvs with
      | nil => exact ⟨[], rfl, rfl, by simp⟩
      | cons _ _ => simp at e
    | cons u us ih => intro kvs e r; cases kvs with
      | nil => simp at e
      | cons p kvs =>
        rw [List.map_cons, List.map_cons] at e r
        injection e with e1 e2
        simp only [RepDs] at r
        obtain ⟨v0, r0, ez, k1, k2⟩ := r
        injection ez with ez1 ez2
        subst ez1 ez2
        obtain ⟨ts, t1, t2, t3⟩ := ih e2 k2
        refine ⟨(p.1, u.2, p.2) :: ts, by rw [List.map_cons, ← t1, ← e1], by rw [List.map_cons, ← t2], fun y hy => ?_⟩
        rcases List.mem_cons.mp hy with rfl | hy
        · exact k1
        · exact t3 y hy
  obtain ⟨ts, rfl, rfl, h5⟩ := zip h3 h4
  have eD : ((ts.map fun u => (u.1, u.2.2)).map fun p : Int × D => (PyData.tuple [.int p.1, p.2] : D)) = ts.map fun u => itmD (u.1, u.2.2) := by rw [List.map_map]; rfl
  rw [eD] at c1 c2 c3 q3
  · refine ⟨.ref a, s1, .inr (.inr (.inl ⟨rfl, .inl ⟨_, h1⟩⟩)), a, _, rfl, rfl, h1, fun p hp => ?_⟩
    · have st1 := OwnOk.new (o := L2.DX.itemsO p a) w.own hp
      have ha : a ≠ p := fun z => by rw [z, hp] at h1; cases h1
      refine ⟨p, a, ts, rfl, upd_same, by rw [upd_ne ha]; exact h1, fun u hu2 H1 g => RepD.dp _ _ (RepD.evo (st1.trans (Step.more st1.own g) fun _ z => z).evo _ _ (h5 u hu2)), c1, c2, fun u hu2 => c3 _ (List.mem_map.mpr ⟨u, hu2, rfl⟩), fun H1 ps l g e5 hp2 hl => ?_⟩
      have st2 := st1.trans (Step.more st1.own g) fun _ z => z
      have q4 : RP X.K O H1 _ Q := fun O' H' v st3 r => q3 O' H' v (st2.trans st3 fun _ z => z) r
      rw [← e5, List.map_map] at q4
      have e6 := sort_ends (fun q : V × Int × V × D => itmD (q.2.1, q.2.2.2)) ps
      have e7 : ((fun u : Int × V × D => itmD (u.1, u.2.2)) ∘ fun x : V × Int × V × D => x.2) = fun q : V × Int × V × D => itmD (q.2.1, q.2.2.2) := rfl
      rw [e7, e6] at q4
      refine q4.lst st2.own ?_ l hl
      have : ∀ {zs : List (V × Int × V × D)}, (∀ q ∈ zs, RepD X.K O H1 (itmD (q.2.1, q.2.2.2)) q.1) → RepDs X.K O H1 (zs.map fun q => itmD (q.2.1, q.2.2.2)) (zs.map (·.1)) := by
        intro zs
        induction zs with
        | nil => intro _; simp [RepDs]
        | cons z zs ih =>
          intro h
          simp only [List.map_cons, RepDs]
          exact ⟨_, _, rfl, h z List.mem_cons_self, ih fun q hq => h q (List.mem_cons_of_mem _ hq)⟩
      refine this fun q hq => ?_
      have hq := List.mem_mergeSort.mp hq
      obtain ⟨b, eb, hb⟩ := hp2 q hq
      rw [eb]
      simp only [itmD, RepD]
      refine ⟨b, _, rfl, SqT.of hb, ?_⟩
      simp only [RepDs, RepD]
      exact ⟨_, _, rfl, rfl, _, _, rfl, RepD.evo st2.evo _ _ (h5 _ (by rw [← e5]; exact List.mem_map.mpr ⟨q, hq, rfl⟩)), rfl⟩
/-! d[k] = e -/
def dputO (x : Nat) (k e : M) (env : En) : Option Out := (frzM e.val env).bind fun (d, e1) => if isDk e1[x]? then (k.opd e1).bind fun (p, e2) => (p.get e2).bind fun kd => dputS x kd d e2 else none
def dputTO (x : Nat) (ks : List M) (e : M) (env : En) : Option Out := (frzM e.val env).bind fun (d, e1) => if isDt e1[x]? then (argsM ks e1).bind fun (ds, e2) => dputTS x ds d e2 else none
theorem isDk_slot {K : PySem.W.Frag} {O : Own} {H : Hp} {env : En} {σ : St} {x : Nat} (w : W K O H env σ) (h : isDk env[x]? = true) : ∃ a, σ[x]? = some (some (.ref a)) := by
  cases e : env[x]? with
  | none => rw [e] at h; cases h
  | some s =>
    cases s with
    | dk xs =>
      rcases w.rep x _ e with z | ⟨v, h1, h2⟩
      · cases z
      · obtain ⟨a, vs, rfl, h3, _⟩ := h2
        exact ⟨a, h1⟩
    | _ => rw [e] at h; cases h
theorem isDt_slot {K : PySem.W.Frag} {O : Own} {H : Hp} {env : En} {σ : St} {x : Nat} (w : W K O H env σ) (h : isDt env[x]? = true) : ∃ a, σ[x]? = some (some (.ref a)) := by
  cases e : env[x]? with
  | none => rw [e] at h; cases h
  | some s =>
    cases s with
    | dt xs =>
      rcases w.rep x _ e with z | ⟨v, h1, h2⟩
      · cases z
      · obtain ⟨a, vs, rfl, h3, _⟩ := h2
        exact ⟨a, h1⟩
    | _ => rw [e] at h; cases h
theorem ss_dput {x : Nat} {n : Str} {p spos : Pos} {ie e : Expr} {mi me : M} (hu : X.A.units + 65 < cLine) (hN : X.N[x]? = some n) (hv : Vis X.env.scope n) (hd : (n == ("__debug__" : Str)) = false) (hcd : (n == ("__classdict__" : Str)) = false) (hi : SE X ie mi) (he : SE X e me)
    (hs : swapsWith e (some (.Subscript (.Name n p) ie spos)) pos.line X.env = pure false) :
    SS X fz (.Assign [.Subscript (.Name n p) ie spos] e pos) (dputO x mi me) := ⟨(ps_dput (by omega) (pe_slot hN hv hd hcd) hi.opd he.d hs).imp fun D σ H q => by
  obtain ⟨O, env, out, w, e, k⟩ := q
  simp only [dputO, Option.bind_eq_some_iff] at e
  obtain ⟨⟨d, e1⟩, h1, e⟩ := e
  split at e
  case isFalse => cases e
  rename_i hL
  simp only [Option.bind_eq_some_iff] at e
  obtain ⟨⟨p, e2⟩, h2, kd, h3, h4⟩ := e
  refine ⟨O, env, d, e1, w, h1, fun O1 H1 v1 st1 w1 rd => ?_⟩
  obtain ⟨a, sx⟩ := isDk_slot w1 hL
  refine ⟨.ref a, sx, O1, e1, p, e2, w1, h2, fun O2 H2 v2 st2 w2 rp => ?_⟩
  simp only [dputS] at h4
  split at h4
  case h_2 => cases h4
  rename_i kvs m g1
  split at h4
  case isFalse => cases h4
  rename_i hl
  cases h4
  have hi := (RepO.get w2 rp h3).int
  subst hi
  rcases w2.rep x _ g1 with z | ⟨v, s1, rb⟩
  · cases z
  rw [sx] at s1
  cases s1
  obtain ⟨a', us, z, i1, i2, i3, i4⟩ := rb
  cases z
  have hlen : us.length = kvs.length := by have := congrArg List.length i3; rw [List.length_map, List.length_map] at this; exact this
  obtain ⟨w3, st3⟩ := w2.over (t := .dk (putD kvs m d)) (u := .dK (putK us (Sum.inl m) v1)) g1 sx i2 (fun _ => rfl) (fun _ b f => by cases f; rfl) (.k _) fun ev => by
    obtain ⟨j1, j2⟩ := putD_rep (K := X.K) (O := O2) (H := upd H2 a (.dK (putK us (Sum.inl m) v1))) inl_inj m i3 (RepDs.evo ev _ _ i4) (RepD.evo ev _ _ (RepD.evo st2.evo _ _ rd))
    exact ⟨a, _, rfl, upd_same, i2, j1, j2⟩
  exact ⟨a, _, rfl, DPut.k (k := Sum.inl m) i1 (by omega), k O2 _ σ ((st1.trans st2 fun _ z => z).trans st3 fun _ z => z) w3 .refl⟩⟩
theorem ss_dputT {x kk : Nat} {n : Str} {p spos tpos : Pos} {es : List Expr} {ms : List M} {e : Expr} {me : M} (hu : X.A.units + 65 < cLine) (hN : X.N[x]? = some n) (hv : Vis X.env.scope n) (hd : (n == ("__debug__" : Str)) = false) (hcd : (n == ("__classdict__" : Str)) = false) (hn : es.all notStar = true) (hi : SEs X es ms) (he : SE X e me)
    (hs : swapsWith e (some (.Subscript (.Name n p) (.Tuple es kk tpos) spos)) pos.line X.env = pure false) :
    SS X fz (.Assign [.Subscript (.Name n p) (.Tuple es kk tpos) spos] e pos) (dputTO x ms me) := ⟨(ps_dput (by omega) (pe_slot hN hv hd hcd) (L2.pe_tup (pa_args hn hi)) he.d hs).imp fun D σ H q => by
  obtain ⟨O, env, out, w, e, k⟩ := q
  simp only [dputTO, Option.bind_eq_some_iff] at e
  obtain ⟨⟨d, e1⟩, h1, e⟩ := e
  split at e
  case isFalse => cases e
  rename_i hL
  simp only [Option.bind_eq_some_iff] at e
  obtain ⟨⟨ds, e2⟩, h2, h4⟩ := e
  refine ⟨O, env, d, e1, w, h1, fun O1 H1 v1 st1 w1 rd => ?_⟩
  obtain ⟨a, sx⟩ := isDt_slot w1 hL
  refine ⟨.ref a, sx, O1, e1, ds, e2, w1, h2, fun O2 H2 vs st2 w2 rp => ?_⟩
  simp only [dputTS] at h4
  split at h4
  case h_2 => cases h4
  rename_i kvs ns g1 g2
  split at h4
  case isFalse => cases h4
  rename_i hl
  cases h4
  have hi := rp.intsOf g2
  subst hi
  refine ⟨by rw [List.length_map]; exact hl.2, fun b hb => ?_⟩
  have n1 := OwnOk.new (o := .tup (ns.map V.int)) w2.own hb
  obtain ⟨w3, kf⟩ := w2.keep n1
  have n2 : Step O2 H2 (FpE H2 e2 σ) O2 (upd H2 b (.tup (ns.map V.int))) (FpE (upd H2 b (.tup (ns.map V.int))) e2 σ) := ⟨n1.evo, n1.own, fun c o _ => n1.keepO c o id, fun c f => .inl (kf c f)⟩
  rcases w3.rep x _ g1 with z | ⟨v, s1, rb⟩
  · cases z
  rw [sx] at s1
  cases s1
  obtain ⟨a', us, z, i1, i2, i3, i4⟩ := rb
  cases z
  have hlen : us.length = kvs.length := by have := congrArg List.length i3; rw [List.length_map, List.length_map] at this; exact this
  have ek : (ns.map (Sum.inl : Int → L2.Key)).map kV = ns.map V.int := by rw [List.map_map]; rfl
  obtain ⟨w4, st4⟩ := w3.over (t := .dt (putD kvs ns d)) (u := .dT (putK us (ns.map Sum.inl) v1)) g1 sx i2 (fun _ => rfl) (fun _ b f => by cases f; rfl) (.t _) fun ev => by
    obtain ⟨j1, j2⟩ := putD_rep (K := X.K) (O := O2) (H := upd (upd H2 b (.tup (ns.map V.int))) a (.dT (putK us (ns.map Sum.inl) v1))) map_inl_inj ns i3 (RepDs.evo ev _ _ i4) (RepD.evo ev _ _ (RepD.evo n1.evo _ _ (RepD.evo st2.evo _ _ rd)))
    exact ⟨a, _, rfl, upd_same, i2, j1, j2⟩
  exact ⟨a, _, rfl, DPut.t (k := ns.map Sum.inl) i1 (by rw [ek]; exact upd_same) (by omega), k O2 _ σ (((st1.trans st2 fun _ z => z).trans n2 fun _ z => z).trans st4 fun _ z => z) w4 .refl⟩⟩
end
end Mini

namespace Mini
open PySem PySem.Spec L2
/-! own functions -/
/-- what is told of the arguments behind a call: the box alone -/
def wb : En → En → En
  | .bx _ _ :: r, .bx cs rs :: _ => .bx cs rs :: r.map fun _ => .no
  | as, _ => as.map fun _ => .no
/-- the promise of function f: whatever P answers, the call answers -/
def spF (K : PySem.W.Frag) (P : Ph) (f : Nat) : Sp := fun vs H Q _ => ∃ O as r as', W K O H as (vs.map some) ∧ P f as = some (r, as') ∧
  ∀ O' H' v, Step O H (FpE H as (vs.map some)) O' H' (FpR H' (wb as as') (vs.map some) r v) → WR K O' H' (wb as as') (vs.map some) r v → Q v H'
section
variable {K : PySem.W.Frag} {O O' : Own} {H H' : Hp} {env : En} {σ : St}
theorem getSome {vs : List V} {i : Nat} : (vs.map some)[i]? = (vs[i]?).map some := List.getElem?_map
theorem rep_at {ds : List D} {vs : List V} (r : RepDs K O H ds vs) {i : Nat} {s : Sl} (e : (ds.map Sl.v)[i]? = some s) : ∃ d v, s = .v d ∧ vs[i]? = some v ∧ RepD K O H d v := by
  rw [List.getElem?_map] at e
  cases h : ds[i]? with
  | none => rw [h] at e; cases e
  | some d =>
    rw [h] at e; cases e
    obtain ⟨v, h1, h2⟩ := r.get h
    exact ⟨d, v, rfl, h1, h2⟩
/-- plain arguments stand -/
theorem W.ofArgs {ds : List D} {vs : List V} (own : OwnOk O H) (r : RepDs K O H ds vs) : W K O H (ds.map .v) (vs.map some) ∧ ∀ b, ¬ FpE H (ds.map .v) (vs.map some) b := by
  have no : ∀ (i : Nat) (s : Sl) (v : V) (b : Addr), (ds.map Sl.v)[i]? = some s → Fp H s v b → False := fun i s v b e f => by
    obtain ⟨d, u, rfl, _⟩ := rep_at r e
    exact f
  refine ⟨⟨own, by simp [r.length], fun i s e => ?_, fun i j s t v u b n e1 e2 e3 e4 f1 f2 => no i s v b e1 f1⟩, fun b ⟨i, s, v, e1, e2, f⟩ => no i s v b e1 f⟩
  obtain ⟨d, u, rfl, h1, h2⟩ := rep_at r e
  exact .inr ⟨u, by rw [getSome, h1]; rfl, h2⟩
theorem W.nos {as : En} (own : OwnOk O H) (l : as.length = σ.length) : W K O H (as.map fun _ => .no) σ ∧ ∀ b, ¬ FpE H (as.map fun _ => .no) σ b := by
  have no : ∀ (i : Nat) (s : Sl), (as.map fun _ => Sl.no)[i]? = some s → s = .no := fun i s e => by
    rw [List.getElem?_map] at e
    cases h : as[i]? with
    | none => rw [h] at e; cases e
    | some d => rw [h] at e; cases e; rfl
  refine ⟨⟨own, by simp [l], fun i s e => .inl (no i s e), fun i j s t v u b n e1 e2 e3 e4 f1 f2 => ?_⟩, fun b ⟨i, s, v, e1, e2, f⟩ => ?_⟩
  · rw [no i s e1] at f1; exact f1
  · rw [no i s e1] at f; exact f
theorem wb_plain {ds : List D} {as' : En} : wb (ds.map .v) as' = (ds.map Sl.v).map fun _ => .no := by
  cases ds <;> rfl
/-- a call without a box, as an operation -/
theorem call_plain {P : Ph} {f : Nat} {ds : List D} {vs : List V} {r : Sl} {as' : List Sl} {Q : VK} {E : XK} (own : OwnOk O H) (rd : RepDs K O H ds vs) (e : P f (ds.map .v) = some (r, as')) (q : RP K O H r Q) : spF K P f vs H Q E := by
  obtain ⟨w, nf⟩ := W.ofArgs own rd
  refine ⟨O, ds.map .v, r, as', w, e, fun O' H' v st wr => ?_⟩
  rw [wb_plain] at wr st
  exact q O' H' v ⟨st.evo, st.own, fun b e _ => st.keepO b e (nf b), fun b f => (st.fps b (.inr f)).elim (fun z => (nf b z).elim) .inr⟩ wr.val
end
section
variable {X : Cx} {P : Ph}
/-- a function of the program, callable -/
structure FnC (X : Cx) (P : Ph) (lev : Nat) (j : Nat) (x : Str) : Prop where
  ex : ∃ (f : Addr) (fd : FuncData) (ps : List Str), FnOk X.prog X.w X.K X.mg X.base CX0 lev f fd ps (spF X.K P j) ∧ X.mg x = some (.ref f) ∧ PySem.W.keepIn X.K (.ref f) = true ∧ Binds X.K fd ps []
theorem se_call {lev j : Nat} {x : Str} {e : Expr} {es : List Expr} {ms : List M} {p pos : Pos} (hr : Room lev X.A) (F : FnC X P lev j x) (hg : Gl X x) (hdb : (x == ("__debug__" : Str)) = false) (n : (e :: es).all notStar = true) (h : SEs X (e :: es) ms) : SE X (.Call (.Name x p) (e :: es) [] pos) (callM P j ms) := by
  obtain ⟨f, fd, ps, G, hm, hk, hb⟩ := F.ex
  have hs : starEach (e :: es) X.env = (false, eval e X.env) :: starEach es X.env := star_of (by simp only [List.all_cons, Bool.and_eq_true] at n; exact n.1)
  have hpl : (backTo pos (starEach es X.env)).any (·.1) = false := any_star (by simp only [List.all_cons, Bool.and_eq_true] at n; exact n.2)
  refine .ofVal rfl ((pe_call G hr hg hm hk hb .nil (pass0 (X := X)) (pa_args n h) hdb hs hpl).imp fun σ H Q q => ?_)
  obtain ⟨O, env, s, env', w, e, q⟩ := q
  simp only [Option.bind_eq_some_iff, Option.map_eq_some_iff, retOf] at e
  obtain ⟨⟨ds, e1⟩, h1, _, ⟨⟨r, as'⟩, h2, rfl⟩, h3⟩ := e
  cases h3
  refine ⟨O, env, ds, e1, w, h1, fun O1 H1 vs st1 w1 rd => ?_⟩
  show spF X.K P j (vs ++ []) H1 Q E0
  rw [List.append_nil]
  exact call_plain w1.own rd h2 (RP.end_ w1 fun O2 H2 v2 st2 wr => q O2 H2 v2 (st1.trans st2 fun _ z => z) wr)
theorem se_call0 {lev j : Nat} {x : Str} {p pos : Pos} (hr : Room lev X.A) (F : FnC X P lev j x) (hg : Gl X x) (hdb : (x == ("__debug__" : Str)) = false) : SE X (.Call (.Name x p) [] [] pos) (callM P j []) := by
  obtain ⟨f, fd, ps, G, hm, hk, hb⟩ := F.ex
  refine .ofVal rfl ((pe_call0 G hr hg hm hk hb .nil (pass0 (X := X)) hdb).imp fun σ H Q q => ?_)
  obtain ⟨O, env, s, env', w, e, q⟩ := q
  simp only [Option.bind_eq_some_iff, Option.map_eq_some_iff, retOf] at e
  obtain ⟨⟨ds, e1⟩, h1, _, ⟨⟨r, as'⟩, h2, rfl⟩, h3⟩ := e
  cases h3
  cases h1
  show spF X.K P j ([] ++ []) H Q E0
  exact call_plain w.own (vs := []) (ds := []) (by simp only [RepDs]) h2 (RP.end_ w fun O2 H2 v2 st2 wr => q O2 H2 v2 st2 wr)
/-- the script handed on -/
theorem se_callS {lev j i : Nat} {x n : Str} {p p2 pos : Pos} (hr : Room lev X.A) (F : FnC X P lev j x) (hg : Gl X x) (hdb : (x == ("__debug__" : Str)) = false) (hN : X.N[i]? = some n) (hv : Vis X.env.scope n) (hd : (n == ("__debug__" : Str)) = false) (hcd : (n == ("__classdict__" : Str)) = false) :
    SE X (.Call (.Name x p) [.Name n p2] [] pos) (callSM P j i) := by
  obtain ⟨f, fd, ps, G, hm, hk, hb⟩ := F.ex
  refine .ofVal rfl ((pe_call G hr hg hm hk hb .nil (pass0 (X := X)) (pa_cons (pe_slot hN hv hd hcd) pa_nil (star_of rfl)) hdb (star_of rfl) (any_star rfl)).imp fun σ H Q q => ?_)
  obtain ⟨O, env, s, env', w, e, q⟩ := q
  dsimp only at e
  split at e
  case h_2 => cases e
  rename_i ns g1
  simp only [Option.map_eq_some_iff, retOf] at e
  obtain ⟨_, ⟨⟨r, as'⟩, h2, rfl⟩, h3⟩ := e
  cases h3
  rcases w.rep i _ g1 with z | ⟨v, s1, rb⟩
  · cases z
  refine ⟨v, s1, ?_⟩
  show spF X.K P j ([v] ++ []) H Q E0
  have at0 : ∀ (k : Nat) (t : Sl), ([Sl.sc ns])[k]? = some t → k = 0 ∧ t = .sc ns := fun k t z => by
    cases k with
    | zero => exact ⟨rfl, by simpa using z.symm⟩
    | succ k => simp at z
  have wa : W X.K O H [.sc ns] ([v].map some) := by
    refine ⟨w.own, rfl, fun k t z => ?_, fun k l t t' v v' b ne e1 e2 e3 e4 f1 f2 => ?_⟩
    · obtain ⟨rfl, rfl⟩ := at0 k t z
      exact .inr ⟨v, rfl, rb⟩
    · obtain ⟨rfl, rfl⟩ := at0 k t e1
      exact f1
  have nf : ∀ b, ¬ FpE H [.sc ns] ([v].map some) b := fun b ⟨k, t, u, e1, e2, f⟩ => by
    obtain ⟨rfl, rfl⟩ := at0 k t e1
    exact f
  refine ⟨O, [.sc ns], r, as', wa, h2, fun O' H' v' st wr => ?_⟩
  have st' : Step O H F0 O' H' (fun b => Fp H' r v' b) := ⟨st.evo, st.own, fun b e _ => st.keepO b e (nf b), fun b f => (st.fps b (.inr f)).elim (fun z => (nf b z).elim) .inr⟩
  exact RP.end_ w (fun O2 H2 v2 st2 wr => q O2 H2 v2 st2 wr) O' H' v' st' wr.val
theorem isB_slot {K : PySem.W.Frag} {O : Own} {H : Hp} {env : En} {σ : St} {x : Nat} (w : W K O H env σ) (h : isB env[x]? = true) : ∃ v, σ[x]? = some (some v) := by
  cases e : env[x]? with
  | none => rw [e] at h; cases h
  | some s =>
    cases s with
    | bx cs rs =>
      rcases w.rep x _ e with z | ⟨v, h1, h2⟩
      · cases z
      · exact ⟨v, h1⟩
    | _ => rw [e] at h; cases h
theorem se_callB {lev j i : Nat} {x n : Str} {es : List Expr} {ms : List M} {p p2 pos : Pos} (hr : Room lev X.A) (F : FnC X P lev j x) (hg : Gl X x) (hdb : (x == ("__debug__" : Str)) = false) (hN : X.N[i]? = some n) (hv : Vis X.env.scope n) (hd : (n == ("__debug__" : Str)) = false) (hcd : (n == ("__classdict__" : Str)) = false)
    (ns : es.all notStar = true) (h : SEs X es ms) : SE X (.Call (.Name x p) (.Name n p2 :: es) [] pos) (callBM P j i ms) := by
  obtain ⟨f, fd, ps, G, hm, hk, hb⟩ := F.ex
  refine .ofVal rfl ((pe_call G hr hg hm hk hb .nil (pass0 (X := X)) (pa_cons (pe_slot hN hv hd hcd) (pa_args ns h) (star_of rfl)) hdb (star_of rfl) (any_star ns)).imp fun σ H Q q => ?_)
  obtain ⟨O, env, s, env', w, e, q⟩ := q
  dsimp only at e
  split at e
  case isFalse => cases e
  rename_i hB
  simp only [Option.bind_eq_some_iff] at e
  obtain ⟨⟨ds, e1⟩, h1, e⟩ := e
  split at e
  case h_2 => cases e
  rename_i cs rs g1
  simp only [Option.bind_eq_some_iff, retB] at e
  obtain ⟨⟨r, bb⟩, ⟨⟨r', as'⟩, h2, h2'⟩, e⟩ := e
  dsimp only at h2'
  split at h2'
  case h_2 => cases h2'
  rename_i b0 rest g3
  cases h2'
  dsimp only at e
  split at e
  case h_2 => cases e
  rename_i cs2 rs2
  cases e
  obtain ⟨vb, sb⟩ := isB_slot w hB
  refine ⟨vb, sb, O, env, ds, e1, w, h1, fun O1 H1 vs st1 w1 rd => ?_⟩
  show spF X.K P j (vb :: vs ++ []) H1 Q E0
  rw [List.append_nil]
  rcases w1.rep i _ g1 with z | ⟨u, s1, rb⟩
  · cases z
  rw [sb] at s1; cases s1
  -- the arguments
  have at0 : ∀ (k : Nat) (t : Sl), (Sl.bx cs rs :: ds.map Sl.v)[k]? = some t → (k = 0 ∧ t = .bx cs rs) ∨ ∃ k', k = k' + 1 ∧ (ds.map Sl.v)[k']? = some t := fun k t z => by
    cases k with
    | zero => exact .inl ⟨rfl, by simpa using z.symm⟩
    | succ k => exact .inr ⟨k, rfl, by simpa using z⟩
  have nov : ∀ (k : Nat) (t : Sl) (v : V) (b : Addr), (ds.map Sl.v)[k]? = some t → Fp H1 t v b → False := fun k t v b z f => by
    obtain ⟨d, u, rfl, _⟩ := rep_at rd z
    exact f
  have wa : W X.K O1 H1 (.bx cs rs :: ds.map .v) ((vb :: vs).map some) := by
    refine ⟨w1.own, by simp [rd.length], fun k t z => ?_, fun k l t t' v v' b ne e1 e2 e3 e4 f1 f2 => ?_⟩
    · rcases at0 k t z with ⟨rfl, rfl⟩ | ⟨k', rfl, z⟩
      · exact .inr ⟨vb, rfl, rb⟩
      · obtain ⟨d, u, rfl, g3, g4⟩ := rep_at rd z
        exact .inr ⟨u, by simp [g3], g4⟩
    · rcases at0 k t e1 with ⟨rfl, rfl⟩ | ⟨k', rfl, z⟩
      · rcases at0 l t' e2 with ⟨rfl, rfl⟩ | ⟨l', rfl, z⟩
        · exact ne rfl
        · exact nov l' t' v' b z f2
      · exact nov k' t v b z f1
  have fpa : ∀ b, FpE H1 (.bx cs rs :: ds.map .v) ((vb :: vs).map some) b → Fp H1 (.bx cs rs) vb b := fun b ⟨k, t, v, e1, e2, f⟩ => by
    rcases at0 k t e1 with ⟨rfl, rfl⟩ | ⟨k', rfl, z⟩
    · simp at e2; subst e2; exact f
    · exact (nov k' t v b z f).elim
  refine ⟨O1, _, s, _, wa, h2, fun O2 H2 v2 st2 wr => ?_⟩
  have ewb : wb (.bx cs rs :: ds.map .v) (.bx cs2 rs2 :: g3) = .bx cs2 rs2 :: (ds.map Sl.v).map fun _ => .no := rfl
  rw [ewb] at wr st2
  have rb2 : RepS X.K O2 H2 (.bx cs2 rs2) vb := by
    rcases wr.w.rep 0 (.bx cs2 rs2) rfl with z | ⟨u, g3, g4⟩
    · cases z
    · simp at g3; subst g3; exact g4
  have fb2 : ∀ b, Fp H2 (.bx cs2 rs2) vb b → FpE H2 (.bx cs2 rs2 :: (ds.map Sl.v).map fun _ => .no) ((vb :: vs).map some) b := fun b f => ⟨0, .bx cs2 rs2, vb, rfl, rfl, f⟩
  have stb : Step O1 H1 (Fp H1 (.bx cs rs) vb) O2 H2 (Fp H2 (.bx cs2 rs2) vb) := ⟨st2.evo, st2.own, fun b o nf => st2.keepO b o fun z => nf (fpa b z), fun b f => (st2.fps b (.inl (fb2 b f))).imp (fpa b) id⟩
  obtain ⟨w3, st3⟩ := w1.put stb g1 sb rb2
  have sepR : ∀ b, Fp H2 s v2 b → ¬ FpE H2 (e1.set i (.bx cs2 rs2)) σ b := fun b f ⟨k, t, u, e1', e2, f2⟩ => by
    by_cases hk : k = i
    · subst hk
      have e1'' : t = .bx cs2 rs2 := by
        rw [List.getElem?_set_self (w1.lt g1).1] at e1'; exact (Option.some.inj e1').symm
      subst e1''
      rw [sb] at e2; cases e2
      exact wr.sep b f (fb2 b f2)
    · rw [List.getElem?_set_ne (Ne.symm hk)] at e1'
      -- another slot: kept
      rcases w1.rep k t e1' with rfl | ⟨u', q1, q2⟩
      · exact f2
      · rw [e2] at q1; cases q1
        obtain ⟨_, kf⟩ := RepS.keep stb q2 fun b' f' g' => w1.sep k i t (.bx cs rs) u vb b' hk e1' g1 e2 sb f' g'
        have f3 := kf b f2
        rcases st2.fps b (.inr f) with z | z
        · exact w1.sep k i t (.bx cs rs) u vb b hk e1' g1 e2 sb f3 (fpa b z)
        · obtain ⟨xs, qq, _⟩ := w1.own b (Fp.own q2 f3)
          rw [z] at qq; cases qq
  refine q O2 H2 v2 ⟨(st1.trans st3 fun _ z => z).evo, st2.own, (st1.trans st3 fun _ z => z).keepO, fun b f => ?_⟩ ⟨w3, wr.val, sepR⟩
  rcases f with f | f
  · exact (st1.trans st3 fun _ z => z).fps b f
  · rcases st2.fps b (.inr f) with z | z
    · have := st1.fps b ⟨i, .bx cs rs, vb, g1, sb, fpa b z⟩
      exact this
    · refine .inr ?_
      cases qq : H b with
      | none => rfl
      | some u => exact absurd z (st1.evo.there b (by rw [qq]; exact Option.some_ne_none _))
end
end Mini

namespace Mini
open PySem PySem.Spec L2
/-! the text and the evaluator's terms, side by side -/
structure Ck where
  fn : List Str
  gl : List (Str × D)
  N : List Str
def visB (sc : Scope) (x : Str) : Bool := match sc.names.lookup x with
  | some .local => true
  | some .cell => true
  | some .free => true
  | _ => false
def glB (sc : Scope) (x : Str) : Bool := decide (sc.names.lookup x = some .globalImplicit)
def okN (x : Str) : Bool := !(x == ("__debug__" : Str)) && !(x == ("__classdict__" : Str))
mutual
def deq : D → D → Bool
  | .none, .none => true
  | .bool a, .bool b => a == b
  | .int a, .int b => a == b
  | .str a, .str b => decide (a = b)
  | .tuple xs, .tuple ys => deqs xs ys
  | .list xs, .list ys => deqs xs ys
  | _, _ => false
def deqs : List D → List D → Bool
  | [], [] => true
  | x :: xs, y :: ys => deq x y && deqs xs ys
  | _, _ => false
end
mutual
theorem deq_eq : ∀ {a b : D}, deq a b = true → a = b
  | .none, b, h => by cases b <;> first | rfl | (simp [deq] at h)
  | .bool x, b, h => by cases b <;> simp_all [deq]
  | .int x, b, h => by cases b <;> simp_all [deq]
  | .str x, b, h => by cases b <;> simp_all [deq]
  | .tuple xs, b, h => by
    cases b with
    | tuple ys => rw [deqs_eq (show deqs xs ys = true by simpa only [deq] using h)]
    | _ => simp [deq] at h
  | .list xs, b, h => by
    cases b with
    | list ys => rw [deqs_eq (show deqs xs ys = true by simpa only [deq] using h)]
    | _ => simp [deq] at h
  | .dict xs, b, h => by cases b <;> simp [deq] at h
theorem deqs_eq : ∀ {a b : List D}, deqs a b = true → a = b
  | [], b, h => by cases b <;> first | rfl | (simp [deqs] at h)
  | x :: xs, b, h => by
    cases b with
    | nil => simp [deqs] at h
    | cons y ys =>
      simp only [deqs, Bool.and_eq_true] at h
      rw [deq_eq h.1, deqs_eq h.2]
end
def notSet : Expr → Bool
  | .Set _ _ _ => false
  | _ => true
def isTuple : Expr → Bool
  | .Tuple _ _ _ => true
  | _ => false
def nmTup : Expr → Bool
  | .Name _ _ => true
  | .Tuple _ _ _ => true
  | _ => false
/-- the walked operands of a loop's iterable -/
def itArgs (pl : Bool) (sc : Scope) : IK → Bool → Expr → Option (List Expr)
  | .seq, _, e => if notSet e && notStar e && (!pl || PlainT e) then some [e] else none
  | .rng, _, .Call (.Name x _) args [] _ => if decide (x = "range") && glB sc x && args.all notStar && (!pl || args.all PlainT) && (args.length == 1 || args.length == 2 || args.length == 3) then some args else none
  | .enum, true, .Call (.Name x _) args [] _ => if decide (x = "enumerate") && glB sc x && args.all notStar && (!pl || args.all PlainT) && args.length == 1 then some args else none
  | .zip, true, .Call (.Name x _) args [] _ => if decide (x = "zip") && glB sc x && args.all notStar && (!pl || args.all PlainT) && (args.length == 2 || args.length == 3) then some args else none
  | .rev, _, .Call (.Name x _) args [] _ => if decide (x = "reversed") && glB sc x && args.all notStar && (!pl || args.all PlainT) && args.length == 1 then some args else none
  | _, _, _ => none
def locB (raw : Scope) (x : Str) : Bool := match raw.names.lookup x with
  | some .local => true
  | some .cell => true
  | _ => false
mutual
def cT (N : List Str) (raw : Scope) : T → Expr → Bool
  | .nm i, .Name x _ => decide (N[i]? = some x) && locB raw x
  | .tp ts, .Tuple es _ _ => cTs N raw ts es
  | _, _ => false
def cTs (N : List Str) (raw : Scope) : List T → List Expr → Bool
  | [], [] => true
  | t :: ts, e :: es => cT N raw t e && cTs N raw ts es
  | _, _ => false
end
def ownP (N : List Str) (own : List Nat) : List (Str × Nat) := own.map fun i => ((N[i]?).getD "", i)
theorem ownP_snd (N : List Str) (own : List Nat) : (ownP N own).map (·.2) = own := by
  unfold ownP; rw [List.map_map]; exact List.map_id _
def cstB : Const → D → Bool
  | .none, .none => true
  | .bool a, .bool b => a == b
  | .int a, .int b => a == b
  | .str a, .str b => decide (a = b)
  | _, _ => false
theorem cstB_eq {c : Const} {d : D} (h : cstB c d = true) : cstD c = some d := by
  cases c <;> cases d <;> simp_all [cstB, cstD]
mutual
def cE (k : Ck) (sc : Scope) : E → Expr → Bool
  | .var i, .Name x _ => decide (k.N[i]? = some x) && visB sc x && okN x
  | .cst d, .Constant c _ _ => cstB c d
  | .cst d, .Name x _ => glB sc x && okN x && (match k.gl.lookup x with | some d' => deq d d' | none => false)
  | .bin op a b, .BinOp ea op' eb _ => decide (op = op') && cE k sc a ea && cE k sc b eb
  | .neg a, .UnaryOp .USub ea _ => cE k sc a ea
  | .not a, .UnaryOp .Not ea _ => cE k sc a ea
  | .cmp op a b, .Compare ea [op'] [eb] _ => decide (op = op') && notSet eb && cE k sc a ea && cE k sc b eb
  | .chn o1 o2 a b c, .Compare ea [p1, p2] [eb, ec] _ => decide (o1 = p1) && decide (o2 = p2) && notSet eb && notSet ec && cE k sc a ea && cE k sc b eb && cE k sc c ec
  | .isn ng a, .Compare ea [op] [.Constant .none _ _] _ => decide (op = if ng then .IsNot else .Is) && cE k sc a ea
  | .bop o es, .BoolOp o' ees _ => decide (o = o') && !ees.isEmpty && cEs k sc es ees
  | .ite c a b, .IfExp ec ea eb _ => cE k sc c ec && cE k sc a ea && cE k sc b eb
  | .tup es, .Tuple ees _ _ => ees.all notStar && cEs k sc es ees
  | .lst es, .List ees _ => ees.all notStar && cEs k sc es ees
  | .idx a i, .Subscript ea ei _ => plainIx ei && cE k sc a ea && cE k sc i ei
  | .slc a lo hi, .Subscript ea (.Slice elo ehi none _) _ => cE k sc a ea && cO k sc lo elo && cO k sc hi ehi
  | .call f es, .Call (.Name x _) ees [] _ => decide (k.fn[f]? = some x) && glB sc x && okN x && ees.all notStar && cEs k sc es ees
  | .callB f i es, .Call (.Name x _) (.Name n _ :: ees) [] _ => decide (k.fn[f]? = some x) && glB sc x && okN x && decide (k.N[i]? = some n) && visB sc n && okN n && ees.all notStar && cEs k sc es ees
  | .callS f i, .Call (.Name x _) [.Name n _] [] _ => decide (k.fn[f]? = some x) && glB sc x && okN x && decide (k.N[i]? = some n) && visB sc n && okN n
  | .blt b es, .Call (.Name x _) ees [] _ => decide (x = blName b) && glB sc x && !ees.isEmpty && ees.all notStar && cEs k sc es ees
  | .isi a t, .Call (.Name x _) [ea, .Name y _] [] _ => decide (x = "isinstance") && decide (y = (tyName t : Str)) && glB sc x && glB sc y && notStar ea && cE k sc a ea
  | .lc t kk its cond elt own, .ListComp eelt [g] scope _ => decide (g.is_async = 0) && blkC k.N sc scope (ownP k.N own) && cT k.N scope t g.target && t.slots.all (own.contains ·) && (match itArgs false sc kk (isTuple g.target) g.iter with | some args => cEs k sc its args | none => false)
      && decide (g.ifs.length ≤ 1) && cEs k (relS scope sc) cond g.ifs && cE k (relS scope sc) elt eelt
  | .pop i, .Call (.Attribute (.Name n _) at_ apos) [] [] cpos => decide (at_ = "pop") && decide (k.N[i]? = some n) && visB sc n && okN n && (apos.endLine == cpos.line)
  | .mth m a e, .Call (.Attribute ea at_ apos) [ee] [] cpos => decide (at_ = mtName m) && attOk ea && notStar ee && (apos.endLine == cpos.line) && cE k sc a ea && cE k sc e ee
  | .rev a, .Subscript ea (.Slice none none (some (.UnaryOp .USub (.Constant (.int i) _ _) _)) _) _ => decide (i = 1) && cE k sc a ea
  | .isb ng kk a, .Compare ea [op] [.Constant (.bool b) _ _] _ => decide (op = if ng then .IsNot else .Is) && decide (b = kk) && cE k sc a ea
  | .rgv tup es, .Call (.Name x _) [.Call (.Name y _) ees [] _] [] _ => decide (x = rgvName tup) && decide (y = "range") && glB sc x && glB sc y && ees.all notStar && (ees.length == 1 || ees.length == 2) && cEs k sc es ees
  | .upper a, .Call (.Attribute ea at_ apos) [] [] cpos => decide (at_ = "upper") && attOk ea && (apos.endLine == cpos.line) && cE k sc a ea
  | .lset a, .Call (.Name x _) [.Call (.Name y _) [ea] [] _] [] _ => decide (x = "len") && decide (y = "set") && glB sc x && glB sc y && notStar ea && cE k sc a ea
  | .sset a, .Call (.Name x _) [.Call (.Name y _) [ea] [] _] [] _ => decide (x = "sorted") && decide (y = "set") && glB sc x && glB sc y && notStar ea && cE k sc a ea
  | .dnew _, .Dict [] [] _ => true
  | .dsrt i, .Call (.Name x _) [.Name n _] [] _ => decide (x = "sorted") && glB sc x && decide (k.N[i]? = some n) && visB sc n && okN n
  | .ditm i, .Call (.Name x _) [.Call (.Attribute (.Name n _) at_ apos) [] [] cpos] [] _ => decide (x = "sorted") && decide (at_ = "items") && glB sc x && decide (k.N[i]? = some n) && visB sc n && okN n && (apos.endLine == cpos.line)
  | _, _ => false
def cEs (k : Ck) (sc : Scope) : List E → List Expr → Bool
  | [], [] => true
  | m :: ms, e :: es => cE k sc m e && cEs k sc ms es
  | _, _ => false
def cO (k : Ck) (sc : Scope) : List E → Option Expr → Bool
  | [], none => true
  | [m], some e => cE k sc m e
  | _, _ => false
end
/-- the context of the code -/
structure CtxOk (k : Ck) (sc raw : Scope) (P : Ph) (lev : Nat) (X : Cx) : Prop where
  hN : X.N = k.N
  nd : X.N.Nodup
  sc : X.env.scope = sc
  calm : X.calm = true
  room : Room lev X.A
  xe : X.xe = fun _ _ => False
  fns : ∀ (j : Nat) (x : Str), k.fn[j]? = some x → FnC X P lev j x
  gls : ∀ (x : Str) (d : D), k.gl.lookup x = some d → GlOk X x d
  bls : ∀ b : Bl, X.mg (blName b) = none
  tys : ∀ t : Ty, X.mg (tyName t : Str) = none
  isi : X.mg "isinstance" = none
  its : X.mg "range" = none ∧ X.mg "enumerate" = none ∧ X.mg "zip" = none ∧ X.mg "reversed" = none ∧ X.mg "set" = none
  asg : ∀ x, locB raw x = true → Loc X.env.scope x ∧ (X.fn x = true ∨ X.env.scope.names.lookup x = some .local)
section
variable {k : Ck} {sc raw : Scope} {P : Ph} {lev : Nat} {X : Cx}
theorem vis_of (c : CtxOk k sc raw P lev X) {x : Str} (h : visB sc x = true) : Vis X.env.scope x := by
  rw [c.sc]
  unfold visB at h
  split at h
  · rename_i e; exact .inl e
  · rename_i e; exact .inr (.inl e)
  · rename_i e; exact .inr (.inr e)
  · cases h
theorem gl_of (c : CtxOk k sc raw P lev X) {x : Str} (h : glB sc x = true) : Gl X x := by
  show X.env.scope.names.lookup x = some .globalImplicit
  rw [c.sc]; exact of_decide_eq_true h
theorem okN_of {x : Str} (h : okN x = true) : (x == ("__debug__" : Str)) = false ∧ (x == ("__classdict__" : Str)) = false := by
  unfold okN at h
  simpa using h
/-- targets -/
theorem starA {e : Expr} {es : List Expr} {env : PySem.Env} (h : nmTup e = true) : assignEach (e :: es) env = (false, assign e env) :: assignEach es env := by
  cases e <;> first | rfl | cases h
theorem cT_form {N : List Str} {t : T} {e : Expr} (h : cT N raw t e = true) : nmTup e = true := by
  cases t <;> cases e <;> first | rfl | (simp [cT] at h)
mutual
theorem sT (c : CtxOk k sc raw P lev X) : ∀ (t : T) (e : Expr), cT k.N raw t e = true → PG X e (gT X.K t)
  | .nm i, e, h => by
    cases e with
    | Name x p =>
      simp only [cT, Bool.and_eq_true, decide_eq_true_eq] at h
      obtain ⟨h1, h2⟩ := c.asg x h.2
      exact pg_nm c.nd (by rw [c.hN]; exact h.1) h1 h2
    | _ => simp [cT] at h
  | .tp ts, e, h => by
    cases e with
    | Tuple es kk p =>
      have h' : cTs k.N raw ts es = true := by simpa only [cT] using h
      have key : ∀ (ts : List T) (es : List Expr), cTs k.N raw ts es = true → (assignEach es X.env).length = ts.length ∧ (assignEach es X.env).findIdx? (·.1) = none := by
        intro ts
        induction ts with
        | nil => intro es h; cases es with
          | nil => exact ⟨rfl, rfl⟩
          | cons _ _ => simp [cTs] at h
        | cons t ts ih => intro es h; cases es with
          | nil => simp [cTs] at h
          | cons e es =>
            simp only [cTs, Bool.and_eq_true] at h
            obtain ⟨h1, h2⟩ := ih es h.2
            rw [starA (cT_form h.1)]
            exact ⟨by simp [h1], by simp [List.findIdx?_cons, h2]⟩
      obtain ⟨k1, k2⟩ := key ts es h'
      exact pg_tp c.calm (sTs c ts es h') rfl k1 k2
    | _ => simp [cT] at h
theorem sTs (c : CtxOk k sc raw P lev X) : ∀ (ts : List T) (es : List Expr), cTs k.N raw ts es = true → PGs X es (gTs X.K ts)
  | [], es, h => by
    cases es with
    | nil => exact pgs_nilT
    | cons _ _ => simp [cTs] at h
  | t :: ts, es, h => by
    cases es with
    | nil => simp [cTs] at h
    | cons e es =>
      simp only [cTs, Bool.and_eq_true] at h
      exact pgs_consT (sT c t e h.1) (sTs c ts es h.2) (by rw [starA (cT_form h.1)]; rfl)
end
/-- a comprehension's block -/
theorem CtxOk.blk (c : CtxOk k sc raw P lev X) {scope : Scope} (own : List (Str × Nat)) (b : blkC k.N sc scope own = true) (s : Shared) (H : Hp) (C : Addr) (cl : List (Str × Addr)) (fp : List Addr) : CtxOk k (relS scope sc) scope P lev (X.blk s H scope (compEnvC scope cl C X.env) fp) where
  hN := c.hN
  nd := c.nd
  sc := by show relS scope X.env.scope = _; rw [c.sc]
  calm := c.calm
  room := c.room
  xe := rfl
  fns := fun j x h => ⟨(c.fns j x h).ex⟩
  gls := c.gls
  bls := c.bls
  tys := c.tys
  isi := c.isi
  its := c.its
  asg := fun x h => by
    unfold locB at h
    split at h
    · rename_i e
      have q : (relS scope X.env.scope).names.lookup x = some .local := lookup_relS_keep (by decide) e
      exact ⟨.inl q, .inr q⟩
    · rename_i e
      have q : (relS scope X.env.scope).names.lookup x = some .cell := lookup_relS_keep (by decide) e
      exact ⟨.inr q, .inl (by show (scope.names.lookup x == some .cell) = true; rw [e]; rfl)⟩
    · cases h
theorem notSet_mark {e : Expr} {op : CmpOp} (h : notSet e = true) : behindInMarks op e = false := by
  cases e <;> first | rfl | cases h
theorem fold_of {e : Expr} {env : PySem.Env} (h : notSet e = true) (x : Value) : foldedSetIterable e env x = pure x := by
  cases e <;> first | rfl | cases h
theorem plainIx_of {e : Expr} (h : plainIx e = true) : PlainIx e := fun o i => by
  cases e <;> first | rfl | cases h
/-- the walked thing -/
theorem sI (c : CtxOk k sc raw P lev X) {kk : IK} {tg iter : Expr} {args : List Expr} {ms : List M} {pl : Bool} (h : itArgs pl sc kk (isTuple tg) iter = some args) (hs : SEs X args ms) : PI X tg iter (tI X.K kk (opsM ms)) ∧ ∀ x, foldedSetIterable iter X.env x = pure x := by
  obtain ⟨m1, m2, m3, m4, _⟩ := c.its
  have call : ∀ (x : Str) (p : Pos) (as : List Expr) (pos : Pos) (v : Value), foldedSetIterable (.Call (.Name x p) as [] pos) X.env v = pure v := fun _ _ _ _ _ => rfl
  cases kk with
  | seq =>
    simp only [itArgs] at h
    split at h
    · rename_i hc
      simp only [Bool.and_eq_true] at hc
      cases h
      cases hs with
      | cons h1 h2 =>
        cases h2
        exact ⟨pi_seq h1, fold_of hc.1.1⟩
    · cases h
  | rng =>
    cases iter with
    | Call f as kw pos =>
      cases f with
      | Name x p =>
        cases kw with
        | nil =>
          simp only [itArgs] at h
          split at h
          · rename_i hc
            simp only [Bool.and_eq_true, decide_eq_true_eq] at hc
            obtain ⟨⟨⟨⟨rfl, hg⟩, hn⟩, hp⟩, hl⟩ := hc
            cases h
            refine ⟨?_, call _ _ _ _⟩
            cases hs with
            | nil => simp at hl
            | cons h1 h2 =>
              simp only [List.all_cons, Bool.and_eq_true] at hn
              cases h2 with
              | nil => exact pi_rng1 (gl_of c hg) m1 hn.1 h1
              | cons h3 h4 =>
                simp only [List.all_cons, Bool.and_eq_true] at hn
                cases h4 with
                | nil => exact pi_rng2 (gl_of c hg) m1 hn.1 hn.2.1 h1 h3
                | cons h5 h6 =>
                  simp only [List.all_cons, Bool.and_eq_true] at hn
                  cases h6 with
                  | nil => exact pi_rng3 (gl_of c hg) m1 hn.1 hn.2.1 hn.2.2.1 h1 h3 h5
                  | cons _ _ => simp at hl
          · cases h
        | cons _ _ => simp [itArgs] at h
      | _ => simp [itArgs] at h
    | _ => simp [itArgs] at h
  | enum =>
    cases tg with
    | Tuple elts k2 tpos =>
      cases iter with
      | Call f as kw pos =>
        cases f with
        | Name x p =>
          cases kw with
          | nil =>
            simp only [itArgs, isTuple] at h
            split at h
            · rename_i hc
              simp only [Bool.and_eq_true, decide_eq_true_eq] at hc
              obtain ⟨⟨⟨⟨rfl, hg⟩, hn⟩, hp⟩, hl⟩ := hc
              cases h
              refine ⟨?_, call _ _ _ _⟩
              cases hs with
              | nil => simp at hl
              | cons h1 h2 =>
                simp only [List.all_cons, Bool.and_eq_true] at hn
                cases h2 with
                | nil => exact pi_enumL (gl_of c hg) m2 hn.1 h1
                | cons _ _ => simp at hl
            · cases h
          | cons _ _ => simp [itArgs, isTuple] at h
        | _ => simp [itArgs, isTuple] at h
      | _ => simp [itArgs, isTuple] at h
    | _ => cases iter <;> simp [itArgs, isTuple] at h
  | zip =>
    cases tg with
    | Tuple elts k2 tpos =>
      cases iter with
      | Call f as kw pos =>
        cases f with
        | Name x p =>
          cases kw with
          | nil =>
            simp only [itArgs, isTuple] at h
            split at h
            · rename_i hc
              simp only [Bool.and_eq_true, decide_eq_true_eq] at hc
              obtain ⟨⟨⟨⟨rfl, hg⟩, hn⟩, hp⟩, hl⟩ := hc
              cases h
              refine ⟨?_, call _ _ _ _⟩
              cases hs with
              | nil => simp at hl
              | cons h1 h2 =>
                cases h2 with
                | nil => simp at hl
                | cons h3 h4 =>
                  simp only [List.all_cons, Bool.and_eq_true] at hn
                  cases h4 with
                  | nil => exact pi_zipD (gl_of c hg) m3 hn.1 hn.2.1 h1 h3
                  | cons h5 h6 =>
                    simp only [List.all_cons, Bool.and_eq_true] at hn
                    cases h6 with
                    | nil => exact pi_zipD3 (gl_of c hg) m3 hn.1 hn.2.1 hn.2.2.1 h1 h3 h5
                    | cons _ _ => simp at hl
            · cases h
          | cons _ _ => simp [itArgs, isTuple] at h
        | _ => simp [itArgs, isTuple] at h
      | _ => simp [itArgs, isTuple] at h
    | _ => cases iter <;> simp [itArgs, isTuple] at h
  | rev =>
    cases iter with
    | Call f as kw pos =>
      cases f with
      | Name x p =>
        cases kw with
        | nil =>
          simp only [itArgs] at h
          split at h
          · rename_i hc
            simp only [Bool.and_eq_true, decide_eq_true_eq] at hc
            obtain ⟨⟨⟨⟨rfl, hg⟩, hn⟩, hp⟩, hl⟩ := hc
            cases h
            refine ⟨?_, call _ _ _ _⟩
            cases hs with
            | nil => simp at hl
            | cons h1 h2 =>
              simp only [List.all_cons, Bool.and_eq_true] at hn
              cases h2 with
              | nil => exact pi_rev1 (gl_of c hg) m4 hn.1 h1
              | cons _ _ => simp at hl
          · cases h
        | cons _ _ => simp [itArgs] at h
      | _ => simp [itArgs] at h
    | _ => simp [itArgs] at h
theorem itArgs_plain {kk : IK} {b : Bool} {iter : Expr} {args : List Expr} (h : itArgs true sc kk b iter = some args) : args.all PlainT = true := by
  unfold itArgs at h
  split at h
  · split at h
    · rename_i hc
      simp only [Bool.and_eq_true, Bool.not_true, Bool.false_or] at hc
      cases h; simp [hc.2]
    · cases h
  all_goals first
    | (split at h
       · rename_i hc
         simp only [Bool.and_eq_true, Bool.not_true, Bool.false_or] at hc
         cases h
         first | exact hc.1.2 | exact hc.2
       · cases h)
    | cases h
theorem se_chn2 {k : Nat} (hr : Room k X.A) {a b c : Expr} {ma mb mc : M} {pos : Pos} {o1 o2 : CmpOp} (ha : SE X a ma) (hb : SE X b mb) (hc : SE X c mc) (nb : notSet b = true) (nc : notSet c = true) : SE X (.Compare a [o1, o2] [b, c] pos) (chnM o1 o2 ma mb mc) := by
  have hm : lastMarks [o1, o2] [b, c] = false := by
    show behindInMarks o2 c = false
    exact notSet_mark nc
  exact se_chn hr ha hb hc (pe_chain (or_cmp hr o1) (or_cmp hr o2) ha.opd hb.opd hc.opd hm) (pt_chain (or_cmp hr o1) (or_cmp hr o2) ha.opd hb.opd hc.opd hm)
end
end Mini

namespace Mini
open PySem PySem.Spec L2
section
variable {k : Ck} {P : Ph} {lev : Nat}
theorem pts_cond {X : Cx} : ∀ {ifs : List Expr} {ms : List M}, ifs.length ≤ 1 → SEs X ifs ms → PTs X ifs (tT X.K (condM ms))
  | [], _, _, .nil => ⟨fun pins s σ H Q I q => pts_nil.run pins s σ H Q I (by
      obtain ⟨O, env, b, env', w, e, q⟩ := q
      cases e
      exact q O H (Step.refl w.own) w)⟩
  | [e], _, _, .cons h .nil => pts_one h.tst
  | _ :: _ :: _, _, l, _ => by simp at l
/-- the parts of a comprehension -/
theorem lc_parts {X : Cx} {sc raw : Scope} {t : T} {kk : IK} {its cond : List E} {elt : E} {own : List Nat} {eelt tg iter : Expr} {ifs : List Expr} {scope : Scope} {pos : Pos} (c : CtxOk k sc raw P lev X) (hb : blkC k.N sc scope (ownP k.N own) = true)
    (ht : cT k.N scope t tg = true) (hsl : t.slots.all (own.contains ·) = true) {args : List Expr} (ha : itArgs false sc kk (isTuple tg) iter = some args) (hl : ifs.length ≤ 1) (h1 : SEs X args (evs P its))
    (h2 : ∀ (s : Shared) (H : Hp) (C : Addr) (cl : List (Str × Addr)) (fp : List Addr), SEs (X.blk s H scope (compEnvC scope cl C X.env) fp) ifs (evs P cond)) (h3 : ∀ (s : Shared) (H : Hp) (C : Addr) (cl : List (Str × Addr)) (fp : List Addr), SE (X.blk s H scope (compEnvC scope cl C X.env) fp) eelt (ev P elt)) :
    (PE X (.ListComp eelt [⟨tg, iter, ifs, 0⟩] scope pos) (tE X.K (ev P (.lc t kk its cond elt own)).val)) ∧
    (∀ {i : Nat} {y : Str} {py spos : Pos} {fz : List Nat}, i ∉ fz → X.N[i]? = some y → X.env.scope.names.lookup y = some .local → swapsWith (.ListComp eelt [⟨tg, iter, ifs, 0⟩] scope pos) (some (.Name y py)) spos.line X.env = pure true →
      SS X fz (.Assign [.Name y py] (.ListComp eelt [⟨tg, iter, ifs, 0⟩] scope pos) spos) (asgO i (ev P (.lc t kk its cond elt own)).val)) := by
  have sl : ∀ i ∈ t.slots, i ∈ own := fun i hi => by
    have := List.all_eq_true.mp hsl i hi
    simpa using this
  obtain ⟨pi, fold⟩ := sI c ha h1
  have ok : BlkOk X.N X.env.scope scope (ownP k.N own) := by
    rw [c.hN, c.sc]; exact blkOk_by hb
  have hown := ownP_snd k.N own
  constructor
  · have pe := pe_lc (pos := pos) (te := tD X.K (frzM (ev P elt).val)) (tt := tT X.K (condM (evs P cond))) (g := gT X.K t) c.calm c.nd (PI.line pi) ok (fun s H C cl fp => sT (c.blk _ hb s H C cl fp) t tg ht) (fun s H C cl fp => pts_cond hl (h2 s H C cl fp)) (fun s H C cl fp => (h3 s H C cl fp).d) fold
    rw [hown] at pe
    exact pe.imp fun σ H Q q => te_lc sl (by simpa only [ev] using q)
  · intro i y py spos fz hz hi hy hsw
    have ps := ps_setLc (i := i) (pos := pos) (te := tD X.K (frzM (ev P elt).val)) (tt := tT X.K (condM (evs P cond))) (g := gT X.K t) c.calm c.nd hi hy hsw (PI.line pi) ok (fun s H C cl fp => sT (c.blk _ hb s H C cl fp) t tg ht) (fun s H C cl fp => pts_cond hl (h2 s H C cl fp)) (fun s H C cl fp => (h3 s H C cl fp).d) fold
    rw [hown] at ps
    exact ⟨ps.imp fun D σ H q => te_lc sl (by simpa only [ev] using asg_end hz q)⟩
set_option maxHeartbeats 4000000 in
mutual
/-- THE EXPRESSIONS -/
theorem sE : ∀ (m : E) (e : Expr) (X : Cx) (sc raw : Scope), CtxOk k sc raw P lev X → cE k sc m e = true → SE X e (ev P m)
  | .var i, e, X, sc, raw, c, h => by
    cases e with
    | Name x p =>
      simp only [cE, Bool.and_eq_true, decide_eq_true_eq] at h
      obtain ⟨n1, n2⟩ := okN_of h.2
      simp only [ev]
      exact se_var (by rw [c.hN]; exact h.1.1) (vis_of c h.1.2) n1 n2
    | _ => simp [cE] at h
  | .cst d, e, X, sc, raw, c, h => by
    cases e with
    | Constant v kk p =>
      simp only [cE] at h
      simp only [ev]
      exact se_cst (cstB_eq h)
    | Name x p =>
      simp only [cE, Bool.and_eq_true] at h
      obtain ⟨n1, n2⟩ := okN_of h.1.2
      obtain ⟨⟨h1, _⟩, h2⟩ := h
      split at h2
      · rename_i d' hd
        have e := deq_eq h2
        subst e
        simp only [ev]
        exact se_glob (gl_of c h1) (c.gls x d hd) n1
      · cases h2
    | _ => simp [cE] at h
  | .bin op a b, e, X, sc, raw, c, h => by
    cases e with
    | BinOp ea op' eb p =>
      simp only [cE, Bool.and_eq_true, decide_eq_true_eq] at h
      obtain ⟨⟨rfl, h1⟩, h2⟩ := h
      simp only [ev]
      exact se_bin (sE a ea X sc raw c h1) (sE b eb X sc raw c h2)
    | _ => simp [cE] at h
  | .neg a, e, X, sc, raw, c, h => by
    cases e with
    | UnaryOp op ea p =>
      cases op with
      | USub =>
        simp only [cE] at h
        simp only [ev]
        exact se_neg (sE a ea X sc raw c h)
      | _ => simp [cE] at h
    | _ => simp [cE] at h
  | .not a, e, X, sc, raw, c, h => by
    cases e with
    | UnaryOp op ea p =>
      cases op with
      | Not =>
        simp only [cE] at h
        simp only [ev]
        exact se_not (sE a ea X sc raw c h)
      | _ => simp [cE] at h
    | _ => simp [cE] at h
  | .cmp op a b, e, X, sc, raw, c, h => by
    cases e with
    | Compare ea ops es p =>
      match ops, es, h with
      | [op'], [eb], h =>
        simp only [cE, Bool.and_eq_true, decide_eq_true_eq] at h
        obtain ⟨⟨⟨rfl, hn⟩, h1⟩, h2⟩ := h
        simp only [ev]
        exact se_cmp c.room (sE a ea X sc raw c h1) (sE b eb X sc raw c h2) (notSet_mark hn)
      | [], _, h => simp [cE] at h
      | _ :: _ :: _, _, h => simp [cE] at h
      | [_], [], h => simp [cE] at h
      | [_], _ :: _ :: _, h => simp [cE] at h
    | _ => simp [cE] at h
  | .chn o1 o2 a b d, e, X, sc, raw, c, h => by
    cases e with
    | Compare ea ops es p =>
      match ops, es, h with
      | [p1, p2], [eb, ec], h =>
        simp only [cE, Bool.and_eq_true, decide_eq_true_eq] at h
        obtain ⟨⟨⟨⟨⟨⟨rfl, rfl⟩, hn⟩, hn2⟩, h1⟩, h2⟩, h3⟩ := h
        simp only [ev]
        exact se_chn2 c.room (sE a ea X sc raw c h1) (sE b eb X sc raw c h2) (sE d ec X sc raw c h3) hn hn2
      | [], _, h => simp [cE] at h
      | [_], _, h => simp [cE] at h
      | _ :: _ :: _ :: _, _, h => simp [cE] at h
      | [_, _], [], h => simp [cE] at h
      | [_, _], [_], h => simp [cE] at h
      | [_, _], _ :: _ :: _ :: _, h => simp [cE] at h
    | _ => simp [cE] at h
  | .isn ng a, e, X, sc, raw, c, h => by
    cases e with
    | Compare ea ops es p =>
      match ops, es, h with
      | [op'], [.Constant .none j p2], h =>
        simp only [cE, Bool.and_eq_true, decide_eq_true_eq] at h
        obtain ⟨rfl, h1⟩ := h
        simp only [ev]
        cases ng with
        | true => exact se_isnot (sE a ea X sc raw c h1)
        | false => exact se_is (sE a ea X sc raw c h1)
      | [], _, h => simp [cE] at h
      | _ :: _ :: _, _, h => simp [cE] at h
      | [_], [], h => simp [cE] at h
      | [_], _ :: _ :: _, h => simp [cE] at h
      | [_], [e1], h =>
        cases e1 with
        | Constant v j p2 =>
          cases v with
          | none =>
            simp only [cE, Bool.and_eq_true, decide_eq_true_eq] at h
            obtain ⟨rfl, h1⟩ := h
            simp only [ev]
            cases ng with
            | true => exact se_isnot (sE a ea X sc raw c h1)
            | false => exact se_is (sE a ea X sc raw c h1)
          | _ => simp [cE] at h
        | _ => simp [cE] at h
    | _ => simp [cE] at h
  | .bop o es, e, X, sc, raw, c, h => by
    cases e with
    | BoolOp o' ees p =>
      simp only [cE, Bool.and_eq_true, decide_eq_true_eq] at h
      obtain ⟨⟨rfl, hn⟩, h1⟩ := h
      simp only [ev]
      exact se_bop (by intro z; subst z; simp at hn) (sEs es ees X sc raw c h1)
    | _ => simp [cE] at h
  | .ite d a b, e, X, sc, raw, c, h => by
    cases e with
    | IfExp ec ea eb p =>
      simp only [cE, Bool.and_eq_true] at h
      simp only [ev]
      exact se_ite (sE d ec X sc raw c h.1.1) (sE a ea X sc raw c h.1.2) (sE b eb X sc raw c h.2)
    | _ => simp [cE] at h
  | .tup es, e, X, sc, raw, c, h => by
    cases e with
    | Tuple ees kk p =>
      simp only [cE, Bool.and_eq_true] at h
      simp only [ev]
      exact se_tup h.1 (sEs es ees X sc raw c h.2)
    | _ => simp [cE] at h
  | .lst es, e, X, sc, raw, c, h => by
    cases e with
    | List ees p =>
      simp only [cE, Bool.and_eq_true] at h
      simp only [ev]
      exact se_lst h.1 (sEs es ees X sc raw c h.2)
    | _ => simp [cE] at h
  | .idx a i, e, X, sc, raw, c, h => by
    cases e with
    | Subscript ea ei p =>
      simp only [cE, Bool.and_eq_true] at h
      simp only [ev]
      exact se_idx (sE a ea X sc raw c h.1.2) (sE i ei X sc raw c h.2) (plainIx_of h.1.1)
    | _ => simp [cE] at h
  | .slc a lo hi, e, X, sc, raw, c, h => by
    cases e with
    | Subscript ea ei p =>
      cases ei with
      | Slice elo ehi est p2 =>
        cases est with
        | none =>
          simp only [cE, Bool.and_eq_true] at h
          simp only [ev]
          exact se_slc (sE a ea X sc raw c h.1.1) (sO lo elo X sc raw c h.1.2) (sO hi ehi X sc raw c h.2)
        | some _ => simp [cE] at h
      | _ => simp [cE] at h
    | _ => simp [cE] at h
  | .call f es, e, X, sc, raw, c, h => by
    cases e with
    | Call g ees kw p =>
      cases g with
      | Name x p2 =>
        cases kw with
        | nil =>
          simp only [cE, Bool.and_eq_true, decide_eq_true_eq] at h
          obtain ⟨⟨⟨⟨h1, h2⟩, h3⟩, h5⟩, h6⟩ := h
          obtain ⟨n1, n2⟩ := okN_of h3
          cases ees with
          | nil =>
            simp only [ev]
            cases es with
            | nil => exact se_call0 c.room (c.fns f x h1) (gl_of c h2) n1
            | cons _ _ => simp [cEs] at h6
          | cons e0 er =>
            simp only [ev]
            exact se_call c.room (c.fns f x h1) (gl_of c h2) n1 h5 (sEs es (e0 :: er) X sc raw c h6)
        | cons _ _ => simp [cE] at h
      | _ => simp [cE] at h
    | _ => simp [cE] at h
  | .callB f i es, e, X, sc, raw, c, h => by
    cases e with
    | Call g ees kw p =>
      cases g with
      | Name x p2 =>
        cases kw with
        | nil =>
          cases ees with
          | nil => simp [cE] at h
          | cons e0 er =>
            cases e0 with
            | Name n p3 =>
              simp only [cE, Bool.and_eq_true, decide_eq_true_eq] at h
              obtain ⟨⟨⟨⟨⟨⟨⟨h1, h2⟩, h3⟩, h4⟩, h5⟩, h6⟩, h7⟩, h8⟩ := h
              obtain ⟨n1, n2⟩ := okN_of h3
              obtain ⟨n3, n4⟩ := okN_of h6
              simp only [ev]
              exact se_callB c.room (c.fns f x h1) (gl_of c h2) n1 (by rw [c.hN]; exact h4) (vis_of c h5) n3 n4 h7 (sEs es er X sc raw c h8)
            | _ => simp [cE] at h
        | cons _ _ => simp [cE] at h
      | _ => simp [cE] at h
    | _ => simp [cE] at h
  | .callS f i, e, X, sc, raw, c, h => by
    cases e with
    | Call g ees kw p =>
      cases g with
      | Name x p2 =>
        cases kw with
        | nil =>
          match ees, h with
          | [], h => simp [cE] at h
          | _ :: _ :: _, h => simp [cE] at h
          | [e0], h =>
            cases e0 with
            | Name n p3 =>
              simp only [cE, Bool.and_eq_true, decide_eq_true_eq] at h
              obtain ⟨⟨⟨⟨⟨h1, h2⟩, h3⟩, h4⟩, h5⟩, h6⟩ := h
              obtain ⟨n1, n2⟩ := okN_of h3
              obtain ⟨n3, n4⟩ := okN_of h6
              simp only [ev]
              exact se_callS c.room (c.fns f x h1) (gl_of c h2) n1 (by rw [c.hN]; exact h4) (vis_of c h5) n3 n4
            | _ => simp [cE] at h
        | cons _ _ => simp [cE] at h
      | _ => simp [cE] at h
    | _ => simp [cE] at h
  | .blt b es, e, X, sc, raw, c, h => by
    cases e with
    | Call g ees kw p =>
      cases g with
      | Name x p2 =>
        cases kw with
        | nil =>
          simp only [cE, Bool.and_eq_true, decide_eq_true_eq] at h
          obtain ⟨⟨⟨⟨rfl, h2⟩, h4⟩, h5⟩, h6⟩ := h
          cases ees with
          | nil => simp at h4
          | cons e0 er =>
            simp only [ev]
            exact se_blt c.room c.calm (gl_of c h2) (c.bls b) h5 (sEs es (e0 :: er) X sc raw c h6)
        | cons _ _ => simp [cE] at h
      | _ => simp [cE] at h
    | _ => simp [cE] at h
  | .isi a t, e, X, sc, raw, c, h => by
    cases e with
    | Call g ees kw p =>
      cases g with
      | Name x p2 =>
        cases kw with
        | nil =>
          match ees, h with
          | [ea, .Name y p3], h =>
            simp only [cE, Bool.and_eq_true, decide_eq_true_eq] at h
            obtain ⟨⟨⟨⟨⟨rfl, rfl⟩, h3⟩, h4⟩, h5⟩, h6⟩ := h
            simp only [ev]
            exact se_isi (gl_of c h3) c.isi (gl_of c h4) (c.tys t) h5 (sE a ea X sc raw c h6)
          | [], h => simp [cE] at h
          | [_], h => simp [cE] at h
          | _ :: _ :: _ :: _, h => simp [cE] at h
          | [ea, ey], h =>
            cases ey with
            | Name y p3 =>
              simp only [cE, Bool.and_eq_true, decide_eq_true_eq] at h
              obtain ⟨⟨⟨⟨⟨rfl, rfl⟩, h3⟩, h4⟩, h5⟩, h6⟩ := h
              simp only [ev]
              exact se_isi (gl_of c h3) c.isi (gl_of c h4) (c.tys t) h5 (sE a ea X sc raw c h6)
            | _ => simp [cE] at h
        | cons _ _ => simp [cE] at h
      | _ => simp [cE] at h
    | _ => simp [cE] at h
  | .lc t kk its cond elt own, e, X, sc, raw, c, h => by
    cases e with
    | ListComp eelt gens scope p =>
      match gens, h with
      | [⟨tg, iter, ifs, ia⟩], h =>
        simp only [cE, Bool.and_eq_true, decide_eq_true_eq] at h
        obtain ⟨⟨⟨⟨⟨⟨⟨rfl, hb⟩, ht⟩, hsl⟩, hit⟩, hl⟩, hc⟩, he⟩ := h
        split at hit
        case h_2 => cases hit
        rename_i args ha
        have pe := (lc_parts (pos := p) c hb ht hsl ha hl (sEs its args X sc raw c hit) (fun s H C cl fp => sEs cond ifs _ _ _ (c.blk _ hb s H C cl fp) hc) (fun s H C cl fp => sE elt eelt _ _ _ (c.blk _ hb s H C cl fp) he)).1
        have r := SE.ofVal (X := X) (e := .ListComp eelt [⟨tg, iter, ifs, 0⟩] scope p) rfl pe
        simp only [ev, lcM, M.ofVal] at r ⊢
        exact r
      | [], h => simp [cE] at h
      | _ :: _ :: _, h => simp [cE] at h
    | _ => simp [cE] at h
  | .pop i, e, X, sc, raw, c, h => by
    cases e with
    | Call g ees kw cp =>
      cases g with
      | Attribute o at_ ap =>
        cases o with
        | Name n p2 =>
          cases ees with
          | nil =>
            cases kw with
            | nil =>
              simp only [cE, Bool.and_eq_true, decide_eq_true_eq] at h
              obtain ⟨⟨⟨⟨rfl, h1⟩, h2⟩, h3⟩, h4⟩ := h
              obtain ⟨n1, n2⟩ := okN_of h3
              simp only [ev]
              exact se_pop (by rw [c.hN]; exact h1) (vis_of c h2) n1 n2 rfl h4
            | cons _ _ => simp [cE] at h
          | cons _ _ => simp [cE] at h
        | _ => simp [cE] at h
      | _ => simp [cE] at h
    | _ => simp [cE] at h
  | .mth m a e1, e, X, sc, raw, c, h => by
    cases e with
    | Call g ees kw cp =>
      cases g with
      | Attribute o at_ ap =>
        match ees, h with
        | [ee], h =>
          cases kw with
          | nil =>
            simp only [cE, Bool.and_eq_true, decide_eq_true_eq] at h
            obtain ⟨⟨⟨⟨⟨rfl, h1⟩, h2⟩, h3⟩, h4⟩, h5⟩ := h
            simp only [ev]
            exact se_mth c.room h1 h2 h3 (sE a o X sc raw c h4) (sE e1 ee X sc raw c h5)
          | cons _ _ => simp [cE] at h
        | [], h => simp [cE] at h
        | _ :: _ :: _, h => simp [cE] at h
      | _ => simp [cE] at h
    | _ => simp [cE] at h
  | .rev a, e, X, sc, raw, c, h => by
    cases e with
    | Subscript ea ei p =>
      cases ei with
      | Slice elo ehi est p2 =>
        cases elo <;> cases ehi <;> first | (simp [cE] at h; done) | skip
        cases est with
        | none => simp [cE] at h
        | some st =>
          cases st with
          | UnaryOp op ec p3 =>
            cases op <;> cases ec <;> first | (simp [cE] at h; done) | skip
            rename_i cc j p4
            cases cc <;> first | (simp [cE] at h; done) | skip
            simp only [cE, Bool.and_eq_true, decide_eq_true_eq] at h
            obtain ⟨rfl, h2⟩ := h
            simp only [ev]
            exact se_rev (sE a ea X sc raw c h2)
          | _ => simp [cE] at h
      | _ => simp [cE] at h
    | _ => simp [cE] at h
  | .isb ng kk a, e, X, sc, raw, c, h => by
    cases e with
    | Compare ea ops es p =>
      match ops, es, h with
      | [op], [.Constant (.bool b) j p2], h =>
        simp only [cE, Bool.and_eq_true, decide_eq_true_eq] at h
        obtain ⟨⟨rfl, rfl⟩, h2⟩ := h
        simp only [ev]
        exact se_isb (sE a ea X sc raw c h2)
      | [], _, h => simp [cE] at h
      | _ :: _ :: _, _, h => simp [cE] at h
      | [_], [], h => simp [cE] at h
      | [_], _ :: _ :: _, h => simp [cE] at h
      | [_], [eb], h =>
        cases eb with
        | Constant cc j p2 =>
          cases cc with
          | bool b =>
            simp only [cE, Bool.and_eq_true, decide_eq_true_eq] at h
            obtain ⟨⟨rfl, rfl⟩, h2⟩ := h
            simp only [ev]
            exact se_isb (sE a ea X sc raw c h2)
          | _ => simp [cE] at h
        | _ => simp [cE] at h
    | _ => simp [cE] at h
  | .rgv tup es, e, X, sc, raw, c, h => by
    cases e with
    | Call g ees kw p =>
      cases g with
      | Name x p2 =>
        match ees, kw, h with
        | [.Call (.Name y p3) es2 [] p4], [], h =>
          simp only [cE, Bool.and_eq_true, decide_eq_true_eq] at h
          obtain ⟨⟨⟨⟨⟨⟨rfl, rfl⟩, h3⟩, h4⟩, h5⟩, h6⟩, h7⟩ := h
          have h6 : es2.length = 1 ∨ es2.length = 2 := by simpa using h6
          have hm2 : X.mg (rgvName tup) = none := by
            cases tup with
            | true => exact c.bls .tuple
            | false => exact c.bls .list
          simp only [ev]
          exact se_rgv c.calm (gl_of c h4) c.its.1 (gl_of c h3) hm2 h5 h6 (sEs es es2 X sc raw c h7)
        | [], _, h => simp [cE] at h
        | _ :: _ :: _, _, h => simp [cE] at h
        | [_], _ :: _, h => simp [cE] at h
        | [e1], [], h =>
          cases e1 with
          | Call g2 es2 kw2 p4 =>
            cases g2 with
            | Name y p3 =>
              cases kw2 with
              | nil =>
                simp only [cE, Bool.and_eq_true, decide_eq_true_eq] at h
                obtain ⟨⟨⟨⟨⟨⟨rfl, rfl⟩, h3⟩, h4⟩, h5⟩, h6⟩, h7⟩ := h
                have h6 : es2.length = 1 ∨ es2.length = 2 := by simpa using h6
                have hm2 : X.mg (rgvName tup) = none := by
                  cases tup with
                  | true => exact c.bls .tuple
                  | false => exact c.bls .list
                simp only [ev]
                exact se_rgv c.calm (gl_of c h4) c.its.1 (gl_of c h3) hm2 h5 h6 (sEs es es2 X sc raw c h7)
              | cons _ _ => simp [cE] at h
            | _ => simp [cE] at h
          | _ => simp [cE] at h
      | _ => simp [cE] at h
    | _ => simp [cE] at h
  | .upper a, e, X, sc, raw, c, h => by
    cases e with
    | Call g ees kw cp =>
      cases g with
      | Attribute o at_ ap =>
        cases ees with
        | nil =>
          cases kw with
          | nil =>
            simp only [cE, Bool.and_eq_true, decide_eq_true_eq] at h
            obtain ⟨⟨⟨rfl, h2⟩, h3⟩, h4⟩ := h
            simp only [ev]
            exact se_upper (sE a o X sc raw c h4) (att_ok h2) h3
          | cons _ _ => simp [cE] at h
        | cons _ _ => simp [cE] at h
      | _ => simp [cE] at h
    | _ => simp [cE] at h
  | .sset a, e, X, sc, raw, c, h => by
    cases e with
    | Call g ees kw p =>
      cases g with
      | Name x p2 =>
        match ees, kw, h with
        | [.Call (.Name y p3) [ea] [] p4], [], h =>
          simp only [cE, Bool.and_eq_true, decide_eq_true_eq] at h
          obtain ⟨⟨⟨⟨⟨rfl, rfl⟩, h3⟩, h4⟩, h5⟩, h6⟩ := h
          simp only [ev]
          exact se_sset c.calm (gl_of c h3) (c.bls .sorted) (gl_of c h4) c.its.2.2.2.2 h5 (sE a ea X sc raw c h6)
        | [], _, h => simp [cE] at h
        | _ :: _ :: _, _, h => simp [cE] at h
        | [_], _ :: _, h => simp [cE] at h
        | [e1], [], h =>
          cases e1 with
          | Call g2 es2 kw2 p4 =>
            cases g2 with
            | Name y p3 =>
              match es2, kw2, h with
              | [ea], [], h =>
                simp only [cE, Bool.and_eq_true, decide_eq_true_eq] at h
                obtain ⟨⟨⟨⟨⟨rfl, rfl⟩, h3⟩, h4⟩, h5⟩, h6⟩ := h
                simp only [ev]
                exact se_sset c.calm (gl_of c h3) (c.bls .sorted) (gl_of c h4) c.its.2.2.2.2 h5 (sE a ea X sc raw c h6)
              | [], _, h => simp [cE] at h
              | _ :: _ :: _, _, h => simp [cE] at h
              | [_], _ :: _, h => simp [cE] at h
            | _ => simp [cE] at h
          | _ => simp [cE] at h
      | _ => simp [cE] at h
    | _ => simp [cE] at h
  | .lset a, e, X, sc, raw, c, h => by
    cases e with
    | Call g ees kw p =>
      cases g with
      | Name x p2 =>
        match ees, kw, h with
        | [.Call (.Name y p3) [ea] [] p4], [], h =>
          simp only [cE, Bool.and_eq_true, decide_eq_true_eq] at h
          obtain ⟨⟨⟨⟨⟨rfl, rfl⟩, h3⟩, h4⟩, h5⟩, h6⟩ := h
          simp only [ev]
          exact se_lset c.calm (gl_of c h3) (c.bls .len) (gl_of c h4) c.its.2.2.2.2 h5 (sE a ea X sc raw c h6)
        | [], _, h => simp [cE] at h
        | _ :: _ :: _, _, h => simp [cE] at h
        | [_], _ :: _, h => simp [cE] at h
        | [e1], [], h =>
          cases e1 with
          | Call g2 es2 kw2 p4 =>
            cases g2 with
            | Name y p3 =>
              match es2, kw2, h with
              | [ea], [], h =>
                simp only [cE, Bool.and_eq_true, decide_eq_true_eq] at h
                obtain ⟨⟨⟨⟨⟨rfl, rfl⟩, h3⟩, h4⟩, h5⟩, h6⟩ := h
                simp only [ev]
                exact se_lset c.calm (gl_of c h3) (c.bls .len) (gl_of c h4) c.its.2.2.2.2 h5 (sE a ea X sc raw c h6)
              | [], _, h => simp [cE] at h
              | _ :: _ :: _, _, h => simp [cE] at h
              | [_], _ :: _, h => simp [cE] at h
            | _ => simp [cE] at h
          | _ => simp [cE] at h
      | _ => simp [cE] at h
    | _ => simp [cE] at h
  | .dnew t, e, X, sc, raw, c, h => by
    cases e with
    | Dict ks vs p =>
      cases ks with
      | nil =>
        cases vs with
        | nil =>
          simp only [ev]
          exact se_dnew t
        | cons _ _ => simp [cE] at h
      | cons _ _ => simp [cE] at h
    | _ => simp [cE] at h
  | .dsrt i, e, X, sc, raw, c, h => by
    cases e with
    | Call g ees kw p =>
      cases g with
      | Name x p2 =>
        match ees, kw, h with
        | [.Name n p3], [], h =>
          simp only [cE, Bool.and_eq_true, decide_eq_true_eq] at h
          obtain ⟨⟨⟨⟨rfl, h3⟩, h4⟩, h5⟩, h6⟩ := h
          obtain ⟨n1, n2⟩ := okN_of h6
          simp only [ev]
          exact se_dsrt (by have := c.room.un; omega) c.calm (gl_of c h3) (c.bls .sorted) (by rw [c.hN]; exact h4) (vis_of c h5) n1 n2
        | [], _, h => simp [cE] at h
        | _ :: _ :: _, _, h => simp [cE] at h
        | [_], _ :: _, h => simp [cE] at h
        | [e1], [], h =>
          cases e1 with
          | Name n p3 =>
            simp only [cE, Bool.and_eq_true, decide_eq_true_eq] at h
            obtain ⟨⟨⟨⟨rfl, h3⟩, h4⟩, h5⟩, h6⟩ := h
            obtain ⟨n1, n2⟩ := okN_of h6
            simp only [ev]
            exact se_dsrt (by have := c.room.un; omega) c.calm (gl_of c h3) (c.bls .sorted) (by rw [c.hN]; exact h4) (vis_of c h5) n1 n2
          | _ => simp [cE] at h
      | _ => simp [cE] at h
    | _ => simp [cE] at h
  | .ditm i, e, X, sc, raw, c, h => by
    have key : ∀ {x : Str} {p2 p : Pos} {e1 : Expr}, cE k sc (.ditm i) (.Call (.Name x p2) [e1] [] p) = true → SE X (.Call (.Name x p2) [e1] [] p) (ev P (.ditm i)) := by
      intro x p2 p e1 h
      cases e1 with
      | Call g2 es2 kw2 cp =>
        cases g2 with
        | Attribute o at_ ap =>
          cases o with
          | Name n p3 =>
            cases es2 with
            | nil =>
              cases kw2 with
              | nil =>
                simp only [cE, Bool.and_eq_true, decide_eq_true_eq] at h
                obtain ⟨⟨⟨⟨⟨⟨rfl, rfl⟩, h3⟩, h4⟩, h5⟩, h6⟩, h7⟩ := h
                obtain ⟨n1, n2⟩ := okN_of h6
                simp only [ev]
                exact se_ditm (by have := c.room.un; omega) c.calm (gl_of c h3) (c.bls .sorted) (by rw [c.hN]; exact h4) (vis_of c h5) n1 n2 rfl h7
              | cons _ _ => simp [cE] at h
            | cons _ _ => simp [cE] at h
          | _ => simp [cE] at h
        | _ => simp [cE] at h
      | _ => simp [cE] at h
    cases e with
    | Call g ees kw p =>
      cases g with
      | Name x p2 =>
        match ees, kw, h with
        | [e1], [], h => exact key h
        | [], _, h => simp [cE] at h
        | _ :: _ :: _, _, h => simp [cE] at h
        | [_], _ :: _, h => simp [cE] at h
      | _ => simp [cE] at h
    | _ => simp [cE] at h
theorem sEs : ∀ (ms : List E) (es : List Expr) (X : Cx) (sc raw : Scope), CtxOk k sc raw P lev X → cEs k sc ms es = true → SEs X es (evs P ms)
  | [], es, X, sc, raw, c, h => by
    cases es with
    | nil => exact .nil
    | cons _ _ => simp [cEs] at h
  | m :: ms, es, X, sc, raw, c, h => by
    cases es with
    | nil => simp [cEs] at h
    | cons e es =>
      simp only [cEs, Bool.and_eq_true] at h
      exact .cons (sE m e X sc raw c h.1) (sEs ms es X sc raw c h.2)
theorem sO : ∀ (ms : List E) (o : Option Expr) (X : Cx) (sc raw : Scope), CtxOk k sc raw P lev X → cO k sc ms o = true → match o, evs P ms with | none, [] => True | some e, [m] => SE X e m | _, _ => False
  | [], o, X, sc, raw, c, h => by
    cases o with
    | none => exact trivial
    | some e => simp [cO] at h
  | [m], o, X, sc, raw, c, h => by
    cases o with
    | none => simp [cO] at h
    | some e => exact sE m e X sc raw c (by simpa only [cO] using h)
  | _ :: _ :: _, o, X, sc, raw, c, h => by cases o <;> simp [cO] at h
end
end
end Mini

namespace Mini
open PySem PySem.Spec L2
/-! statements of the text -/
def plainSw : Expr → Bool
  | .ListComp _ _ _ _ => false
  | .SetComp _ _ _ _ => false
  | .DictComp _ _ _ _ _ => false
  | _ => true
theorem plainSw_of {v : Expr} {t : Option Expr} {l : Nat} {env : PySem.Env} (h : plainSw v = true) : swapsWith v t l env = pure false := by
  cases v <;> first | rfl | cases h
/-- a comprehension stored to a name: does the store swap -/
def swL (sc : Scope) (s : Scope) (x : Str) (xp lp : Pos) : Option Bool :=
  if sc.names.lookup x = some .local then
    (if (xp.line == lp.line) = true ∧ (s.names.any fun (n, k) => n == x && (k == .local || k == .cell)) = false then some true else if (xp.line == lp.line) = false then some false else none)
  else some false
theorem sw_false {elt : Expr} {gs : List Comprehension} {scope : Scope} {pos py : Pos} {y : Str} {l : Nat} {env : PySem.Env} (hy : env.scope.names.lookup y ≠ some .local) : swapsWith (.ListComp elt gs scope pos) (some (.Name y py)) l env = pure false := by
  have ky : (env.kindOf y == some .local) = false := by
    have : env.kindOf y ≠ some .local := hy
    simpa using this
  unfold swapsWith
  simp only [ky, Bool.and_false, Bool.false_and]
theorem sw_line {elt : Expr} {gs : List Comprehension} {scope : Scope} {pos py : Pos} {y : Str} {l : Nat} {env : PySem.Env} (hl : (py.line == pos.line) = false) : swapsWith (.ListComp elt gs scope pos) (some (.Name y py)) l env = pure false := by
  unfold swapsWith
  simp only [Expr.pos, hl, Bool.and_false, Bool.false_and]
def okV (sc : Scope) (x : Str) (xp : Pos) : Expr → Bool
  | .ListComp _ _ s lp => (match swL sc s x xp lp with | some _ => true | none => false)
  | v => plainSw v
/-- several names at once: which way the stores go -/
def isStar : Expr → Bool
  | .Starred _ _ => true
  | _ => false
def nmAt (sc : Scope) (line : Nat) : Expr → Option Str
  | .Name id pos => if sc.names.lookup id == some .local && pos.line == line then some id else none
  | _ => none
def nms (sc : Scope) (tes : List Expr) : List Str := tes.filterMap (nmAt sc ((tes.head?.map (·.pos.line)).getD 0))
def swS (sc : Scope) (tes : List Expr) (v : Expr) : Option (Option (List Str)) :=
  match v with
  | .Tuple vs _ _ =>
    if (!(tes.length == 2 || tes.length == 3) || vs.length != tes.length) = true then some none
    else if (vs.any isStar) = true then some none
    else if ((nms sc tes).length != tes.length || (nms sc tes).eraseDups.length != (nms sc tes).length) = true then some none
    else if vs.all (foldedForSure 8) = true then some none
    else if vs.all (constantsAlone 8) = true then none
    else some (some (nms sc tes))
  | _ => some none
theorem sw_form (tes vs : List Expr) (kt k2 : Nat) (pt p2 : Pos) (env : PySem.Env) : swappedStores [.Tuple tes kt pt] (.Tuple vs k2 p2) env =
    (if (!(tes.length == 2 || tes.length == 3) || vs.length != tes.length || env.blockKind != ScopeKind.function) = true then pure none
    else if (vs.any isStar) = true then pure none
    else if ((nms env.scope tes).length != tes.length || (nms env.scope tes).eraseDups.length != (nms env.scope tes).length) = true then pure none
    else if vs.all (foldedForSure 8) = true then pure none
    else if vs.all (constantsAlone 8) = true then (do unsupported "assign.tuple-of-constant-expressions:order-of-the-stores"; pure (some (nms env.scope tes))) else pure (some (nms env.scope tes))) := by
  unfold swappedStores
  dsimp only [pure_bind]
  rfl
theorem swS_of {sc : Scope} {tes : List Expr} {v : Expr} {kt : Nat} {pt : Pos} {env : PySem.Env} (hs : env.scope = sc) (hk : sc.kind = .function) {r : Option (List Str)} (h : swS sc tes v = some r) : swappedStores [.Tuple tes kt pt] v env = pure r := by
  have hb : env.blockKind = .function := by unfold PySem.Env.blockKind; rw [hs, hk]; rfl
  have hb2 : (env.blockKind != .function) = false := by rw [hb]; rfl
  subst hs
  have other : swS env.scope tes v = some none → (∀ vs a b, v ≠ .Tuple vs a b) → swappedStores [.Tuple tes kt pt] v env = pure none := fun _ n => by
    cases v <;> first | rfl | exact absurd rfl (n _ _ _)
  by_cases hv : ∃ vs a b, v = .Tuple vs a b
  · obtain ⟨vs, k2, p2, rfl⟩ := hv
    rw [sw_form, hb2, Bool.or_false]
    simp only [swS] at h
    by_cases c1 : (!(tes.length == 2 || tes.length == 3) || vs.length != tes.length) = true
    · rw [if_pos c1] at h ⊢; cases h; rfl
    rw [if_neg c1] at h ⊢
    by_cases c2 : (vs.any isStar) = true
    · rw [if_pos c2] at h ⊢; cases h; rfl
    rw [if_neg c2] at h ⊢
    by_cases c3 : ((nms env.scope tes).length != tes.length || (nms env.scope tes).eraseDups.length != (nms env.scope tes).length) = true
    · rw [if_pos c3] at h ⊢; cases h; rfl
    rw [if_neg c3] at h ⊢
    by_cases c4 : vs.all (foldedForSure 8) = true
    · rw [if_pos c4] at h ⊢; cases h; rfl
    rw [if_neg c4] at h ⊢
    by_cases c5 : vs.all (constantsAlone 8) = true
    · rw [if_pos c5] at h; cases h
    rw [if_neg c5] at h ⊢
    cases h; rfl
  · have n : ∀ vs a b, v ≠ .Tuple vs a b := fun vs a b e => hv ⟨vs, a, b, e⟩
    have e : swS env.scope tes v = some none := by
      cases v <;> first | rfl | exact absurd rfl (n _ _ _)
    rw [e] at h; cases h
    exact other e n
/-- two names at once -/
def parB (sc : Scope) (ts : List T) (e : E) (tes : List Expr) (v : Expr) (names : List Str) : Bool := match ts, e, tes, v with
        | [.nm i, .nm j], .tup [ea, eb], [.Name x _, .Name y _], .Tuple [a, b] _ _ => decide (i ≠ j) && notStar a && notStar b && decide (sc.names.lookup x = some .local) && decide (sc.names.lookup y = some .local) && decide (names = [x, y])
        | _, _, _, _ => false
theorem parB_form {sc : Scope} {ts : List T} {e : E} {tes : List Expr} {v : Expr} {names : List Str} (h : parB sc ts e tes v names = true) : ∃ i j ea eb x px y py a b k2 pt2, ts = [.nm i, .nm j] ∧ e = .tup [ea, eb] ∧ tes = [.Name x px, .Name y py] ∧ v = .Tuple [a, b] k2 pt2 ∧
    i ≠ j ∧ notStar a = true ∧ notStar b = true ∧ sc.names.lookup x = some .local ∧ sc.names.lookup y = some .local ∧ names = [x, y] := by
  unfold parB at h
  split at h
  · simp only [Bool.and_eq_true, decide_eq_true_eq] at h
    obtain ⟨⟨⟨⟨⟨g1, g2⟩, g3⟩, g4⟩, g5⟩, g6⟩ := h
    exact ⟨_, _, _, _, _, _, _, _, _, _, _, _, rfl, rfl, rfl, rfl, g1, g2, g3, g4, g5, g6⟩
  · cases h
def cAsg (k : Ck) (sc : Scope) (fz : List Nat) (t : T) (e : E) (st : Stmt) : Bool := match t, st with
  | .nm i, .Assign [.Name x xp] v p => decide (k.N[i]? = some x) && locB sc x && !fz.contains i && cE k sc e v && okV sc x xp v
  | .tp ts, .Assign [.Tuple tes kt pt] v p => cT k.N sc (.tp ts) (.Tuple tes kt pt) && (slotsL ts).all (fun i => !fz.contains i) && cE k sc e v && plainSw v && (match swS sc tes v with
      | some none => true
      | some (some names) => parB sc ts e tes v names
      | none => false)
  | _, _ => false
def notSlice : Expr → Bool
  | .Slice _ _ _ _ => false
  | _ => true
def cSeti (k : Ck) (sc : Scope) (x : Nat) (i e : E) (st : Stmt) : Bool := match st with
  | .Assign [.Subscript (.Name n _) ie _] v p => decide (k.N[x]? = some n) && visB sc n && okN n && plainSw v && notSlice ie && cE k sc i ie && cE k sc e v
  | _ => false
def cAug (k : Ck) (sc : Scope) (fz : List Nat) (i : Nat) (op : Operator) (e : E) (st : Stmt) : Bool := match st with
  | .AugAssign (.Name x _) op' v _ => decide (op = op') && decide (k.N[i]? = some x) && locB sc x && !fz.contains i && cE k sc e v
  | _ => false
def cMeth (k : Ck) (sc : Scope) (name : Str) (x : Nat) (e : E) (st : Stmt) : Bool := match st with
  | .Expr (.Call (.Attribute (.Name n _) at_ ap) [v] [] cp) _ => decide (at_ = name) && decide (k.N[x]? = some n) && visB sc n && okN n && notStar v && (ap.endLine == cp.line) && cE k sc e v
  | _ => false
def cAugi (k : Ck) (sc : Scope) (x : Nat) (i : E) (op : Operator) (e : E) (st : Stmt) : Bool := match st with
  | .AugAssign (.Subscript (.Name n _) ie _) op' v _ => decide (op = op') && decide (k.N[x]? = some n) && visB sc n && okN n && notSlice ie && cE k sc i ie && cE k sc e v
  | _ => false
def cAugl (k : Ck) (sc : Scope) (x : Nat) (e : E) (st : Stmt) : Bool := match st with
  | .AugAssign (.Name n _) op' v _ => decide (op' = .Add) && decide (k.N[x]? = some n) && locB sc n && cE k sc e v
  | _ => false
def cPar (k : Ck) (sc : Scope) (fz : List Nat) (i j : Nat) (a b : E) (st : Stmt) : Bool := match st with
  | .Assign [.Tuple [.Name x px, .Name y py] _ _] (.Tuple [ea, eb] k2 p2) _ => decide (k.N[i]? = some x) && decide (k.N[j]? = some y) && decide (i ≠ j) && !fz.contains i && !fz.contains j && decide (sc.names.lookup x = some .local) && decide (sc.names.lookup y = some .local) && notStar ea && notStar eb
      && decide (swS sc [.Name x px, .Name y py] (.Tuple [ea, eb] k2 p2) = some (some [x, y])) && cE k sc a ea && cE k sc b eb
  | _ => false
/-- plain names, one for each slot -/
def cNs (N : List Str) (sc : Scope) : List Nat → List Expr → Bool
  | [], [] => true
  | i :: is, .Name x _ :: es => decide (N[i]? = some x) && locB sc x && cNs N sc is es
  | _, _ => false
/-- three local names -/
def par3B (sc : Scope) (is : List Nat) (tes ees : List Expr) (k2 : Nat) (p2 : Pos) : Bool := match is, tes, ees with
  | [i, j, l], [.Name x _, .Name y _, .Name z _], [a, b, c] => decide (i ≠ j) && decide (i ≠ l) && decide (j ≠ l) && decide (sc.names.lookup x = some .local) && decide (sc.names.lookup y = some .local) && decide (sc.names.lookup z = some .local) && decide (swS sc tes (.Tuple ees k2 p2) = some (some [x, y, z]))
  | _, _, _ => false
def cParn (k : Ck) (sc : Scope) (fz : List Nat) (is : List Nat) (es : List E) (st : Stmt) : Bool := match st with
  | .Assign [.Tuple tes _ _] (.Tuple ees k2 p2) _ => cNs k.N sc is tes && is.all (fun i => !fz.contains i) && ees.all notStar && (decide (swS sc tes (.Tuple ees k2 p2) = some none) || par3B sc is tes ees k2 p2) && cEs k sc es ees
  | _ => false
def cIns (k : Ck) (sc : Scope) (x : Nat) (i e : E) (st : Stmt) : Bool := match st with
  | .Expr (.Call (.Attribute (.Name n _) at_ ap) [ei, v] [] cp) _ => decide (at_ = "insert") && decide (k.N[x]? = some n) && visB sc n && okN n && notStar ei && notStar v && (ap.endLine == cp.line) && cE k sc i ei && cE k sc e v
  | _ => false
def cDput (k : Ck) (sc : Scope) (x : Nat) (i e : E) (st : Stmt) : Bool := match st with
  | .Assign [.Subscript (.Name n _) ie _] v p => decide (k.N[x]? = some n) && visB sc n && okN n && plainSw v && cE k sc i ie && cE k sc e v
  | _ => false
def cDputT (k : Ck) (sc : Scope) (x : Nat) (is : List E) (e : E) (st : Stmt) : Bool := match st with
  | .Assign [.Subscript (.Name n _) (.Tuple ies _ _) _] v p => decide (k.N[x]? = some n) && visB sc n && okN n && plainSw v && ies.all notStar && cEs k sc is ies && cE k sc e v
  | _ => false
def cExp (k : Ck) (sc : Scope) (e : E) (st : Stmt) : Bool := match st with
  | .Expr v _ => plainSw v && cE k sc e v
  | _ => false
def cRet (k : Ck) (sc : Scope) (e : E) (st : Stmt) : Bool := match st with
  | .Return (some v) _ => cE k sc e v
  | _ => false
def isBrk : Stmt → Bool
  | .Break _ => true
  | _ => false
def isCont : Stmt → Bool
  | .Continue _ => true
  | _ => false
def isPass : Stmt → Bool
  | .Pass _ => true
  | _ => false
mutual
def cC (k : Ck) (sc : Scope) (fz : List Nat) : C → Stmt → Bool
  | .asg t e, st => cAsg k sc fz t e st
  | .seti x i e, st => cSeti k sc x i e st
  | .aug i op e, st => cAug k sc fz i op e st
  | .augi x i op e, st => cAugi k sc x i op e st
  | .par i j a b, st => cPar k sc fz i j a b st
  | .parn is es, st => cParn k sc fz is es st
  | .augl x e, st => cAugl k sc x e st
  | .ins x i e, st => cIns k sc x i e st
  | .rem x e, st => cMeth k sc "remove" x e st
  | .app x e, st => cMeth k sc "append" x e st
  | .ext x e, st => cMeth k sc "extend" x e st
  | .dput x i e, st => cDput k sc x i e st
  | .dputT x is e, st => cDputT k sc x is e st
  | .expr e, st => cExp k sc e st
  | .ret e, st => cRet k sc e st
  | .ife c a b, st => (match st with
    | .If ec ea eb _ => cE k sc c ec && cCs k sc fz a ea && cCs k sc fz b eb
    | _ => false)
  | .wh c b, st => (match st with
    | .While ec eb el _ => el.isEmpty && cE k sc c ec && cCs k sc fz b eb
    | _ => false)
  | .fr t kk its b, st => (match st with
    | .For tg it eb el _ => el.isEmpty && cT k.N sc t tg && t.slots.all (fun i => !fz.contains i) && (match itArgs false sc kk (isTuple tg) it with | some args => cEs k sc its args | none => false) && cCs k sc fz b eb
    | _ => false)
  | .brk, st => isBrk st
  | .cont, st => isCont st
  | .pass, st => isPass st
  | .never, _ => true
def cCs (k : Ck) (sc : Scope) (fz : List Nat) : List C → List Stmt → Bool
  | [], sts => sts.isEmpty
  | c :: cs, sts => (match sts with
    | s :: ss => cC k sc fz c s && cCs k sc fz cs ss
    | [] => false)
end
section
variable {k : Ck} {P : Ph} {lev : Nat} {sc : Scope} {X : Cx} {fz : List Nat}
theorem nin {i : Nat} (h : (!fz.contains i) = true) : i ∉ fz := fun z => by
  simp only [Bool.not_eq_true', List.contains_eq_mem, decide_eq_false_iff_not] at h; exact h z
theorem ses_frO {P : Ph} : ∀ {es : List Expr} {ms : List M}, SEs X es ms → SEs X es (ms.map frO)
  | [], _, .nil => .nil
  | e :: es, _, .cons h hs => .cons (se_frO h) (ses_frO (P := P) hs)
theorem loc_of (c : CtxOk k sc sc P lev X) {x : Str} (h : locB sc x = true) : Loc X.env.scope x := (c.asg x h).1
theorem aug_subS {ie : Expr} (h : notSlice ie = true) (ov iv new : Value) : augStore ie ov iv new = (do holding [new, ov, iv] (setItem ov iv new); release [new, ov, iv] []; pure .next) := by
  cases ie <;> first | rfl | cases h
theorem assign_sub {n : Str} {p sp : Pos} {ie : Expr} {env : PySem.Env} (h : notSlice ie = true) (v : Value) : assign (.Subscript (.Name n p) ie sp) env v = (do
      let ov ← holding [v] (eval (.Name n p) env)
      let iv ← holding [v, ov] (eval ie env)
      standAt sp
      holding [v, ov, iv] (setItem ov iv v)
      release [v, ov, iv] []) := by
  cases ie <;> first | rfl | cases h
set_option maxHeartbeats 4000000 in
/-- the assignment to one name -/
theorem sAsg (hk : sc.kind = .function) (c : CtxOk k sc sc P lev X) {i : Nat} {x : Str} {xp p : Pos} {e : E} {v : Expr} (h1 : k.N[i]? = some x) (h2 : locB sc x = true) (h3 : i ∉ fz) (h4 : cE k sc e v = true)
    (h5 : okV sc x xp v = true) : SS X fz (.Assign [.Name x xp] v p) (asgO i (ev P e).val) := by
  have hi : X.N[i]? = some x := by rw [c.hN]; exact h1
  have hf := (c.asg x h2).2
  have plain : ∀ {l : Nat}, swapsWith v (some (.Name x xp)) l X.env = pure false → SS X fz (.Assign [.Name x xp] v p) (asgO i (ev P e).val) := fun {l} hs => by
    have hs' : swapsWith v (some (.Name x xp)) p.line X.env = pure false := by
      cases v with
      | ListComp elt gs s lp => exact hs
      | SetComp elt gs s lp => exact hs
      | DictComp a elt gs s lp => exact hs
      | _ => rfl
    exact ss_set h3 c.nd hi (loc_of c h2) (sE e v X sc sc c h4).val hs' hf
  cases v with
  | ListComp elt gs s lp =>
    simp only [okV] at h5
    split at h5
    case h_2 => cases h5
    rename_i bb hsw
    unfold swL at hsw
    split at hsw
    · rename_i hl
      split at hsw
      · rename_i hc
        -- the store swaps
        cases e with
        | lc t kk its cond elt' own =>
          match gs, h4 with
          | [⟨tg, iter, ifs, ia⟩], h =>
            simp only [cE, Bool.and_eq_true, decide_eq_true_eq] at h
            obtain ⟨⟨⟨⟨⟨⟨⟨rfl, hb⟩, ht⟩, hsl⟩, hit⟩, hl2⟩, hc2⟩, he⟩ := h
            split at hit
            case h_2 => cases hit
            rename_i args ha
            refine (lc_parts (pos := lp) c hb ht hsl ha hl2 (sEs its args X sc sc c hit) (fun s H C cl fp => sEs cond ifs _ _ _ (c.blk _ hb s H C cl fp) hc2) (fun s H C cl fp => sE elt' elt _ _ _ (c.blk _ hb s H C cl fp) he)).2 h3 hi (by rw [c.sc]; exact hl) ?_
            exact sw_true (by rw [c.sc]; exact hk) (by rw [c.sc]; exact hl) hc.1 hc.2
          | [], h => simp [cE] at h
          | _ :: _ :: _, h => simp [cE] at h
        | _ => simp [cE] at h4
      · split at hsw
        · rename_i hline
          exact plain (l := 0) (sw_line hline)
        · cases hsw
    · rename_i hl
      exact plain (l := 0) (sw_false (by rw [c.sc]; exact hl))
  | _ => exact plain (l := 0) (plainSw_of h5)
end
end Mini

namespace Mini
open PySem PySem.Spec L2
section
variable {k : Ck} {P : Ph} {lev : Nat} {sc : Scope} {X : Cx} {fz : List Nat}
theorem sPar (hk : sc.kind = .function) (c : CtxOk k sc sc P lev X) {ts : List T} {e : E} {tes : List Expr} {v : Expr} {names : List Str} {kt : Nat} {pt p : Pos} (hz : ∀ i ∈ fz, i ∉ (T.tp ts).slots) (h1 : cT k.N sc (.tp ts) (.Tuple tes kt pt) = true) (h3 : cE k sc e v = true) (h4 : plainSw v = true)
    (hsw : swS sc tes v = some (some names)) (h5 : parB sc ts e tes v names = true) : SS X fz (.Assign [.Tuple tes kt pt] v p) (unpO (.tp ts) (ev P e).val) := by
  obtain ⟨i, j, ea, eb, x, px, y, py, a, b, k2, pt2, rfl, rfl, rfl, rfl, g1, g2, g3, g4, g5, rfl⟩ := parB_form h5
  simp only [cT, cTs, Bool.and_eq_true, decide_eq_true_eq] at h1
  obtain ⟨⟨q1, q2⟩, ⟨q3, q4⟩, _⟩ := h1
  simp only [cE, cEs, Bool.and_eq_true] at h3
  obtain ⟨_, h3a, h3b, _⟩ := h3
  have hz' : ∀ l ∈ fz, l ≠ i ∧ l ≠ j := fun l hl => ⟨fun z => hz l hl (by subst z; simp [T.slots, slotsL]), fun z => hz l hl (by subst z; simp [T.slots, slotsL])⟩
  have hsl : swapsWithSole [.Tuple [.Name x px, .Name y py] kt pt] (.Tuple [a, b] k2 pt2) p.line X.env = pure false := plainSw_of (v := .Tuple [a, b] k2 pt2) (t := some (.Tuple [.Name x px, .Name y py] kt pt)) (l := p.line) (env := X.env) h4
  have r := ss_par (X := X) (fz := fz) (pos := p) (kt := kt) (pt := pt) (k2 := k2) (pt2 := pt2) (px := px) (py := py) hz' c.calm c.nd
    (by rw [c.hN]; exact q1) (by rw [c.hN]; exact q3) g1 (by rw [c.sc]; exact g4) (by rw [c.sc]; exact g5) g2 g3 (sE ea a X sc sc c h3a) (sE eb b X sc sc c h3b) (swS_of c.sc hk hsw) hsl
  have e2 : (ev P (.tup [ea, eb])).val = (tupM [ev P ea, ev P eb]).val := by simp only [ev, evs]
  rw [e2]; exact r
theorem sAsgC (hk : sc.kind = .function) (c : CtxOk k sc sc P lev X) (t : T) (e : E) (st : Stmt) (h : cAsg k sc fz t e st = true) : SS X fz st (ex P (.asg t e)) := by
  unfold cAsg at h
  split at h
  · rename_i i x xp v p
    simp only [Bool.and_eq_true, decide_eq_true_eq] at h
    obtain ⟨⟨⟨⟨h1, h2⟩, h3⟩, h4⟩, h5⟩ := h
    have r := sAsg (fz := fz) (xp := xp) (p := p) hk c h1 h2 (nin h3) h4 h5
    have e : ex P (.asg (.nm i) e) = asgO i (ev P e).val := by funext env; simp only [ex, asgO]
    rw [e]; exact r
  · rename_i ts tes kt pt v p
    simp only [Bool.and_eq_true] at h
    obtain ⟨⟨⟨⟨h1, h2⟩, h3⟩, h4⟩, h5⟩ := h
    have hz : ∀ i ∈ fz, i ∉ (T.tp ts).slots := fun i hi z => by
      have := List.all_eq_true.mp h2 i (by simpa only [T.slots] using z)
      exact nin this hi
    have e1 : ex P (.asg (.tp ts) e) = unpO (.tp ts) (ev P e).val := by funext env; simp only [ex, unpO]
    rw [e1]
    cases hsw : swS sc tes v with
    | none => rw [hsw] at h5; cases h5
    | some o =>
      cases o with
      | none =>
        have hsl : swapsWithSole [.Tuple tes kt pt] v p.line X.env = pure false := plainSw_of (v := v) (t := some (.Tuple tes kt pt)) (l := p.line) (env := X.env) h4
        exact ss_unp hz (sE e v X sc sc c h3).val (sT c (.tp ts) _ h1) hsl (swS_of c.sc hk hsw) rfl
      | some names =>
        rw [hsw] at h5
        exact sPar hk c hz h1 h3 h4 hsw h5
  · cases h
theorem sSetiC (c : CtxOk k sc sc P lev X) (x : Nat) (i e : E) (st : Stmt) (h : cSeti k sc x i e st = true) : SS X fz st (ex P (.seti x i e)) := by
  unfold cSeti at h
  split at h
  · rename_i n p2 ie sp v p
    simp only [Bool.and_eq_true, decide_eq_true_eq] at h
    obtain ⟨⟨⟨⟨⟨⟨h1, h2⟩, h3⟩, h4⟩, h5⟩, h6⟩, h7⟩ := h
    obtain ⟨n1, n2⟩ := okN_of h3
    have e1 : ex P (.seti x i e) = setiO x (ev P i) (ev P e) := by funext env; simp only [ex, setiO]
    rw [e1]
    have hsl : swapsWithSole [.Subscript (.Name n p2) ie sp] v p.line X.env = pure false := plainSw_of (v := v) (t := some (.Subscript (.Name n p2) ie sp)) (l := p.line) (env := X.env) h4
    exact ss_seti (by rw [c.hN]; exact h1) (vis_of c h2) n1 n2 (sE i ie X sc sc c h6) (sE e v X sc sc c h7) (assign_sub h5) hsl rfl
  · cases h
theorem sAugC (c : CtxOk k sc sc P lev X) (i : Nat) (op : Operator) (e : E) (st : Stmt) (h : cAug k sc fz i op e st = true) : SS X fz st (ex P (.aug i op e)) := by
  unfold cAug at h
  split at h
  · rename_i x p2 op' v p
    simp only [Bool.and_eq_true, decide_eq_true_eq] at h
    obtain ⟨⟨⟨⟨rfl, h1⟩, h2⟩, h3⟩, h4⟩ := h
    have e1 : ex P (.aug i op e) = augO i op (ev P e) := by funext env; simp only [ex, augO] <;> rfl
    rw [e1]
    exact ss_aug (nin h3) c.nd (by rw [c.hN]; exact h1) (loc_of c h2) (sE e v X sc sc c h4) (c.asg x h2).2
  · cases h
theorem sAppC (c : CtxOk k sc sc P lev X) (x : Nat) (e : E) (st : Stmt) (h : cMeth k sc "append" x e st = true) : SS X fz st (ex P (.app x e)) := by
  unfold cMeth at h
  split at h
  · rename_i n p2 at_ ap v cp p
    simp only [Bool.and_eq_true, decide_eq_true_eq] at h
    obtain ⟨⟨⟨⟨⟨⟨rfl, h1⟩, h2⟩, h3⟩, h4⟩, h5⟩, h6⟩ := h
    obtain ⟨n1, n2⟩ := okN_of h3
    have e1 : ex P (.app x e) = appO x (ev P e) := by funext env; simp only [ex, appO]
    rw [e1]
    exact ss_app (by rw [c.hN]; exact h1) (vis_of c h2) n1 n2 (sE e v X sc sc c h6) h4 rfl h5 (by rw [star_of h4]; rfl) rfl
  · cases h
theorem sExtC (c : CtxOk k sc sc P lev X) (x : Nat) (e : E) (st : Stmt) (h : cMeth k sc "extend" x e st = true) : SS X fz st (ex P (.ext x e)) := by
  unfold cMeth at h
  split at h
  · rename_i n p2 at_ ap v cp p
    simp only [Bool.and_eq_true, decide_eq_true_eq] at h
    obtain ⟨⟨⟨⟨⟨⟨rfl, h1⟩, h2⟩, h3⟩, h4⟩, h5⟩, h6⟩ := h
    obtain ⟨n1, n2⟩ := okN_of h3
    have e1 : ex P (.ext x e) = extO x (ev P e) := by funext env; simp only [ex, extO]
    rw [e1]
    exact ss_ext (by rw [c.hN]; exact h1) (vis_of c h2) n1 n2 (sE e v X sc sc c h6) h4 rfl h5 (by rw [star_of h4]; rfl) rfl
  · cases h
theorem sAugiC (c : CtxOk k sc sc P lev X) (x : Nat) (i : E) (op : Operator) (e : E) (st : Stmt) (h : cAugi k sc x i op e st = true) : SS X fz st (ex P (.augi x i op e)) := by
  unfold cAugi at h
  split at h
  · rename_i n p2 ie tp op' v p
    simp only [Bool.and_eq_true, decide_eq_true_eq] at h
    obtain ⟨⟨⟨⟨⟨⟨rfl, h1⟩, h2⟩, h3⟩, h4⟩, h5⟩, h6⟩ := h
    obtain ⟨n1, n2⟩ := okN_of h3
    have e1 : ex P (.augi x i op e) = augiO x (ev P i) op (ev P e) := by funext env; simp only [ex, augiO] <;> rfl
    rw [e1]
    exact ss_augi (by rw [c.hN]; exact h1) (vis_of c h2) n1 n2 (sE i ie X sc sc c h5) (sE e v X sc sc c h6) (aug_subS h4)
  · cases h
theorem sAuglC (c : CtxOk k sc sc P lev X) (x : Nat) (e : E) (st : Stmt) (h : cAugl k sc x e st = true) : SS X fz st (ex P (.augl x e)) := by
  unfold cAugl at h
  split at h
  · rename_i n p2 op' v p
    simp only [Bool.and_eq_true, decide_eq_true_eq] at h
    obtain ⟨⟨⟨rfl, h1⟩, h2⟩, h3⟩ := h
    have e1 : ex P (.augl x e) = extO x (ev P e) := by funext env; simp only [ex, extO]
    rw [e1]
    exact ss_ext2 c.nd (by rw [c.hN]; exact h1) (loc_of c h2) (sE e v X sc sc c h3) (c.asg n h2).2
  · cases h
theorem sParC (hk : sc.kind = .function) (c : CtxOk k sc sc P lev X) (i j : Nat) (a b : E) (st : Stmt) (h : cPar k sc fz i j a b st = true) : SS X fz st (ex P (.par i j a b)) := by
  unfold cPar at h
  split at h
  · rename_i x px y py kt pt ea eb k2 p2 p
    simp only [Bool.and_eq_true, decide_eq_true_eq] at h
    obtain ⟨⟨⟨⟨⟨⟨⟨⟨⟨⟨⟨h1, h2⟩, h3⟩, h4⟩, h5⟩, h6⟩, h7⟩, h8⟩, h9⟩, h10⟩, h11⟩, h12⟩ := h
    have e1 : ex P (.par i j a b) = parO i j (ev P a) (ev P b) := by funext env; simp only [ex, parO]
    rw [e1]
    have hsl : swapsWithSole [.Tuple [.Name x px, .Name y py] kt pt] (.Tuple [ea, eb] k2 p2) p.line X.env = pure false := plainSw_of (v := .Tuple [ea, eb] k2 p2) (t := some (.Tuple [.Name x px, .Name y py] kt pt)) (l := p.line) (env := X.env) rfl
    exact ss_parS (fun l hl => ⟨fun z => nin h4 (z ▸ hl), fun z => nin h5 (z ▸ hl)⟩) c.calm c.nd (by rw [c.hN]; exact h1) (by rw [c.hN]; exact h2) h3 (by rw [c.sc]; exact h6) (by rw [c.sc]; exact h7) h8 h9 (sE a ea X sc sc c h11) (sE b eb X sc sc c h12) (swS_of c.sc hk h10) hsl
  · cases h
theorem cNs_len {X : Cx} {k : Ck} {sc : Scope} : ∀ {is : List Nat} {es : List Expr}, cNs k.N sc is es = true → (assignEach es X.env).length = is.length ∧ (assignEach es X.env).findIdx? (·.1) = none
  | [], [], _ => ⟨rfl, rfl⟩
  | i :: is, .Name x px :: es, h => by
    simp only [cNs, Bool.and_eq_true] at h
    obtain ⟨h1, h2⟩ := cNs_len (X := X) h.2
    rw [starA (e := .Name x px) rfl]
    exact ⟨by simp [h1], by simp [List.findIdx?_cons, h2]⟩
  | [], _ :: _, h => by simp [cNs] at h
  | i :: is, [], h => by simp [cNs] at h
  | i :: is, e :: es, h => by
    cases e with
    | Name x px =>
      simp only [cNs, Bool.and_eq_true] at h
      obtain ⟨h1, h2⟩ := cNs_len (X := X) h.2
      rw [starA (e := .Name x px) rfl]
      exact ⟨by simp [h1], by simp [List.findIdx?_cons, h2]⟩
    | _ => simp [cNs] at h
theorem cNs_pgs (c : CtxOk k sc sc P lev X) : ∀ {is : List Nat} {es : List Expr}, cNs k.N sc is es = true → PGs X es (gLs X.K is)
  | [], [], _ => pgs_nilL
  | [], _ :: _, h => by simp [cNs] at h
  | i :: is, [], h => by simp [cNs] at h
  | i :: is, e :: es, h => by
    cases e with
    | Name x px =>
      simp only [cNs, Bool.and_eq_true, decide_eq_true_eq] at h
      obtain ⟨h1, h2⟩ := c.asg x h.1.2
      exact pgs_consL c.nd (by rw [c.hN]; exact h.1.1) h1 h2 (cNs_pgs c h.2) (by rw [starA (e := .Name x px) rfl]; rfl)
    | _ => simp [cNs] at h
theorem sParnC (hk : sc.kind = .function) (c : CtxOk k sc sc P lev X) (is : List Nat) (es : List E) (st : Stmt) (h : cParn k sc fz is es st = true) : SS X fz st (ex P (.parn is es)) := by
  unfold cParn at h
  split at h
  · rename_i tes kt pt ees k2 p2 p
    simp only [Bool.and_eq_true, decide_eq_true_eq] at h
    obtain ⟨⟨⟨⟨h1, h2⟩, h3⟩, h4⟩, h5⟩ := h
    have e1 : ex P (.parn is es) = parnO is (evs P es) := by funext env; simp only [ex, parnO]
    rw [e1]
    have hsl : swapsWithSole [.Tuple tes kt pt] (.Tuple ees k2 p2) p.line X.env = pure false := plainSw_of (v := .Tuple ees k2 p2) (t := some (.Tuple tes kt pt)) (l := p.line) (env := X.env) rfl
    obtain ⟨l1, l2⟩ := cNs_len (X := X) h1
    have hzz : ∀ l ∈ fz, l ∉ is := fun l hl hm => nin (List.all_eq_true.mp h2 l hm) hl
    rcases Bool.or_eq_true_iff.mp h4 with q4 | q4
    case inr =>
      unfold par3B at q4
      split at q4
      · rename_i i j l x px y py z pz a b c'
        simp only [Bool.and_eq_true, decide_eq_true_eq] at q4
        obtain ⟨⟨⟨⟨⟨⟨g1, g2⟩, g3⟩, g4⟩, g5⟩, g6⟩, g7⟩ := q4
        simp only [cNs, Bool.and_eq_true, decide_eq_true_eq, and_true] at h1
        obtain ⟨⟨n1, _⟩, ⟨n2, _⟩, n3, _⟩ := h1
        exact ss_par3n hzz c.calm c.nd (by rw [c.hN]; exact n1) (by rw [c.hN]; exact n2) (by rw [c.hN]; exact n3) g1 g2 g3 (by rw [c.sc]; exact g4) (by rw [c.sc]; exact g5) (by rw [c.sc]; exact g6) h3 (sEs es [a, b, c'] X sc sc c h5) (swS_of c.sc hk g7) hsl
      · cases q4
    have h4 := of_decide_eq_true q4
    exact ss_parn (fun l hl hm => nin (List.all_eq_true.mp h2 l hm) hl) c.calm h3 (sEs es ees X sc sc c h5) (cNs_pgs c h1) l1 l2 hsl (swS_of c.sc hk h4) rfl
  · cases h
theorem sInsC (c : CtxOk k sc sc P lev X) (x : Nat) (i e : E) (st : Stmt) (h : cIns k sc x i e st = true) : SS X fz st (ex P (.ins x i e)) := by
  unfold cIns at h
  split at h
  · rename_i n p2 at_ ap ei v cp p
    simp only [Bool.and_eq_true, decide_eq_true_eq] at h
    obtain ⟨⟨⟨⟨⟨⟨⟨⟨rfl, h1⟩, h2⟩, h3⟩, h4⟩, h5⟩, h6⟩, h7⟩, h8⟩ := h
    obtain ⟨n1, n2⟩ := okN_of h3
    have e1 : ex P (.ins x i e) = insO x (ev P i) (ev P e) := by funext env; simp only [ex, insO]
    rw [e1]
    exact ss_ins (by rw [c.hN]; exact h1) (vis_of c h2) n1 n2 (sE i ei X sc sc c h7) (sE e v X sc sc c h8) h4 h5 rfl h6 (by rw [star_of h4, star_of h5]; rfl) rfl
  · cases h
theorem sRemC (c : CtxOk k sc sc P lev X) (x : Nat) (e : E) (st : Stmt) (h : cMeth k sc "remove" x e st = true) : SS X fz st (ex P (.rem x e)) := by
  unfold cMeth at h
  split at h
  · rename_i n p2 at_ ap v cp p
    simp only [Bool.and_eq_true, decide_eq_true_eq] at h
    obtain ⟨⟨⟨⟨⟨⟨rfl, h1⟩, h2⟩, h3⟩, h4⟩, h5⟩, h6⟩ := h
    obtain ⟨n1, n2⟩ := okN_of h3
    have e1 : ex P (.rem x e) = remO x (ev P e) := by funext env; simp only [ex, remO]
    rw [e1]
    exact ss_rem (by rw [c.hN]; exact h1) (vis_of c h2) n1 n2 (sE e v X sc sc c h6) h4 rfl h5 (by rw [star_of h4]; rfl) rfl
  · cases h
theorem sExpC (c : CtxOk k sc sc P lev X) (e : E) (st : Stmt) (h : cExp k sc e st = true) : SS X fz st (ex P (.expr e)) := by
  unfold cExp at h
  split at h
  · rename_i v p
    simp only [Bool.and_eq_true] at h
    have e1 : ex P (.expr e) = expO (ev P e).val := by funext env; simp only [ex, expO]
    rw [e1]
    exact ss_expr (sE e v X sc sc c h.2).val (plainSw_of h.1)
  · cases h
theorem sRetC (c : CtxOk k sc sc P lev X) (e : E) (st : Stmt) (h : cRet k sc e st = true) : SS X fz st (ex P (.ret e)) := by
  unfold cRet at h
  split at h
  · rename_i v p
    have e1 : ex P (.ret e) = retO (ev P e).val := by funext env; simp only [ex, retO]
    rw [e1]
    exact ss_ret (sE e v X sc sc c h).val
  · cases h
theorem sDputC (c : CtxOk k sc sc P lev X) (x : Nat) (i e : E) (st : Stmt) (h : cDput k sc x i e st = true) : SS X fz st (ex P (.dput x i e)) := by
  unfold cDput at h
  split at h
  · rename_i n p2 ie sp v p
    simp only [Bool.and_eq_true, decide_eq_true_eq] at h
    obtain ⟨⟨⟨⟨⟨h1, h2⟩, h3⟩, h4⟩, h6⟩, h7⟩ := h
    obtain ⟨n1, n2⟩ := okN_of h3
    have e1 : ex P (.dput x i e) = dputO x (ev P i) (ev P e) := by funext env; simp only [ex, dputO]
    rw [e1]
    exact ss_dput (by have := c.room.un; omega) (by rw [c.hN]; exact h1) (vis_of c h2) n1 n2 (sE i ie X sc sc c h6) (sE e v X sc sc c h7) (plainSw_of h4)
  · cases h
theorem sDputTC (c : CtxOk k sc sc P lev X) (x : Nat) (is : List E) (e : E) (st : Stmt) (h : cDputT k sc x is e st = true) : SS X fz st (ex P (.dputT x is e)) := by
  unfold cDputT at h
  split at h
  · rename_i n p2 ies kk tp sp v p
    simp only [Bool.and_eq_true, decide_eq_true_eq] at h
    obtain ⟨⟨⟨⟨⟨⟨h1, h2⟩, h3⟩, h4⟩, h5⟩, h6⟩, h7⟩ := h
    obtain ⟨n1, n2⟩ := okN_of h3
    have e1 : ex P (.dputT x is e) = dputTO x (evs P is) (ev P e) := by funext env; simp only [ex, dputTO]
    rw [e1]
    exact ss_dputT (by have := c.room.un; omega) (by rw [c.hN]; exact h1) (vis_of c h2) n1 n2 h5 (sEs is ies X sc sc c h6) (sE e v X sc sc c h7) (plainSw_of h4)
  · cases h
mutual
/-- THE STATEMENTS -/
theorem sC (hk : sc.kind = .function) (c : CtxOk k sc sc P lev X) : ∀ (m : C) (st : Stmt), cC k sc fz m st = true → SS X fz st (ex P m)
  | .asg t e, st, h => sAsgC hk c t e st (by rw [cC] at h; exact h)
  | .seti x i e, st, h => sSetiC c x i e st (by rw [cC] at h; exact h)
  | .aug i op e, st, h => sAugC c i op e st (by rw [cC] at h; exact h)
  | .augi x i op e, st, h => by rw [cC] at h; exact sAugiC c x i op e st h
  | .par i j a b, st, h => by rw [cC] at h; exact sParC hk c i j a b st h
  | .parn is es, st, h => by rw [cC] at h; exact sParnC hk c is es st h
  | .augl x e, st, h => by rw [cC] at h; exact sAuglC c x e st h
  | .ins x i e, st, h => by rw [cC] at h; exact sInsC c x i e st h
  | .rem x e, st, h => by rw [cC] at h; exact sRemC c x e st h
  | .app x e, st, h => sAppC c x e st (by rw [cC] at h; exact h)
  | .ext x e, st, h => sExtC c x e st (by rw [cC] at h; exact h)
  | .dput x i e, st, h => by rw [cC] at h; exact sDputC c x i e st h
  | .dputT x is e, st, h => by rw [cC] at h; exact sDputTC c x is e st h
  | .expr e, st, h => sExpC c e st (by rw [cC] at h; exact h)
  | .ret e, st, h => sRetC c e st (by rw [cC] at h; exact h)
  | .ife cc a b, st, h => by
    cases st with
    | If ec ea eb p =>
      simp only [cC, Bool.and_eq_true] at h
      have e1 : ex P (.ife cc a b) = ifO (ev P cc).tst (exs P a) (exs P b) := by funext env; simp only [ex, ifO]
      rw [e1]
      exact ss_if (sE cc ec X sc sc c h.1.1) (sCs hk c a ea h.1.2) (sCs hk c b eb h.2)
    | _ => simp [cC] at h
  | .wh cc b, st, h => by
    cases st with
    | While ec eb el p =>
      simp only [cC, Bool.and_eq_true, List.isEmpty_iff] at h
      obtain ⟨⟨rfl, h1⟩, h2⟩ := h
      have e1 : ex P (.wh cc b) = whC (ev P cc).tst (exs P b) := by funext env; simp only [ex]
      rw [e1]
      exact ss_wh (by rw [c.xe]; exact PassesOwn.never) (sE cc ec X sc sc c h1) (sCs hk c b eb h2)
    | _ => simp [cC] at h
  | .fr t kk its b, st, h => by
    cases st with
    | For tg it eb el p =>
      simp only [cC, Bool.and_eq_true, List.isEmpty_iff] at h
      obtain ⟨⟨⟨⟨rfl, h1⟩, h2⟩, h3⟩, h4⟩ := h
      cases ha : itArgs false sc kk (isTuple tg) it with
      | none => rw [ha] at h3; cases h3
      | some args =>
        rw [ha] at h3
        have e1 : ex P (.fr t kk its b) = frO2 t kk (evs P its) (exs P b) := by funext env; simp only [ex, frO2]
        rw [e1]
        obtain ⟨pi, fold⟩ := sI c ha (ses_frO (P := P) (sEs its args X sc sc c h3))
        exact ss_for (fun i hi z => nin (List.all_eq_true.mp h2 i z) hi) (by rw [c.xe]; exact PassesOwn.never) c.calm pi (sT c t tg h1) (sCs hk c b eb h4) fold
    | _ => simp [cC] at h
  | .brk, st, h => by
    rw [cC] at h
    have e1 : ex P .brk = fun env => some (.bk env) := by funext env; simp only [ex]
    rw [e1]
    cases st <;> first | exact ss_brk | cases h
  | .cont, st, h => by
    rw [cC] at h
    have e1 : ex P .cont = fun env => some (.ct env) := by funext env; simp only [ex]
    rw [e1]
    cases st <;> first | exact ss_cont | cases h
  | .pass, st, h => by
    rw [cC] at h
    have e1 : ex P .pass = fun env => some (.nx env) := by funext env; simp only [ex]
    rw [e1]
    cases st <;> first | exact ss_pass | cases h
  | .never, st, h => by
    have e1 : ex P .never = fun env => none := by funext env; simp only [ex]
    rw [e1]; exact ss_never
theorem sCs (hk : sc.kind = .function) (c : CtxOk k sc sc P lev X) : ∀ (ms : List C) (sts : List Stmt), cCs k sc fz ms sts = true → SB X fz sts (exs P ms)
  | [], sts, h => by
    rw [cCs, List.isEmpty_iff] at h
    subst h
    have e1 : exs P [] = fun env => some (.nx env) := by funext env; simp only [exs]
    rw [e1]; exact sb_nil
  | m :: ms, sts, h => by
    cases sts with
    | cons st sts =>
      simp only [cCs, Bool.and_eq_true] at h
      have e1 : exs P (m :: ms) = seqO (ex P m) (exs P ms) := by funext env; simp only [exs, seqO] <;> rfl
      rw [e1]
      exact sb_cons (sC hk c m st h.1) (sCs hk c ms sts h.2)
    | nil => simp [cCs] at h
end
end
end Mini

namespace Mini
open PySem PySem.Spec L2
section
variable {K : PySem.W.Frag} {O O' : Own} {H H' : Hp}
theorem pad_get {as : En} {n i : Nat} {s : Sl} (h : (as ++ List.replicate n Sl.no)[i]? = some s) : as[i]? = some s ∨ s = .no := by
  by_cases hi : i < as.length
  · rw [List.getElem?_append_left hi] at h; exact .inl h
  · rw [List.getElem?_append_right (by omega), List.getElem?_replicate] at h
    split at h
    · cases h; exact .inr rfl
    · cases h
theorem W.pad {as : En} {vs : List V} {n : Nat} (w : W K O H as (vs.map some)) : W K O H (as ++ List.replicate n .no) (vs.map some ++ List.replicate n none) ∧ ∀ b, FpE H (as ++ List.replicate n .no) (vs.map some ++ List.replicate n none) b → FpE H as (vs.map some) b := by
  have l : as.length = vs.length := by have := w.len; simpa using this
  have sg : ∀ {i : Nat} {s : Sl} {v : V}, as[i]? = some s → (vs.map some ++ List.replicate n none)[i]? = some (some v) → (vs.map some)[i]? = some (some v) := fun {i s v} e h => by
    have hi : i < as.length := (List.getElem?_eq_some_iff.mp e).1
    rw [List.getElem?_append_left (by simp; omega)] at h; exact h
  refine ⟨⟨w.own, by simp [l], fun i s e => ?_, fun i j s t v u b ne e1 e2 e3 e4 f1 f2 => ?_⟩, fun b ⟨i, s, v, e1, e2, f⟩ => ?_⟩
  · rcases pad_get e with e | z
    · have hi : i < as.length := (List.getElem?_eq_some_iff.mp e).1
      rcases w.rep i s e with z | ⟨v, h1, h2⟩
      · exact .inl z
      · exact .inr ⟨v, by rw [List.getElem?_append_left (by simp; omega)]; exact h1, h2⟩
    · exact .inl z
  · rcases pad_get e1 with e1 | rfl
    · rcases pad_get e2 with e2 | rfl
      · exact w.sep i j s t v u b ne e1 e2 (sg e1 e3) (sg e2 e4) f1 f2
      · exact f2
    · exact f1
  · rcases pad_get e1 with e1 | rfl
    · exact ⟨i, s, v, e1, sg e1 e2, f⟩
    · exact f.elim
/-- what is told of the arguments, from the frame's end -/
theorem W.back {as e : En} {vs : List V} {σ' : St} (w : W K O' H' e σ') (l : as.length = vs.length) (h0 : hasBx as = true → ∀ v, vs[0]? = some v → σ'[0]? = some (some v)) : W K O' H' (wb as e) (vs.map some) ∧ ∀ b, FpE H' (wb as e) (vs.map some) b → FpE H' e σ' b := by
  have nos : wb as e = as.map (fun _ => .no) → W K O' H' (wb as e) (vs.map some) ∧ ∀ b, FpE H' (wb as e) (vs.map some) b → FpE H' e σ' b := fun z => by
    rw [z]
    obtain ⟨w1, nf⟩ := W.nos (K := K) (O := O') (H := H') (as := as) (σ := vs.map some) w.own (by simp [l])
    exact ⟨w1, fun b f => (nf b f).elim⟩
  match as, e, w, l, h0, nos with
  | [], e, w, l, h0, nos => exact nos rfl
  | .no :: r, e, w, l, h0, nos => exact nos rfl
  | .v _ :: r, e, w, l, h0, nos => exact nos rfl
  | .l _ :: r, e, w, l, h0, nos => exact nos rfl
  | .sc _ :: r, e, w, l, h0, nos => exact nos rfl
  | .dk _ :: r, e, w, l, h0, nos => exact nos rfl
  | .dt _ :: r, e, w, l, h0, nos => exact nos rfl
  | .bx _ _ :: r, [], w, l, h0, nos => exact nos rfl
  | .bx _ _ :: r, .no :: _, w, l, h0, nos => exact nos rfl
  | .bx _ _ :: r, .v _ :: _, w, l, h0, nos => exact nos rfl
  | .bx _ _ :: r, .l _ :: _, w, l, h0, nos => exact nos rfl
  | .bx _ _ :: r, .sc _ :: _, w, l, h0, nos => exact nos rfl
  | .bx _ _ :: r, .dk _ :: _, w, l, h0, nos => exact nos rfl
  | .bx _ _ :: r, .dt _ :: _, w, l, h0, nos => exact nos rfl
  | .bx cs rs :: r, .bx cs2 rs2 :: e', w, l, h0, nos =>
    cases vs with
    | nil => simp at l
    | cons v0 vs =>
      have s0 : σ'[0]? = some (some v0) := h0 rfl v0 rfl
      have e0 : wb (.bx cs rs :: r) (.bx cs2 rs2 :: e') = .bx cs2 rs2 :: r.map fun _ => .no := rfl
      rw [e0]
      have get : ∀ (i : Nat) (s : Sl), (Sl.bx cs2 rs2 :: r.map fun _ => Sl.no)[i]? = some s → (i = 0 ∧ s = .bx cs2 rs2) ∨ s = .no := fun i s z => by
        cases i with
        | zero => exact .inl ⟨rfl, by simpa using z.symm⟩
        | succ i =>
          simp only [List.getElem?_cons_succ, List.getElem?_map] at z
          cases hh : r[i]? with
          | none => rw [hh] at z; cases z
          | some q => rw [hh] at z; cases z; exact .inr rfl
      have rep0 : RepS K O' H' (.bx cs2 rs2) v0 := by
        rcases w.rep 0 (.bx cs2 rs2) rfl with z | ⟨u, h1, h2⟩
        · cases z
        · rw [s0] at h1; cases h1; exact h2
      refine ⟨⟨w.own, by simpa using l, fun i s z => ?_, fun i j s t v u b ne e1 e2 e3 e4 f1 f2 => ?_⟩, fun b ⟨i, s, v, e1, e2, f⟩ => ?_⟩
      · rcases get i s z with ⟨rfl, rfl⟩ | z
        · exact .inr ⟨v0, rfl, rep0⟩
        · exact .inl z
      · rcases get i s e1 with ⟨rfl, rfl⟩ | rfl
        · rcases get j t e2 with ⟨rfl, rfl⟩ | rfl
          · exact ne rfl
          · exact f2
        · exact f1
      · rcases get i s e1 with ⟨rfl, rfl⟩ | rfl
        · simp at e2; subst e2
          exact ⟨0, .bx cs2 rs2, v0, rfl, s0, f⟩
        · exact f.elim
end
/-! a whole program -/
structure FnI where
  x : Str
  st : Stmt
  ps : List Str
  N : List Str
  body : List C
  b : Bool
def FnI.fz (i : FnI) : List Nat := if i.b then [0] else []
def scopeB (i : FnI) : Bool :=
  (match (defScope i.st).kind with | .function => true | _ => false) && !(defScope i.st).isCoroutine && !(defScope i.st).isGenerator && decide i.N.Nodup && decide (i.N.take i.ps.length = i.ps) &&
    i.ps.all (fun x => match (defScope i.st).names.lookup x with | some .local => true | some .cell => true | _ => false) && (defScope i.st).names.all (fun y => match y.2 with | .free => false | _ => true)
theorem scope_of {i : FnI} (h : scopeB i = true) : FnScope i.N i.ps (defScope i.st) := by
  unfold scopeB at h
  simp only [Bool.and_eq_true, Bool.not_eq_true', decide_eq_true_eq, List.all_eq_true] at h
  obtain ⟨⟨⟨⟨⟨⟨h1, h2⟩, h3⟩, h4⟩, h5⟩, h6⟩, h7⟩ := h
  refine ⟨?_, h2, h3, h4, h5, fun x hx => ?_, fun y hy z => ?_⟩
  · split at h1
    · assumption
    · cases h1
  · have := h6 x hx
    split at this
    · exact .inl (by assumption)
    · exact .inr (by assumption)
    · cases this
  · have := h7 y hy
    rw [z] at this; cases this
def fnB (fn : List Str) (gl : List (Str × D)) (i : FnI) : Bool := scopeB i && cCs ⟨fn, gl, i.N⟩ (defScope i.st) i.fz i.body (defBody i.st)
/-- what the program's top has left -/
structure Top (gl : List (Str × D)) (K : PySem.W.Frag) (mg : Str → Option Value) : Prop where
  gls : ∀ (x : Str) (d : D), gl.lookup x = some d → ∃ v u, mg x = some u ∧ RelV v u ∧ ∀ (O : Own) (H : Hp), RepD K O H d v
  bls : ∀ b : Bl, mg (blName b) = none
  tys : ∀ t : Ty, mg (tyName t : Str) = none
  isi : mg "isinstance" = none
  its : mg "range" = none ∧ mg "enumerate" = none ∧ mg "zip" = none ∧ mg "reversed" = none ∧ mg "set" = none
section
variable {Pr : Program} {w : World} {K : PySem.W.Frag} {mg : Str → Option Value} {base : Heap}
/-- the functions at a level -/
def Lvl (Pr : Program) (w : World) (K : PySem.W.Frag) (mg : Str → Option Value) (base : Heap) (fn : List Str) (P : Ph) (lev : Nat) : Prop :=
  ∀ (j : Nat) (x : Str), fn[j]? = some x → ∃ (f : Addr) (fd : FuncData) (ps : List Str), FnOk Pr w K mg base CX0 lev f fd ps (spF K P j) ∧ mg x = some (.ref f) ∧ PySem.W.keepIn K (.ref f) = true ∧ Binds K fd ps []
theorem fn_body {fn : List Str} {gl : List (Str × D)} {i : FnI} {qual : Str} {f : Addr} {fd : FuncData} {P P' : Ph} {lev j : Nat} (F : Fun K i.x qual i.st f fd) (ok : fnB fn gl i = true) (T : Top gl K mg) (L : Lvl Pr w K mg base fn P lev)
    (hP : ∀ as, P' j as = runB P i.b i.ps.length i.N.length i.body as) : FnOk Pr w K mg base CX0 (lev + 1) f fd i.ps (spF K P' j) := by
  simp only [fnB, Bool.and_eq_true] at ok
  have S := scope_of ok.1
  have arity : ∀ (vs : List V) (H : Hp) (Q : VK) (E : XK), spF K P' j vs H Q E → vs.length = i.ps.length := fun vs H Q E h => by
    obtain ⟨O, as, r, as', wv, e, _⟩ := h
    rw [hP] at e
    unfold runB at e
    split at e
    · rename_i hl
      have := wv.len
      simp at this
      omega
    · cases e
  refine F.ok S arity fun cdv A outer s H vs Q E hr h => ?_
  have hvl := arity vs H Q E h
  obtain ⟨O, as, r, as', wv, e, q⟩ := h
  rw [hP] at e
  unfold runB at e
  split at e
  case isFalse => cases e
  rename_i hl
  simp only [Option.bind_eq_some_iff] at e
  obtain ⟨out, e1, e2⟩ := e
  have c : CtxOk ⟨fn, gl, i.N⟩ (defScope i.st) (defScope i.st) P lev (cxOf CX0 Pr w K mg base i.N qual (defScope i.st) f cdv A outer s H E).nox := {
    hN := rfl
    nd := S.nd
    sc := rfl
    calm := rfl
    room := hr
    xe := rfl
    fns := fun j x hx => ⟨L j x hx⟩
    gls := T.gls
    bls := T.bls
    tys := T.tys
    isi := T.isi
    its := T.its
    asg := fun x hx => by
      unfold locB at hx
      split at hx
      · rename_i z; exact ⟨.inl z, .inl rfl⟩
      · rename_i z; exact ⟨.inr z, .inl rfl⟩
      · cases hx }
  have sb := sCs (fz := i.fz) S.kind c i.body (defBody i.st) ok.2
  refine ⟨_, sb.run, ?_⟩
  have hst : L2.start i.N vs = vs.map some ++ List.replicate (i.N.length - i.ps.length) none := by unfold L2.start; rw [hvl]
  obtain ⟨wp, kp⟩ := wv.pad (n := i.N.length - i.ps.length)
  rw [hst]
  refine ⟨O, as ++ List.replicate (i.N.length - i.ps.length) Sl.no, out, wp, e1, ?_⟩
  -- the end
  have fin : ∀ {O' : Own} {H' : Hp} {σ' : St} {e' : En} {rr : Sl} {v : V}, Step O H (FpE H (as ++ List.replicate (i.N.length - i.ps.length) .no) (vs.map some ++ List.replicate (i.N.length - i.ps.length) none)) O' H' (FpR H' e' σ' rr v) → WR K O' H' e' σ' rr v →
      Kp i.fz (vs.map some ++ List.replicate (i.N.length - i.ps.length) none) σ' → r = rr → as' = e' → Q v H' := fun {O' H' σ' e' rr v} st wr kk er ee => by
    subst er ee
    obtain ⟨wB, kB⟩ := wr.w.back (as := as) (vs := vs) (by omega) fun hb v0 hv0 => by
      have hi : i.b = true := by rw [← hl.2]; exact hb
      have := kk 0 (by simp [FnI.fz, hi])
      rw [this, List.getElem?_append_left (by simp; exact (List.getElem?_eq_some_iff.mp hv0).1)]
      simp [hv0]
    refine q O' H' v ?_ ⟨wB, wr.val, fun b f1 f2 => wr.sep b f1 (kB b f2)⟩
    exact (st.wide kp).sub fun b f => f.imp (kB b) id
  cases out with
  | nx e' =>
    cases e2
    exact fun O' H' σ' st w' kk => fin (rr := .v .none) (v := .non) (st.sub fun b f => f.elim id fun z => z.elim) ⟨w', by simp only [RepS, RepD], fun b f => f.elim⟩ kk rfl rfl
  | rt s' e' =>
    cases e2
    exact fun O' H' σ' v st wr kk => fin st wr kk rfl rfl
  | bk e' => cases e2
  | ct e' => cases e2
/-- nothing is promised of no calls -/
theorem none_ok {f : Addr} {fd : FuncData} {ps : List Str} {P : Ph} {j lev : Nat} (h : ∀ as, P j as = none) : FnOk Pr w K mg base CX0 lev f fd ps (spF K P j) := by
  have no : ∀ vs H Q E, ¬ spF K P j vs H Q E := fun vs H Q E ⟨O, as, r, as', _, e, _⟩ => by rw [h] at e; cases e
  exact ⟨fun vs H Q E h => absurd h (no vs H Q E), fun A outer s H args us vs Q E _ _ _ _ h => absurd h (no vs H Q E)⟩
/-- a function of the table: of the text, or one that is shown by hand -/
inductive Entry where
  | user (i : FnI)
  | prim (m : Nat) (g : List Sl → Option (Sl × List Sl))
def Entry.fn : Entry → Fn
  | .user i => .user i.b i.ps.length i.N.length i.body
  | .prim m g => .prim m g
/-- what is to be known of each entry -/
def EntOk (Pr : Program) (w : World) (K : PySem.W.Frag) (mg : Str → Option Value) (base : Heap) (fn : List Str) (gl : List (Str × D)) (x : Str) : Entry → Prop
  | .user i => ∃ (f : Addr) (fd : FuncData), i.x = x ∧ Fun K x x i.st f fd ∧ fnB fn gl i = true ∧ mg x = some (.ref f) ∧ Binds K fd i.ps []
  | .prim m g => ∃ (f : Addr) (fd : FuncData) (ps : List Str), FnOk Pr w K mg base CX0 (m + 1) f fd ps (spF K (fun _ as => g as) 0) ∧ mg x = some (.ref f) ∧ PySem.W.keepIn K (.ref f) = true ∧ Binds K fd ps []
def tbOf (es : List Entry) (j : Nat) : Option Fn := (es[j]?).map Entry.fn
theorem all_ok {fn : List Str} {gl : List (Str × D)} {es : List Entry} (T : Top gl K mg) (len : fn.length = es.length) (h : ∀ (j : Nat) (x : Str) (e : Entry), fn[j]? = some x → es[j]? = some e → EntOk Pr w K mg base fn gl x e) : ∀ d, Lvl Pr w K mg base fn (callN (tbOf es) d) d
  | 0 => fun j x hx => by
    obtain ⟨e, he⟩ : ∃ e, es[j]? = some e := by
      have := (List.getElem?_eq_some_iff.mp hx).1
      exact ⟨es[j]'(by omega), List.getElem?_eq_getElem _⟩
    have := h j x e hx he
    cases e with
    | user i =>
      obtain ⟨f, fd, rfl, F, ok, hm, hb⟩ := this
      exact ⟨f, fd, i.ps, none_ok fun as => rfl, hm, F.kp, hb⟩
    | prim m g =>
      obtain ⟨f, fd, ps, F, hm, hk, hb⟩ := this
      exact ⟨f, fd, ps, none_ok fun as => rfl, hm, hk, hb⟩
  | d + 1 => fun j x hx => by
    have ih := all_ok T len h d
    obtain ⟨e, he⟩ : ∃ e, es[j]? = some e := by
      have := (List.getElem?_eq_some_iff.mp hx).1
      exact ⟨es[j]'(by omega), List.getElem?_eq_getElem _⟩
    have := h j x e hx he
    cases e with
    | user i =>
      obtain ⟨f, fd, rfl, F, ok, hm, hb⟩ := this
      exact ⟨f, fd, i.ps, fn_body F ok T ih fun as => by simp only [callN, tbOf, he, Option.map_some, Entry.fn], hm, F.kp, hb⟩
    | prim m g =>
      obtain ⟨f, fd, ps, F, hm, hk, hb⟩ := this
      refine ⟨f, fd, ps, ?_, hm, hk, hb⟩
      by_cases hmd : m ≤ d
      · refine (F.mono (by omega)).imp fun vs H Q E ⟨O, as, r, as', w1, e, q⟩ => ⟨O, as, r, as', w1, ?_, q⟩
        simpa only [callN, tbOf, he, Option.map_some, Entry.fn, if_pos hmd] using e
      · exact none_ok fun as => by simp only [callN, tbOf, he, Option.map_some, Entry.fn, if_neg hmd]
end
end Mini

namespace Mini
open PySem PySem.Spec L2
/-! the law's box: its own drawing of numbers -/
def boxMix (s : Int) : Int × Int :=
  let first := (s * 48271 + 17) % 2147483629
  let second := (first * 69621 + 5) % 2147483587
  let s2 := (second * 40692 + 3) % 2147483563
  (first * 4611686014132420609 + second * 2147483647 + s2, s2)
def boxLoad : List Int → Int → Int × List Int × Int
  | [], seed => ((boxMix seed).1, [], (boxMix seed).2)
  | c :: cs, seed =>
    let z := if c ≥ 0 then 2 * c else -2 * c - 1
    if z ≥ 1000000000000000000 then (z, cs, seed)
    else
      let s1 := (seed * 69621 + z * 48271 + 11) % 2147483647
      ((boxMix s1).1, cs, (boxMix s1).2)
def boxTake (cs : List Int) (size seed many : Int) : Int × List Int × Int × Int :=
  if size < many then ((boxLoad cs seed).1 % many, (boxLoad cs seed).2.1, (boxLoad cs seed).1 / many, (boxLoad cs seed).2.2)
  else (size % many, cs, size / many, seed)
def primDraw : List Sl → Option (Sl × List Sl)
  | [.bx cs [size, seed], .v (.int many)] => if divOk many then some (.v (.int (boxTake cs size seed many).1), [.bx (boxTake cs size seed many).2.1 [(boxTake cs size seed many).2.2.1, (boxTake cs size seed many).2.2.2], .v (.int many)]) else none
  | _ => none
def primBox : List Sl → Option (Sl × List Sl)
  | [.sc ns] => if ns.length ≤ 63 then some (.bx ns [0, 4711 + ns.length], [.sc ns]) else none
  | _ => none
/-- the promise of the loading -/
def spLoad : Sp := fun vs H Q _ => ∃ (a c : Addr) (cs : List Int) (size seed : Int), vs = [.ref a] ∧ H a = some (.lst [.ref c, .int size, .int seed]) ∧ H c = some (.lst (cs.map V.int)) ∧ a ≠ c ∧
  ∀ H', H' a = some (.lst [.ref c, .int size, .int (boxLoad cs seed).2.2]) → H' c = some (.lst ((boxLoad cs seed).2.1.map V.int)) → (∀ b, b ≠ a → b ≠ c → H' b = H b) → Q (.int (boxLoad cs seed).1) H'
/-- .. of the drawing -/
def spDraw : Sp := fun vs H Q _ => ∃ (a c : Addr) (cs : List Int) (size seed many : Int), vs = [.ref a, .int many] ∧ H a = some (.lst [.ref c, .int size, .int seed]) ∧ H c = some (.lst (cs.map V.int)) ∧ a ≠ c ∧ divOk many ∧
  ∀ H', H' a = some (.lst [.ref c, .int (boxTake cs size seed many).2.2.1, .int (boxTake cs size seed many).2.2.2]) → H' c = some (.lst ((boxTake cs size seed many).2.1.map V.int)) → (∀ b, b ≠ a → b ≠ c → H' b = H b) → Q (.int (boxTake cs size seed many).1) H'
theorem cmulR {i j : Int} (h : -(2 ^ 64) < j ∧ j < 2 ^ 64) : CMul i j := .inr h
theorem cmulL {i j : Int} (h : -(2 ^ 64) < i ∧ i < 2 ^ 64) : CMul i j := .inl h
end Mini

namespace Mini
open PySem PySem.Spec L2
/-! the law's tape: its own drawing of numbers, from cells that stay -/
def tapeMix (n : Int) : Int :=
  let a := (n * 6364136223846793005 + 1442695040888963407) % 18446744073709551616
  (a * a / 4294967296 + a * 69621) % 18446744073709551557
/-- place, size, seed behind a loading -/
def tapeLoad (cs : List Int) (p t : Int) : Int × Int × Int :=
  if p < (cs.length : Int) then
    let c := cs.getD p.toNat 0
    let z := if 0 ≤ c then 2 * c else -2 * c - 1
    (p + 1, if 1000000000000000000 ≤ z then z else tapeMix (tapeMix z + (p + 1)), tapeMix (t + z))
  else (p, tapeMix (t + 1), tapeMix (t + 1))
def tapeTake (cs : List Int) (p s t many : Int) : Int × Int × Int × Int :=
  if s < many then ((tapeLoad cs p t).2.1 % many, (tapeLoad cs p t).1, (tapeLoad cs p t).2.1 / many, (tapeLoad cs p t).2.2)
  else (s % many, p, s / many, t)
def primTake : List Sl → Option (Sl × List Sl)
  | [.bx cs [p, s, t], .v (.int many)] => if divOk many ∧ 0 ≤ p then some (.v (.int (tapeTake cs p s t many).1), [.bx cs [(tapeTake cs p s t many).2.1, (tapeTake cs p s t many).2.2.1, (tapeTake cs p s t many).2.2.2], .v (.int many)]) else none
  | _ => none
def primTape : List Sl → Option (Sl × List Sl)
  | [.sc ns] => if ns.length ≤ 63 then some (.bx ns [0, 0, 1 + ns.length], [.sc ns]) else none
  | _ => none
theorem tapeTake_p {cs : List Int} {p s t many : Int} (h : 0 ≤ p) : 0 ≤ (tapeTake cs p s t many).2.1 := by
  unfold tapeTake tapeLoad
  split
  · split
    · show 0 ≤ p + 1; omega
    · exact h
  · exact h
def spMix : Sp := fun vs H Q _ => ∃ n : Int, vs = [.int n] ∧ Q (.int (tapeMix n)) H
def spTake : Sp := fun vs H Q _ => ∃ (a c : Addr) (cs : List Int) (p s t many : Int), vs = [.ref a, .int many] ∧ H a = some (.lst [.ref c, .int p, .int s, .int t]) ∧ H c = some (.lst (cs.map V.int)) ∧ a ≠ c ∧ divOk many ∧ 0 ≤ p ∧
  ∀ H', H' a = some (.lst [.ref c, .int (tapeTake cs p s t many).2.1, .int (tapeTake cs p s t many).2.2.1, .int (tapeTake cs p s t many).2.2.2]) → (∀ b, b ≠ a → H' b = H b) → Q (.int (tapeTake cs p s t many).1) H'
end Mini

namespace Mini
open PySem L2
/-! the evaluator's equations, for the simplifier -/
section
variable (P : Ph) (env : En)
@[simp] theorem ev_var (i : Nat) : ev P (.var i) = varM i := by simp only [ev]
@[simp] theorem ev_cst (d : D) : ev P (.cst d) = .ofVal fun env => some (.v d, env) := by simp only [ev]
@[simp] theorem ev_bin (op : Operator) (a b : E) : ev P (.bin op a b) = op2 (binD op) (ev P a) (ev P b) := by simp only [ev]
@[simp] theorem ev_neg (a : E) : ev P (.neg a) = op1 negD (ev P a) := by simp only [ev]
@[simp] theorem ev_cmp (op : CmpOp) (a b : E) : ev P (.cmp op a b) = cmpM op (ev P a) (ev P b) := by simp only [ev]
@[simp] theorem ev_chn (o1 o2 : CmpOp) (a b c : E) : ev P (.chn o1 o2 a b c) = chnM o1 o2 (ev P a) (ev P b) (ev P c) := by simp only [ev]
@[simp] theorem ev_isn (ng : Bool) (a : E) : ev P (.isn ng a) = isnM ng (ev P a) := by simp only [ev]
@[simp] theorem ev_bop (o : BoolOp) (es : List E) : ev P (.bop o es) = bopM o (evs P es) := by simp only [ev]
@[simp] theorem ev_not (a : E) : ev P (.not a) = notM (ev P a) := by simp only [ev]
@[simp] theorem ev_ite (c a b : E) : ev P (.ite c a b) = iteM (ev P c) (ev P a) (ev P b) := by simp only [ev]
@[simp] theorem ev_tup (es : List E) : ev P (.tup es) = tupM (evs P es) := by simp only [ev]
@[simp] theorem ev_lst (es : List E) : ev P (.lst es) = lstM (evs P es) := by simp only [ev]
@[simp] theorem ev_idx (a i : E) : ev P (.idx a i) = op2 idxD (ev P a) (ev P i) := by simp only [ev]
@[simp] theorem ev_slc (a : E) (lo hi : List E) : ev P (.slc a lo hi) = slcM (ev P a) (evs P lo) (evs P hi) := by simp only [ev]
@[simp] theorem ev_call (f : Nat) (es : List E) : ev P (.call f es) = callM P f (evs P es) := by simp only [ev]
@[simp] theorem ev_callB (f i : Nat) (es : List E) : ev P (.callB f i es) = callBM P f i (evs P es) := by simp only [ev]
@[simp] theorem ev_callS (f i : Nat) : ev P (.callS f i) = callSM P f i := by simp only [ev]
@[simp] theorem ev_blt (b : Bl) (es : List E) : ev P (.blt b es) = bltM b (evs P es) := by simp only [ev]
@[simp] theorem ev_isi (a : E) (t : Ty) : ev P (.isi a t) = .cmp (op1 (fun d => some (.v (.bool (isiD d t)))) (ev P a)).val := by simp only [ev]
@[simp] theorem ev_lc (t : T) (k : IK) (its cond : List E) (elt : E) (own : List Nat) : ev P (.lc t k its cond elt own) = lcM t k (evs P its) (evs P cond) (ev P elt) own := by simp only [ev]
@[simp] theorem ev_pop (i : Nat) : ev P (.pop i) = popM i := by simp only [ev]
@[simp] theorem ev_mth (m : Mt) (a e : E) : ev P (.mth m a e) = mthM m (ev P a) (ev P e) := by simp only [ev]
@[simp] theorem ev_rev (a : E) : ev P (.rev a) = op1 revD (ev P a) := by simp only [ev]
@[simp] theorem ev_isb (ng k : Bool) (a : E) : ev P (.isb ng k a) = .cmp (op1 (isbD ng k) (ev P a)).val := by simp only [ev]
@[simp] theorem ev_rgv (tup : Bool) (es : List E) : ev P (.rgv tup es) = rgvM tup (evs P es) := by simp only [ev]
@[simp] theorem ev_upper (a : E) : ev P (.upper a) = upperM (ev P a) := by simp only [ev]
@[simp] theorem ev_lset (a : E) : ev P (.lset a) = op1 lsetD (ev P a) := by simp only [ev]
@[simp] theorem ev_sset (a : E) : ev P (.sset a) = op1 ssetD (ev P a) := by simp only [ev]
@[simp] theorem ev_dnew (t : Bool) : ev P (.dnew t) = dnewM t := by simp only [ev]
@[simp] theorem ev_dsrt (i : Nat) : ev P (.dsrt i) = dsrtM i := by simp only [ev]
@[simp] theorem ev_ditm (i : Nat) : ev P (.ditm i) = ditmM i := by simp only [ev]
@[simp] theorem rgvM_eq (tup : Bool) (es : List M) : rgvM tup es = .ofVal fun env => (opsM es env).bind fun t => (gets t.2 t.1).bind fun ds => (rgvD tup ds).map fun r => (r, t.2) := (rfl)
@[simp] theorem upperM_eq (a : M) : upperM a = .ofVal fun env => (a.opd env).bind fun t => (t.1.get t.2).bind fun x0 => if isStr x0 then (upperD x0).map fun r => (r, t.2) else none := (rfl)
@[simp] theorem isStr_s (s : Str) : isStr (.str s) = true := (rfl)
@[simp] theorem revD_t (xs : List D) : revD (.tuple xs) = some (.v (.tuple xs.reverse)) := (rfl)
@[simp] theorem revD_l (xs : List D) : revD (.list xs) = some (.l xs.reverse) := (rfl)
@[simp] theorem isbD_b (ng k b : Bool) : isbD ng k (.bool b) = some (.v (.bool (if ng then !decide (b = k) else decide (b = k)))) := (rfl)
@[simp] theorem evs_nil : evs P [] = [] := by simp only [evs]
@[simp] theorem evs_cons (e : E) (es : List E) : evs P (e :: es) = ev P e :: evs P es := by simp only [evs]
@[simp] theorem ofVal_val (f : En → Option (Sl × En)) : (M.ofVal f).val = f := (rfl)
@[simp] theorem ofVal_opd (f : En → Option (Sl × En)) : (M.ofVal f).opd env = (frzM f env).map fun r => (.d r.1, r.2) := (rfl)
@[simp] theorem ofVal_tst (f : En → Option (Sl × En)) : (M.ofVal f).tst env = trM (fun env => (frzM f env).map fun r => (.d r.1, r.2)) env := (rfl)
@[simp] theorem cmp_val (f : En → Option (Sl × En)) : (M.cmp f).val = f := (rfl)
@[simp] theorem cmp_opd (f : En → Option (Sl × En)) : (M.cmp f).opd env = (frzM f env).map fun r => (.d r.1, r.2) := (rfl)
@[simp] theorem cmp_tst (f : En → Option (Sl × En)) : (M.cmp f).tst env = (f env).bind fun r => (bOf r.1).map fun b => (b, r.2) := (rfl)
@[simp] theorem op1_eq (f : D → Option Sl) (a : M) : op1 f a = .ofVal fun env => (a.opd env).bind fun r => (r.1.get r.2).bind fun x => (f x).map fun s => (s, r.2) := (rfl)
@[simp] theorem op2_eq (f : D → D → Option Sl) (a b : M) : op2 f a b = .ofVal fun env => (a.opd env).bind fun r => (b.opd r.2).bind fun t => (r.1.get t.2).bind fun x => (t.1.get t.2).bind fun y => (f x y).map fun s => (s, t.2) := (rfl)
@[simp] theorem cmpM_eq (op : CmpOp) (a b : M) : cmpM op a b = .cmp (op2 (cmpD op) a b).val := (rfl)
@[simp] theorem chnM_eq (op op2 : CmpOp) (a b c : M) : chnM op op2 a b c = .cmp fun env => (a.opd env).bind fun r => (b.opd r.2).bind fun t => (r.1.get t.2).bind fun x => (t.1.get t.2).bind fun y =>
  (cmpD op x y).bind fun s => (bOf s).bind fun k => if k then (c.opd t.2).bind fun u => (t.1.get u.2).bind fun y2 => (u.1.get u.2).bind fun z => (cmpD op2 y2 z).map fun r2 => (r2, u.2) else some (.v (.bool false), t.2) := (rfl)
@[simp] theorem isnM_eq (ng : Bool) (a : M) : isnM ng a = .cmp (op1 (isnD ng) a).val := (rfl)
@[simp] theorem notM_val (a : M) : (notM a).val env = (trM a.opd env).map fun r => (.v (.bool !r.1), r.2) := (rfl)
@[simp] theorem notM_opd (a : M) : (notM a).opd env = (frzM (notM a).val env).map fun r => (.d r.1, r.2) := (rfl)
@[simp] theorem notM_tst (a : M) : (notM a).tst env = (a.tst env).map fun r => (!r.1, r.2) := (rfl)
@[simp] theorem bopM_val (o : BoolOp) (es : List M) : (bopM o es).val env = (bopV o es env).map fun r => (.v r.1, r.2) := (rfl)
@[simp] theorem bopM_opd (o : BoolOp) (es : List M) : (bopM o es).opd env = (frzM (bopM o es).val env).map fun r => (.d r.1, r.2) := (rfl)
@[simp] theorem bopM_tst (o : BoolOp) (es : List M) : (bopM o es).tst env = bopT o es env := (rfl)
@[simp] theorem bopV_1 (o : BoolOp) (a : M) : bopV o [a] env = frzM a.val env := (rfl)
@[simp] theorem bopV_2 (o : BoolOp) (a b : M) (r : List M) : bopV o (a :: b :: r) env = (frzM a.val env).bind fun t => (truth t.1).bind fun k => if k == isAnd o then bopV o (b :: r) t.2 else some (t.1, t.2) := (rfl)
@[simp] theorem bopT_1 (o : BoolOp) (a : M) : bopT o [a] env = a.tst env := (rfl)
@[simp] theorem bopT_2 (o : BoolOp) (a b : M) (r : List M) : bopT o (a :: b :: r) env = (a.tst env).bind fun t => if t.1 == isAnd o then bopT o (b :: r) t.2 else some (t.1, t.2) := (rfl)
@[simp] theorem isAnd_1 : isAnd .And = true := (rfl)
@[simp] theorem isAnd_2 : isAnd .Or = false := (rfl)
@[simp] theorem iteM_val (c a b : M) : (iteM c a b).val env = (c.tst env).bind fun r => if r.1 then a.val r.2 else b.val r.2 := (rfl)
@[simp] theorem iteM_opd (c a b : M) : (iteM c a b).opd env = (frzM (iteM c a b).val env).map fun r => (.d r.1, r.2) := (rfl)
@[simp] theorem iteM_tst (c a b : M) : (iteM c a b).tst env = (c.tst env).bind fun r => if r.1 then a.tst r.2 else b.tst r.2 := (rfl)
@[simp] theorem frzM_eq (f : En → Option (Sl × En)) : frzM f env = (f env).bind fun r => r.1.frz.map fun d => (d, r.2) := (rfl)
@[simp] theorem trM_eq (g : En → Option (Opd × En)) : trM g env = (g env).bind fun r => (r.1.get r.2).bind fun d => (truth d).map fun b => (b, r.2) := (rfl)
@[simp] theorem argsM_nil : argsM [] env = some ([], env) := (rfl)
@[simp] theorem argsM_cons (a : M) (r : List M) : argsM (a :: r) env = (frzM a.val env).bind fun t => (argsM r t.2).map fun u => (t.1 :: u.1, u.2) := (rfl)
@[simp] theorem opsM_nil : opsM [] env = some ([], env) := (rfl)
@[simp] theorem opsM_cons (a : M) (r : List M) : opsM (a :: r) env = (a.opd env).bind fun t => (opsM r t.2).map fun u => (t.1 :: u.1, u.2) := (rfl)
@[simp] theorem gets_nil : gets env [] = some [] := (rfl)
@[simp] theorem gets_cons (p : Opd) (r : List Opd) : gets env (p :: r) = (p.get env).bind fun d => (gets env r).map (d :: ·) := (rfl)
@[simp] theorem tupM_eq (es : List M) : tupM es = .ofVal fun env => (argsM es env).bind fun t => if t.1.length ≤ sizeLine then some (.v (.tuple t.1), t.2) else none := (rfl)
@[simp] theorem lstM_eq (es : List M) : lstM es = .ofVal fun env => (argsM es env).bind fun t => if t.1.length ≤ sizeLine then some (.l t.1, t.2) else none := (rfl)
@[simp] theorem bltM_eq (b : Bl) (es : List M) : bltM b es = .ofVal fun env => (opsM es env).bind fun t => (gets t.2 t.1).bind fun ds => (bltD b ds).map fun r => (r, t.2) := (rfl)
@[simp] theorem mthM_eq (m : Mt) (a b : M) : mthM m a b = .ofVal fun env => (a.opd env).bind fun r => (r.1.get r.2).bind fun x0 => if isLst x0 then (b.opd r.2).bind fun t => (r.1.get t.2).bind fun x => (t.1.get t.2).bind fun y => (mthD m x y).map fun z => (z, t.2) else none := (rfl)
@[simp] theorem isLst_l (xs : List D) : isLst (.list xs) = true := (rfl)
@[simp] theorem partM_0 : partM [] env = some (none, env) := (rfl)
@[simp] theorem partM_1 (a : M) : partM [a] env = (a.opd env).bind fun t => (t.1.get t.2).bind fun d => match d with
    | .int i => some (some i, t.2)
    | _ => none := (rfl)
@[simp] theorem slcM_eq (a : M) (lo hi : List M) : slcM a lo hi = .ofVal fun env => (a.opd env).bind fun t => (partM lo t.2).bind fun u => (partM hi u.2).bind fun v => (t.1.get v.2).bind fun x => (slcD x u.1 v.1).map fun r => (r, v.2) := (rfl)
@[simp] theorem callM_eq (f : Nat) (es : List M) : callM P f es = .ofVal fun env => (argsM es env).bind fun t => (retOf P f (t.1.map .v)).map fun r => (r, t.2) := (rfl)
@[simp] theorem callSM_val (f i : Nat) (ns : List Int) (h : env[i]? = some (.sc ns)) : (callSM P f i).val env = (retOf P f [.sc ns]).map fun r => (r, env) := by
  show (match env[i]? with | some (.sc ns) => (retOf P f [.sc ns]).map fun r => (r, env) | _ => none) = _
  rw [h]
@[simp] theorem varM_val (i : Nat) : (varM i).val env = match env[i]? with
    | some (.v d) => some (.v d, env)
    | some (.l xs) => some (.v (.list xs), env.set i (.v (.list xs)))
    | _ => none := (rfl)
@[simp] theorem varM_opd (i : Nat) : (varM i).opd env = match env[i]? with
    | some (.v d) => some (.d d, env)
    | some (.l _) => some (.s i, env)
    | _ => none := (rfl)
@[simp] theorem varM_tst (i : Nat) : (varM i).tst env = trM (varM i).opd env := (rfl)
@[simp] theorem get_d (x : D) : (Opd.d x).get env = some x := (rfl)
@[simp] theorem get_s (i : Nat) : (Opd.s i).get env = (env[i]?).bind Sl.rd := (rfl)
@[simp] theorem rd_v (x : D) : (Sl.v x).rd = some x := (rfl)
@[simp] theorem rd_l (x : List D) : (Sl.l x).rd = some (.list x) := (rfl)
@[simp] theorem frz_v (x : D) : (Sl.v x).frz = some x := (rfl)
@[simp] theorem frz_l (x : List D) : (Sl.l x).frz = some (.list x) := (rfl)
@[simp] theorem bOf_v (b : Bool) : bOf (.v (.bool b)) = some b := (rfl)
@[simp] theorem b2s_eq (b : Bool) : b2s b = some (.v (.bool b)) := (rfl)
@[simp] theorem setS_v (i : Nat) (s : Sl) (d : D) (h : env[i]? = some (.v d)) : setS i s env = some (env.set i s) := by unfold setS; rw [h]
@[simp] theorem setS_l (i : Nat) (s : Sl) (d : List D) (h : env[i]? = some (.l d)) : setS i s env = some (env.set i s) := by unfold setS; rw [h]
@[simp] theorem setS_no (i : Nat) (s : Sl) (h : env[i]? = some .no) : setS i s env = some (env.set i s) := by unfold setS; rw [h]
@[simp] theorem asgT_nm (i : Nat) (d : D) : asgT (.nm i) d env = setS i (.v d) env := by simp only [asgT]
@[simp] theorem asgT_tp (ts : List T) (ds : List D) : asgT (.tp ts) (.tuple ds) env = asgTs ts ds env := by simp only [asgT]
@[simp] theorem asgTs_nil : asgTs [] [] env = some env := by simp only [asgTs]
@[simp] theorem asgTs_cons (t : T) (ts : List T) (d : D) (ds : List D) : asgTs (t :: ts) (d :: ds) env = (asgT t d env).bind (asgTs ts ds) := by simp only [asgTs]
@[simp] theorem wipeE_nil : wipeE env [] = env := (rfl)
@[simp] theorem wipeE_cons (v : Nat) (vs : List Nat) : wipeE env (v :: vs) = (wipeE env vs).set v .no := (rfl)
@[simp] theorem ex_asg (i : Nat) (e : E) : ex P (.asg (.nm i) e) env = ((ev P e).val env).bind fun r => (setS i r.1 r.2).map .nx := by simp only [ex]
@[simp] theorem ex_unp (ts : List T) (e : E) : ex P (.asg (.tp ts) e) env = (frzM (ev P e).val env).bind fun r => (asgT (.tp ts) r.1 r.2).map .nx := by simp only [ex]
@[simp] theorem ex_seti (x : Nat) (i e : E) : ex P (.seti x i e) env = (frzM (ev P e).val env).bind fun r => if isL r.2[x]? then ((ev P i).opd r.2).bind fun t => (t.1.get t.2).bind fun k => setiS x k r.1 t.2 else none := by simp only [ex]
@[simp] theorem ex_aug (i : Nat) (op : Operator) (e : E) (a : D) (h : env[i]? = some (.v a)) : ex P (.aug i op e) env = (frzM (ev P e).val env).bind fun r => (augD op a r.1).bind fun s => (setS i s r.2).map .nx := by simp only [ex, h]
@[simp] theorem ex_app (x : Nat) (e : E) : ex P (.app x e) env = if isL env[x]? then (frzM (ev P e).val env).bind fun r => appS x r.1 r.2 else none := by simp only [ex]
@[simp] theorem ex_ext (x : Nat) (e : E) : ex P (.ext x e) env = if isL env[x]? then (frzM (ev P e).val env).bind fun r => extS x r.1 r.2 else none := by simp only [ex]
theorem ex_parn (is : List Nat) (es : List E) : ex P (.parn is es) env = (parMs (evs P es) env).bind fun r => if r.1.length ≤ sizeLine then (setSs is r.1 r.2).map .nx else none := by simp only [ex]
theorem ex_par (i j : Nat) (a b : E) : ex P (.par i j a b) env = (parM (ev P a) (ev P b) env).bind fun r => (setS i r.1.1 r.2).bind fun e2 => (setS j r.1.2 e2).map .nx := by simp only [ex]
theorem ex_augl (x : Nat) (e : E) : ex P (.augl x e) env = if isL env[x]? then (frzM (ev P e).val env).bind fun r => extS x r.1 r.2 else none := by simp only [ex]
theorem ex_ins (x : Nat) (i e : E) : ex P (.ins x i e) env = if isL env[x]? then (argsM [ev P i, ev P e] env).bind fun r => insS x r.1 r.2 else none := by simp only [ex]
theorem ex_rem (x : Nat) (e : E) : ex P (.rem x e) env = if isL env[x]? then (frzM (ev P e).val env).bind fun r => remS x r.1 r.2 else none := by simp only [ex]
theorem ex_augi (x : Nat) (i : E) (op : Operator) (e : E) : ex P (.augi x i op e) env = if isL env[x]? then ((ev P i).opd env).bind fun p => (p.1.get p.2).bind fun k => match p.2[x]?, k with
      | some (.l xs), .int n => (atI xs n).bind fun old => (frzM (ev P e).val p.2).bind fun q => (augD op old q.1).bind fun r => r.frz.bind fun z => setiS x k z q.2
      | _, _ => none else none := by simp only [ex] <;> rfl
theorem ex_dput (x : Nat) (k e : E) : ex P (.dput x k e) env = (frzM (ev P e).val env).bind fun r => if isDk r.2[x]? then ((ev P k).opd r.2).bind fun t => (t.1.get t.2).bind fun kd => dputS x kd r.1 t.2 else none := by simp only [ex]
theorem ex_dputT (x : Nat) (ks : List E) (e : E) : ex P (.dputT x ks e) env = (frzM (ev P e).val env).bind fun r => if isDt r.2[x]? then (argsM (evs P ks) r.2).bind fun t => dputTS x t.1 r.1 t.2 else none := by simp only [ex]
@[simp] theorem ex_expr (e : E) : ex P (.expr e) env = ((ev P e).val env).map fun r => .nx r.2 := by simp only [ex]
@[simp] theorem ex_ret (e : E) : ex P (.ret e) env = ((ev P e).val env).map fun r => .rt r.1 r.2 := by simp only [ex]
@[simp] theorem ex_ife (c : E) (a b : List C) : ex P (.ife c a b) env = ((ev P c).tst env).bind fun r => if r.1 then exs P a r.2 else exs P b r.2 := by simp only [ex]
@[simp] theorem ex_wh (c : E) (b : List C) : ex P (.wh c b) env = whC (ev P c).tst (exs P b) env := by simp only [ex]
@[simp] theorem ex_fr (t : T) (k : IK) (its : List E) (b : List C) : ex P (.fr t k its b) env = (opsM ((evs P its).map frO) env).bind fun r => (gets r.2 r.1).bind fun ds => (itemsOf k ds).bind fun xs => frL t (exs P b) xs r.2 := by simp only [ex]
@[simp] theorem ex_brk : ex P .brk env = some (.bk env) := by simp only [ex]
@[simp] theorem ex_cont : ex P .cont env = some (.ct env) := by simp only [ex]
@[simp] theorem ex_pass : ex P .pass env = some (.nx env) := by simp only [ex]
/-- what follows a statement -/
noncomputable def thenO (P : Ph) (cs : List C) : Out → Option Out
  | .nx e1 => exs P cs e1
  | .rt s e1 => some (.rt s e1)
  | .bk e1 => some (.bk e1)
  | .ct e1 => some (.ct e1)
@[simp] theorem thenO_nx (cs : List C) (e : En) : thenO P cs (.nx e) = exs P cs e := (rfl)
@[simp] theorem thenO_rt (cs : List C) (s : Sl) (e : En) : thenO P cs (.rt s e) = some (.rt s e) := (rfl)
@[simp] theorem thenO_bk (cs : List C) (e : En) : thenO P cs (.bk e) = some (.bk e) := (rfl)
@[simp] theorem thenO_ct (cs : List C) (e : En) : thenO P cs (.ct e) = some (.ct e) := (rfl)
@[simp] theorem exs_nil : exs P [] env = some (.nx env) := by simp only [exs]
@[simp] theorem exs_cons (c : C) (cs : List C) : exs P (c :: cs) env = (ex P c env).bind (thenO P cs) := by
  simp only [exs]; congr 1
@[simp] theorem frO_opd (m : M) : (frO m).opd env = (frzM m.val env).map fun r => (.d r.1, r.2) := (rfl)
end
/-! loops -/
theorem whN_mono {c : En → Option (Bool × En)} {b : En → Option Out} : ∀ {n m : Nat} {env : En} {o : Out}, whN c b n env = some o → n ≤ m → whN c b m env = some o
  | 0, _, _, _, h, _ => by cases h
  | n + 1, 0, _, _, _, l => by omega
  | n + 1, m + 1, env, o, h, l => by
    simp only [whN, Option.bind_eq_some_iff] at h ⊢
    obtain ⟨⟨k, e1⟩, h1, h2⟩ := h
    refine ⟨(k, e1), h1, ?_⟩
    cases k with
    | false => exact h2
    | true =>
      simp only [if_true] at h2 ⊢
      simp only [Option.bind_eq_some_iff] at h2 ⊢
      obtain ⟨r, h3, h4⟩ := h2
      refine ⟨r, h3, ?_⟩
      cases r with
      | nx e2 => exact whN_mono h4 (by omega)
      | ct e2 => exact whN_mono h4 (by omega)
      | bk e2 => exact h4
      | rt s e2 => exact h4
theorem whC_of {c : En → Option (Bool × En)} {b : En → Option Out} {n : Nat} {env : En} {o : Out} (h : whN c b n env = some o) : whC c b env = some o := by
  have hh : ∃ n r, whN c b n env = some r := ⟨n, o, h⟩
  unfold whC
  rw [dif_pos hh]
  have h2 := hh.choose_spec.choose_spec
  have h3 := whN_mono h (Nat.le_max_left n hh.choose)
  have h4 := whN_mono h2 (Nat.le_max_right n hh.choose)
  rw [h3] at h4
  exact h4.symm
theorem whC_end {c : En → Option (Bool × En)} {b : En → Option Out} {env e1 : En} (h : c env = some (false, e1)) : whC c b env = some (.nx e1) :=
  whC_of (n := 1) (by simp [whN, h])
theorem whC_step {c : En → Option (Bool × En)} {b : En → Option Out} {env e1 e2 : En} {o : Out} (h : c env = some (true, e1)) (hb : b e1 = some (.nx e2)) (r : whC c b e2 = some o) : whC c b env = some o := by
  obtain ⟨n, hn⟩ := whC_some r
  exact whC_of (n := n + 1) (by simp [whN, h, hb, hn])
theorem whC_ret {c : En → Option (Bool × En)} {b : En → Option Out} {env e1 e2 : En} {s : Sl} (h : c env = some (true, e1)) (hb : b e1 = some (.rt s e2)) : whC c b env = some (.rt s e2) :=
  whC_of (n := 1) (by simp [whN, h, hb])
/-- calls -/
theorem call_user {es : List Entry} {d j : Nat} {i : FnI} (h : es[j]? = some (.user i)) (as : List Sl) : callN (tbOf es) (d + 1) j as = runB (callN (tbOf es) d) i.b i.ps.length i.N.length i.body as := by
  simp only [callN, tbOf, h, Option.map_some, Entry.fn]
theorem call_prim {es : List Entry} {d j m : Nat} {g : List Sl → Option (Sl × List Sl)} (h : es[j]? = some (.prim m g)) (hm : m ≤ d) (as : List Sl) : callN (tbOf es) (d + 1) j as = g as := by
  simp only [callN, tbOf, h, Option.map_some, Entry.fn, if_pos hm]
/-- a function's answer, by its body's outcome -/
theorem ret_user {es : List Entry} {d j : Nat} {i : FnI} {as : List Sl} {s : Sl} {e : En} (h : es[j]? = some (.user i)) (hl : as.length = i.ps.length) (hb : hasBx as = i.b) (hx : exs (callN (tbOf es) d) i.body (as ++ List.replicate (i.N.length - i.ps.length) .no) = some (.rt s e)) : retOf (callN (tbOf es) (d + 1)) j as = some s := by
  unfold retOf
  rw [call_user h]
  unfold runB
  rw [if_pos ⟨hl, hb⟩, hx]
  rfl
theorem retB_user {es : List Entry} {d j : Nat} {i : FnI} {as : List Sl} {s b : Sl} {e : En} (h : es[j]? = some (.user i)) (hl : as.length = i.ps.length) (hb : hasBx as = i.b) (hx : exs (callN (tbOf es) d) i.body (as ++ List.replicate (i.N.length - i.ps.length) .no) = some (.rt s (b :: e))) : retB (callN (tbOf es) (d + 1)) j as = some (s, b) := by
  unfold retB
  rw [call_user h]
  unfold runB
  rw [if_pos ⟨hl, hb⟩, hx]
  rfl
end Mini

namespace Mini
open PySem PySem.Spec L2
section
theorem setS_ok {env : En} {i : Nat} {s : Sl} (h : ∃ t, env[i]? = some t ∧ t.isBx = false) : setS i s env = some (env.set i s) := by
  obtain ⟨t, h1, h2⟩ := h
  unfold setS; rw [h1]
  cases t <;> first | rfl | cases h2
theorem setS_t (env : En) (i : Nat) (s t : Sl) (h : env[i]? = some t) (h2 : t.isBx = false) : setS i s env = some (env.set i s) := setS_ok ⟨t, h, h2⟩
@[simp] theorem binD_add (x y : Int) : binD .Add (.int x) (.int y) = some (.v (.int (x + y))) := (rfl)
@[simp] theorem binD_sub (x y : Int) : binD .Sub (.int x) (.int y) = some (.v (.int (x - y))) := (rfl)
@[simp] theorem binD_mod (x y : Int) (h : 0 < y) : binD .Mod (.int x) (.int y) = some (.v (.int (x % y))) := by simp [binD, h]
@[simp] theorem binD_mul (x y : Int) (h : mulOk x y) : binD .Mult (.int x) (.int y) = some (.v (.int (x * y))) := by simp [binD, h]
@[simp] theorem binD_div (x y : Int) (h : divOk y) : binD .FloorDiv (.int x) (.int y) = some (.v (.int (x / y))) := by simp [binD, h]
@[simp] theorem negD_int (x : Int) : negD (.int x) = some (.v (.int (-x))) := (rfl)
@[simp] theorem truth_int (x : Int) : truth (.int x) = some (x != 0) := (rfl)
@[simp] theorem truth_bool (x : Bool) : truth (.bool x) = some x := (rfl)
@[simp] theorem isn_eq (ng : Bool) (d : D) : isnD ng d = some (.v (.bool (match d with | .none => !ng | _ => ng))) := by cases d <;> rfl
@[simp] theorem cmp_lt (x y : Int) : cmpD .Lt (.int x) (.int y) = some (.v (.bool (decide (x < y)))) := (rfl)
@[simp] theorem cmp_gt (x y : Int) : cmpD .Gt (.int x) (.int y) = some (.v (.bool (decide (y < x)))) := (rfl)
@[simp] theorem cmp_le (x y : Int) : cmpD .LtE (.int x) (.int y) = some (.v (.bool (decide (x ≤ y)))) := (rfl)
@[simp] theorem cmp_ge (x y : Int) : cmpD .GtE (.int x) (.int y) = some (.v (.bool (decide (y ≤ x)))) := (rfl)
@[simp] theorem shaped_int (x : Int) : SeqAt.shaped (.int x) = true := (rfl)
@[simp] theorem shaped_bool (x : Bool) : SeqAt.shaped (.bool x) = true := (rfl)
@[simp] theorem cmp_eq (x y : Int) : cmpD .Eq (.int x) (.int y) = some (.v (.bool (decide (x = y)))) := by simp [cmpD, PyData.eqv]; rfl
@[simp] theorem cmp_ne (x y : Int) : cmpD .NotEq (.int x) (.int y) = some (.v (.bool (!decide (x = y)))) := by simp [cmpD, PyData.eqv]; rfl
@[simp] theorem cmp_eqb (x y : Bool) : cmpD .Eq (.bool x) (.bool y) = some (.v (.bool (x == y))) := by simp [cmpD, PyData.eqv]
@[simp] theorem abs_int (x : Int) : bltD .abs [.int x] = some (.v (.int x.natAbs)) := by
  have : (if x < 0 then -x else x) = (x.natAbs : Int) := by split <;> omega
  simp [bltD, this]
@[simp] theorem len_t (xs : List D) : bltD .len [.tuple xs] = some (.v (.int xs.length)) := (rfl)
@[simp] theorem len_l (xs : List D) : bltD .len [.list xs] = some (.v (.int xs.length)) := (rfl)
@[simp] theorem isBx_v (x : D) : (Sl.v x).isBx = false := (rfl)
@[simp] theorem isBx_no : (Sl.no).isBx = false := (rfl)
@[simp] theorem isBx_l (xs : List D) : (Sl.l xs).isBx = false := (rfl)
def Sm (x : Int) : Prop := x.natAbs < 2 ^ 4000
theorem Sm.log {x : Int} (h : Sm x) : x.natAbs.log2 < 4001 := by
  by_cases z : x.natAbs = 0
  · rw [z]; decide
  · rw [Nat.log2_lt z]; exact Nat.lt_of_lt_of_le h (Nat.pow_le_pow_right (by decide) (by decide))
theorem Sm.mul {x y : Int} (h : Sm x) (k : Sm y) : mulOk x y := .inl (by have := h.log; have := k.log; omega)
theorem Sm.div {x : Int} (h : Sm x) (p : 0 < x) : divOk x := ⟨p, by have := h.log; omega⟩
theorem Sm.le {x y : Int} (h : Sm x) (k : y.natAbs ≤ x.natAbs) : Sm y := Nat.lt_of_le_of_lt k h
@[simp] theorem idx_t (xs : List D) (i : Int) : idxD (.tuple xs) (.int i) = (atI xs i).map .v := (rfl)
@[simp] theorem idx_l (xs : List D) (i : Int) : idxD (.list xs) (.int i) = (atI xs i).map .v := (rfl)
theorem at0 (a : D) (xs : List D) : atI (a :: xs) 0 = some a := by simp [atI, ixN]
theorem at1 (a b : D) (xs : List D) : atI (a :: b :: xs) 1 = some b := by
  have : (1 : Int) < (xs.length : Int) + 1 + 1 := by omega
  simp [atI, ixN, this]
@[simp] theorem at0s (a : D) (xs : List D) : atI (a :: xs) 0 = some a := at0 a xs
@[simp] theorem at1s (a b : D) (xs : List D) : atI (a :: b :: xs) 1 = some b := at1 a b xs
theorem sm_of {x : Int} {n : Nat} (h : x.natAbs < 2 ^ n) (l : n ≤ 4000) : Sm x := Nat.lt_of_lt_of_le h (Nat.pow_le_pow_right (by decide) l)
theorem bd_mul {x y : Int} {m n : Nat} (h : x.natAbs < 2 ^ m) (k : y.natAbs < 2 ^ n) : (x * y).natAbs < 2 ^ (m + n) := by
  rw [Int.natAbs_mul, Nat.pow_add]
  exact Nat.mul_lt_mul'' h k
theorem bd_add {x y : Int} {n : Nat} (h : x.natAbs < 2 ^ n) (k : y.natAbs < 2 ^ n) : (x + y).natAbs < 2 ^ (n + 1) := by
  have := Int.natAbs_add_le x y
  rw [Nat.pow_succ]; omega
theorem bd_neg {x : Int} {n : Nat} (h : x.natAbs < 2 ^ n) : (-x).natAbs < 2 ^ n := by simpa using h
theorem bd_le {x : Int} {m n : Nat} (h : x.natAbs < 2 ^ n) (l : n ≤ m) : x.natAbs < 2 ^ m := Nat.lt_of_lt_of_le h (Nat.pow_le_pow_right (by decide) l)
@[simp] theorem gets_pair (env : En) (x y : D) : gets env [.d x, .d y] = some [x, y] := (rfl)
open Classical in
@[simp] theorem lcM_val (t : T) (k : IK) (its cond : List M) (elt : M) (own : List Nat) (env : En) : (lcM t k its cond elt own).val env = (opsM its env).bind fun r => (gets r.2 r.1).bind fun ds => (itemsOf k ds).bind fun xs =>
  if stillB r.2 (wipeE r.2 own) r.1 then (lcLoop t cond elt own r.1 r.2 xs (wipeE r.2 own)).map fun u => (.l u.1, restE r.2 u.2 own) else none := by
  unfold lcM
  rfl
@[simp] theorem lcM_opd (t : T) (k : IK) (its cond : List M) (elt : M) (own : List Nat) (env : En) : (lcM t k its cond elt own).opd env = (frzM (lcM t k its cond elt own).val env).map fun r => (.d r.1, r.2) := (rfl)
@[simp] theorem stillB_nil (e0 e1 : En) : stillB e0 e1 [] = True := (rfl)
@[simp] theorem stillB_d (e0 e1 : En) (d : D) (r : List Opd) : stillB e0 e1 (.d d :: r) = stillB e0 e1 r := (rfl)
@[simp] theorem stillB_s (e0 e1 : En) (i : Nat) (r : List Opd) : stillB e0 e1 (.s i :: r) = (e1[i]? = e0[i]? ∧ stillB e0 e1 r) := (rfl)
@[simp] theorem condM_0 (env : En) : condM [] env = some (true, env) := (rfl)
@[simp] theorem condM_1 (c : M) (env : En) : condM [c] env = c.tst env := (rfl)
section
variable (t : T) (cond : List M) (elt : M) (own : List Nat) (ps : List Opd) (e0 env : En)
@[simp] theorem lcLoop_nil : lcLoop t cond elt own ps e0 [] env = some ([], env) := by unfold lcLoop; rfl
open Classical in
@[simp] theorem lcLoop_cons (x : D) (xs : List D) : lcLoop t cond elt own ps e0 (x :: xs) env = (asgT t x env).bind fun e1 => (condM cond e1).bind fun r =>
      if r.1 then (frzM elt.val r.2).bind fun u => if stillB e0 (wipeE u.2 own) ps then (lcLoop t cond elt own ps e0 xs (wipeE u.2 own)).map fun v => (u.1 :: v.1, v.2) else none
      else if stillB e0 (wipeE r.2 own) ps then lcLoop t cond elt own ps e0 xs (wipeE r.2 own) else none := by
  rw [lcLoop]
end
@[simp] theorem restE_nil (e1 e2 : En) : restE e1 e2 [] = e2 := (rfl)
theorem restE_no (e1 e2 : En) (i : Nat) (r : List Nat) (h : e1[i]? = some .no) : restE e1 e2 (i :: r) = restE e1 e2 r := by
  simp only [restE, h]
theorem restE_v (e1 e2 : En) (i : Nat) (r : List Nat) (d : D) (h : e1[i]? = some (.v d)) : restE e1 e2 (i :: r) = (restE e1 e2 r).set i (.v d) := by
  simp only [restE, h]
@[simp] theorem items_t (xs : List D) : itemsOf .seq [.tuple xs] = some xs := (rfl)
@[simp] theorem items_l (xs : List D) : itemsOf .seq [.list xs] = some xs := (rfl)
theorem items_r (n : Nat) (h : n ≤ 1000) : itemsOf .rng [.int n] = some (rngL 0 n) := by
  have h1 : rngOk n := by unfold rngOk; omega
  have h2 : (n : Int) ≤ (sizeLine : Nat) := by unfold sizeLine; omega
  simp [itemsOf, h1, h2]
@[simp] theorem all_l (xs : List D) : bltD .all [.list xs] = (boolsL xs).map fun bs => .v (.bool (bs.all id)) := (rfl)
@[simp] theorem boolsL_nil : boolsL [] = some [] := (rfl)
@[simp] theorem boolsL_cons (b : Bool) (r : List D) : boolsL (.bool b :: r) = (boolsL r).map (b :: ·) := (rfl)
@[simp] theorem isB_bx (cs rs : List Int) : isB (some (.bx cs rs)) = true := (rfl)
@[simp] theorem isL_l (xs : List D) : isL (some (.l xs)) = true := (rfl)
@[simp] theorem callBM_val (P : Ph) (f i : Nat) (es : List M) (env : En) : (callBM P f i es).val env = if isB env[i]? then (argsM es env).bind fun t => match t.2[i]? with
  | some (.bx cs rs) => (retB P f (.bx cs rs :: t.1.map .v)).bind fun u => match u.2 with
    | .bx cs2 rs2 => some (u.1, t.2.set i (.bx cs2 rs2))
    | _ => none
  | _ => none else none := (rfl)
@[simp] theorem callBM_opd (P : Ph) (f i : Nat) (es : List M) (env : En) : (callBM P f i es).opd env = (frzM (callBM P f i es).val env).map fun r => (.d r.1, r.2) := (rfl)
theorem frL_inv {t : T} {b : En → Option Out} (J : List D → En → Prop) (step : ∀ x xs env, J (x :: xs) env → ∃ e1 e2, asgT t x env = some e1 ∧ b e1 = some (.nx e2) ∧ J xs e2) : ∀ xs env, J xs env → ∃ e, frL t b xs env = some (.nx e) ∧ J [] e
  | [], env, h => ⟨env, rfl, h⟩
  | x :: xs, env, h => by
    obtain ⟨e1, e2, h1, h2, h3⟩ := step x xs env h
    obtain ⟨e, h4, h5⟩ := frL_inv J step xs e2 h3
    exact ⟨e, by simp only [frL, h1, h2, Option.bind_some, h4], h5⟩
theorem app_ok (i : Nat) (xs : List D) (d : D) (env : En) (h : env[i]? = some (.l xs)) (hl : xs.length < 1000) : appS i d env = some (.nx (env.set i (.l (xs ++ [d])))) := by
  unfold appS
  rw [h]
  simp only []
  rw [if_pos (by unfold sizeLine; omega)]
@[simp] theorem at_last (xs : List D) (d : D) : atI (xs ++ [d]) (-1) = some d := by
  have : (-((xs.length : Int) + 1) ≤ -1) := by omega
  have h2 : ((-1 : Int) + ((xs.length : Int) + 1)).toNat = xs.length := by omega
  simp [atI, ixN, this, h2]
end
end Mini

namespace Mini
open PySem PySem.Spec L2
/-! a law's end -/
/-- the law's promise: True for each script of at most 63 ints -/
def spLaw (K : PySem.W.Frag) : Sp := fun vs H Q _ => ∃ (a : Addr) (ns : List Int), vs = [.ref a] ∧ ScL K H a (ns.map V.int) ∧ ns.length ≤ 63 ∧ ∀ H', Q (.bl true) H'
theorem spLaw_of {K : PySem.W.Frag} {H : Hp} {a : Addr} {ns : List Int} (hl : ns.length ≤ 63) (o : Only H) (h : SqL K H a (ns.map V.int)) : spLaw K [.ref a] H (fun v _ => v = .bl true) fun _ _ _ => False := by
  refine ⟨a, ns, rfl, ?_, hl, fun _ => rfl⟩
  rcases h with (h | h) | h
  · rcases o a with z | ⟨ob, xs, z⟩
    · rw [z] at h; cases h
    · rw [z] at h; cases h
  · exact .inl h
  · exact .inr h
theorem law_imp {Pr : Program} {w : World} {K : PySem.W.Frag} {mg : Str → Option Value} {base : Heap} {lev : Nat} {f : Addr} {fd : FuncData} {ps : List Str} {P : Ph} {j : Nat} (F : FnOk Pr w K mg base CX0 lev f fd ps (spF K P j))
    (h : ∀ ns : List Int, ns.length ≤ 63 → retOf P j [.sc ns] = some (.v (.bool true))) : FnOk Pr w K mg base CX0 lev f fd ps (spLaw K) := by
  refine F.imp fun vs H Q E ⟨a, ns, e, hs, hl, q⟩ => ?_
  subst e
  have hh := h ns hl
  unfold retOf at hh
  simp only [Option.map_eq_some_iff] at hh
  obtain ⟨⟨r, as'⟩, h1, h2⟩ := hh
  have h2 : r = .v (.bool true) := h2
  subst h2
  have wa : W K (fun _ => False) H [.sc ns] ([V.ref a].map some) := by
    refine ⟨fun b z => z.elim, rfl, fun i s z => ?_, fun i j s t v u b n z1 z2 z3 z4 f1 f2 => ?_⟩
    · match i, z with
      | 0, z => have e : s = .sc ns := by simpa using z.symm
                subst e; exact .inr ⟨.ref a, rfl, a, rfl, hs⟩
      | i + 1, z => simp at z
    · match i, z1 with
      | 0, z1 => have e : s = .sc ns := by simpa using z1.symm
                 subst e; exact f1
      | i + 1, z1 => simp at z1
  refine ⟨fun _ => False, [.sc ns], _, as', wa, h1, fun O' H' v st wr => ?_⟩
  have e : v = .bl true := by simpa only [RepS, RepD] using wr.val
  subst e
  exact q H'
/-- constants of the top -/
def GVal (d : D) (u : Value) : Prop := match d with
  | .int i => ∃ t, u = .int i t
  | .str s => ∃ t, u = .str s t
  | .bool b => u = .bool b
  | .none => u = .none
  | _ => False
theorem gl_val {K : PySem.W.Frag} {mg : Str → Option Value} {x : Str} {d : D} {u : Value} (h : mg x = some u) (g : GVal d u) : ∃ v u, mg x = some u ∧ RelV v u ∧ ∀ (O : Own) (H : Hp), RepD K O H d v := by
  cases d with
  | int i => exact ⟨.int i, u, h, g, fun _ _ => by simp only [RepD]⟩
  | str i => exact ⟨.str i, u, h, g, fun _ _ => by simp only [RepD]⟩
  | bool i => exact ⟨.bl i, u, h, g, fun _ _ => by simp only [RepD]⟩
  | none => exact ⟨.non, u, h, g, fun _ _ => by simp only [RepD]⟩
  | _ => exact g.elim
def GVals : List D → List Value → Prop
  | [], us => us = []
  | d :: ds, us => ∃ u r, us = u :: r ∧ GVal d u ∧ GVals ds r
def GTup (K : PySem.W.Frag) (d : D) (us : List Value) : Prop := match d with
  | .tuple ds => us.length ≤ sizeLine ∧ GVals ds us
  | _ => False
theorem gvals_of {K : PySem.W.Frag} : ∀ {ds : List D} {us : List Value}, GVals ds us → ∃ vs, Vals vs us ∧ ∀ (O : Own) (H : Hp), RepDs K O H ds vs
  | [], us, h => by
    have h : us = [] := h
    subst h
    exact ⟨[], .nil, fun _ _ => by simp only [RepDs]⟩
  | d :: ds, us, h => by
    obtain ⟨u, r, rfl, h1, h2⟩ := h
    obtain ⟨v, u', e, hv, hr⟩ := gl_val (K := K) (mg := fun _ => some u) (x := "a") rfl h1
    cases e
    obtain ⟨vs, h3, h4⟩ := gvals_of (K := K) h2
    exact ⟨v :: vs, .cons hv h3, fun O H => by simp only [RepDs]; exact ⟨v, vs, rfl, hr O H, h4 O H⟩⟩
theorem gl_tuple {K : PySem.W.Frag} {mg : Str → Option Value} {x : Str} {d : D} {z : Addr} {dd : Option Addr} {its : Array Value} {n : Nat} {sl : Array (Option Value)} (h : mg x = some (.ref z)) (l : K.lookup z = some ⟨.type "tuple", dd, .seq its n, sl⟩) (g : GTup K d its.toList) : ∃ v u, mg x = some u ∧ RelV v u ∧ ∀ (O : Own) (H : Hp), RepD K O H d v := by
  cases d with
  | tuple ds =>
    obtain ⟨g1, g2⟩ := g
    obtain ⟨vs, h3, h4⟩ := gvals_of (K := K) g2
    refine ⟨.ref z, .ref z, h, rfl, fun O H => ?_⟩
    simp only [RepD]
    exact ⟨z, vs, rfl, .inr ⟨_, its, n, l, rfl, rfl, by simpa using g1, h3⟩, h4 O H⟩
  | _ => exact g.elim
theorem lookup_mem {α : Type} : ∀ {l : List (Str × α)} {x : Str} {d : α}, l.lookup x = some d → (x, d) ∈ l
  | [], x, d, h => by simp at h
  | (y, e) :: r, x, d, h => by
    rw [List.lookup_cons] at h
    split at h
    · rename_i hb
      cases h
      have : x = y := by simpa using hb
      subst this
      exact List.mem_cons_self
    · exact List.mem_cons_of_mem _ (lookup_mem h)
theorem gls_of {gl : List (Str × D)} {Q : Str → D → Prop} (h : ∀ p ∈ gl, Q p.1 p.2) (x : Str) (d : D) (e : gl.lookup x = some d) : Q x d := h (x, d) (lookup_mem e)
end Mini

namespace Mini
open PySem PySem.Spec L2
section
theorem gcd_step (a b : Nat) : Nat.gcd b (a % b) = Nat.gcd a b := by
  rw [Nat.gcd_comm b, ← Nat.gcd_rec b a, Nat.gcd_comm]
theorem gcd_w (P : Ph) : ∀ (n a b : Nat), b ≤ n → whC (ev P (.var 1)).tst (exs P [(.asg (.tp [(.nm 0), (.nm 1)]) (.tup [(.var 1), (.bin .Mod (.var 0) (.var 1))]))]) [.v (.int a), .v (.int b)] = some (.nx [.v (.int (Nat.gcd a b)), .v (.int 0)])
  | n, a, 0, l => by
    apply whC_end
    simp
  | 0, a, b + 1, l => by omega
  | n + 1, a, b + 1, l => by
    refine whC_step (e1 := [.v (.int a), .v (.int ((b + 1 : Nat) : Int))]) (e2 := [.v (.int ((b + 1 : Nat) : Int)), .v (.int ((a % (b + 1) : Nat) : Int))]) ?_ ?_ ?_
    · simp; omega
    · have : (0 : Int) < (b : Int) + 1 := by omega
      simp [this, sizeLine]
    · rw [gcd_w P n (b + 1) (a % (b + 1)) (by have : a % (b + 1) < b + 1 := Nat.mod_lt a (Nat.succ_pos b); omega), gcd_step]
def rp (p q : Int) : Int := (if q < 0 then -p else p) / (Int.gcd p q : Int)
def rq (p q : Int) : Int := (if q < 0 then -q else q) / (Int.gcd p q : Int)
theorem g_pos {p q : Int} (h : q ≠ 0) : 0 < (Int.gcd p q : Int) := by
  have := Int.gcd_pos_of_ne_zero_right p h
  omega
theorem g_div {p q : Int} (h : q ≠ 0) (s : Sm q) : divOk (Int.gcd p q : Int) := by
  refine Sm.div (s.le ?_) (g_pos h)
  have := Nat.le_of_dvd (by omega) (Int.gcd_dvd_natAbs_right p q)
  simpa using this
theorem div_w (P : Ph) : ∀ (n a b : Nat), b ≤ n → Sm a → Sm b → whC (ev P (.cmp .NotEq (.var 1) (.cst (.int 0)))).tst (exs P [(.asg (.tp [(.nm 0), (.nm 1)]) (.tup [(.var 1), (.bin .Sub (.var 0) (.bin .Mult (.bin .FloorDiv (.var 0) (.var 1)) (.var 1)))]))]) [.v (.int a), .v (.int b)] = some (.nx [.v (.int (Nat.gcd a b)), .v (.int 0)])
  | n, a, 0, l, _, _ => by
    apply whC_end
    simp
  | 0, a, b + 1, l, _, _ => by omega
  | n + 1, a, b + 1, l, sa, sb => by
    have hm : ((a : Int) - (a : Int) / ((b : Int) + 1) * ((b : Int) + 1)) = ((a % (b + 1) : Nat) : Int) := by
      have := Int.emod_def (a : Int) ((b : Int) + 1)
      rw [Int.mul_comm] at this
      rw [← this]; rfl
    have lt : a % (b + 1) < b + 1 := Nat.mod_lt a (Nat.succ_pos b)
    have hd : divOk ((b : Int) + 1) := sb.div (by omega)
    have hp : mulOk ((a : Int) / ((b : Int) + 1)) ((b : Int) + 1) := by
      refine Sm.mul (sa.le ?_) sb
      have : (a : Int) / ((b : Int) + 1) = ((a / (b + 1) : Nat) : Int) := rfl
      rw [this, Int.natAbs_natCast, Int.natAbs_natCast]
      exact Nat.div_le_self _ _
    refine whC_step (e1 := [.v (.int a), .v (.int ((b + 1 : Nat) : Int))]) (e2 := [.v (.int ((b + 1 : Nat) : Int)), .v (.int ((a % (b + 1) : Nat) : Int))]) ?_ ?_ ?_
    · simp; omega
    · simp [sizeLine, hd, hp, hm]
    · rw [div_w P n (b + 1) (a % (b + 1)) (by omega) sb (sb.le (by rw [Int.natAbs_natCast, Int.natAbs_natCast]; omega)), gcd_step]
structure Rat2 (x y : Int) (n : Nat) : Prop where
  p : x.natAbs < 2 ^ n
  q : y.natAbs < 2 ^ n
  pos : 0 < y
theorem rr {p q : Int} {n : Nat} (hp : p.natAbs < 2 ^ n) (hq : q.natAbs < 2 ^ n) (h : q ≠ 0) : Rat2 (rp p q) (rq p q) n := by
  have g := g_pos (p := p) h
  have gn : 0 < Int.gcd p q := by omega
  refine ⟨?_, ?_, ?_⟩
  · refine Nat.lt_of_le_of_lt ?_ hp
    unfold rp
    have := Int.natAbs_ediv_le_natAbs (if q < 0 then -p else p) (Int.gcd p q : Int)
    refine Nat.le_trans this ?_
    split <;> simp
  · refine Nat.lt_of_le_of_lt ?_ hq
    unfold rq
    have := Int.natAbs_ediv_le_natAbs (if q < 0 then -q else q) (Int.gcd p q : Int)
    refine Nat.le_trans this ?_
    split <;> simp
  · unfold rq
    apply Int.ediv_pos_of_pos_of_dvd (by split <;> omega) (by omega)
    split
    · exact Int.dvd_neg.mpr (Int.gcd_dvd_right p q)
    · exact Int.gcd_dvd_right p q
theorem plus_b {a b c d : Int} {m n : Nat} (h1 : Rat2 a b m) (h2 : Rat2 c d n) : Rat2 (rp (a * d + c * b) (b * d)) (rq (a * d + c * b) (b * d)) (m + n + 1) := by
  have s1 := bd_mul h1.q h2.q
  have s2 := bd_mul h1.p h2.q
  have s3 := bd_mul h2.p h1.q
  rw [Nat.add_comm] at s3
  have pp := Int.mul_pos h1.pos h2.pos
  exact rr (bd_add s2 s3) (bd_le s1 (by omega)) (by omega)
theorem Rat2.neg {c d : Int} {n : Nat} (h : Rat2 c d n) : Rat2 (-c) d n := ⟨bd_neg h.p, h.q, h.pos⟩
theorem rp_neg {p q : Int} (h : 0 < q) : (rp p q < 0) ↔ p < 0 := by
  have g := g_pos (p := p) (q := q) (by omega)
  unfold rp
  rw [if_neg (by omega)]
  exact ⟨fun z => by
    refine Int.not_le.mp fun l => ?_
    have := Int.ediv_nonneg l (Int.le_of_lt g)
    omega, fun z => Int.ediv_neg_of_neg_of_pos z g⟩
end
end Mini

namespace Mini
open PySem PySem.Spec L2
section
theorem rp_g {p q : Int} (h : 0 < q) : rp p q * (Int.gcd p q : Int) = p := by
  unfold rp
  rw [if_neg (by omega)]
  exact Int.ediv_mul_cancel (Int.gcd_dvd_left p q)
theorem rq_g {p q : Int} (h : 0 < q) : rq p q * (Int.gcd p q : Int) = q := by
  unfold rq
  rw [if_neg (by omega)]
  exact Int.ediv_mul_cancel (Int.gcd_dvd_right p q)
theorem rq_pos {p q : Int} (h : 0 < q) : 0 < rq p q := by
  have g := g_pos (p := p) (q := q) (by omega)
  have e := rq_g (p := p) h
  refine Int.not_le.mp fun l => ?_
  have := Int.mul_nonpos_of_nonpos_of_nonneg l (Int.le_of_lt g)
  omega
/-- cross products of what is reduced -/
theorem rat_cross {p q : Int} (h : 0 < q) : rp p q * q = p * rq p q := by
  have e1 := rp_g (p := p) h
  have e2 := rq_g (p := p) h
  calc rp p q * q = rp p q * (rq p q * (Int.gcd p q : Int)) := by rw [e2]
    _ = (rp p q * (Int.gcd p q : Int)) * rq p q := by ac_rfl
    _ = p * rq p q := by rw [e1]
theorem less_iff {a b c d : Int} (hb : 0 < b) (hd : 0 < d) : rp a b * rq c d < rp c d * rq a b ↔ a * d < c * b := by
  have e1 := rp_g (p := a) hb
  have e2 := rq_g (p := a) hb
  have e3 := rp_g (p := c) hd
  have e4 := rq_g (p := c) hd
  have g1 := g_pos (p := a) (q := b) (by omega)
  have g2 := g_pos (p := c) (q := d) (by omega)
  have gg := Int.mul_pos g1 g2
  have x1 : a * d = (rp a b * rq c d) * ((Int.gcd a b : Int) * (Int.gcd c d : Int)) := by
    calc a * d = (rp a b * (Int.gcd a b : Int)) * (rq c d * (Int.gcd c d : Int)) := by rw [e1, e4]
      _ = _ := by ac_rfl
  have x2 : c * b = (rp c d * rq a b) * ((Int.gcd a b : Int) * (Int.gcd c d : Int)) := by
    calc c * b = (rp c d * (Int.gcd c d : Int)) * (rq a b * (Int.gcd a b : Int)) := by rw [e3, e2]
      _ = _ := by ac_rfl
  rw [x1, x2]
  exact ⟨fun z => Int.mul_lt_mul_of_pos_right z gg, fun z => Int.lt_of_mul_lt_mul_right z (Int.le_of_lt gg)⟩
theorem gcd_red {p q : Int} (h : 0 < q) : Int.gcd (rp p q) (rq p q) = 1 := by
  unfold rp rq
  rw [if_neg (by omega), if_neg (by omega)]
  exact Int.gcd_ediv_gcd_ediv_gcd (by have := g_pos (p := p) (q := q) (by omega); omega)
theorem dvd_gcd1 {a b c : Int} (h : a ∣ b * c) (g : Int.gcd a b = 1) : a ∣ c := by
  rw [← Int.natAbs_dvd_natAbs] at h ⊢
  rw [Int.natAbs_mul] at h
  exact Nat.Coprime.dvd_of_dvd_mul_left (show Nat.gcd a.natAbs b.natAbs = 1 from g) h
/-- two reduced ratios with one value are one -/
theorem red_uniq {x y u v : Int} (hy : 0 < y) (hv : 0 < v) (g1 : Int.gcd x y = 1) (g2 : Int.gcd u v = 1) (e : x * v = u * y) : x = u ∧ y = v := by
  have d1 : y ∣ v := by
    have : y ∣ x * v := ⟨u, by rw [e, Int.mul_comm]⟩
    exact dvd_gcd1 this (by rw [Int.gcd_comm]; exact g1)
  have d2 : v ∣ y := by
    have : v ∣ u * y := ⟨x, by rw [← e, Int.mul_comm]⟩
    exact dvd_gcd1 this (by rw [Int.gcd_comm]; exact g2)
  have l1 := Int.le_of_dvd hv d1
  have l2 := Int.le_of_dvd hy d2
  have ev : y = v := by omega
  subst ev
  exact ⟨Int.eq_of_mul_eq_mul_right (by omega) e, rfl⟩
theorem rat_uniq {p q u v : Int} (hq : 0 < q) (hv : 0 < v) (e : p * v = u * q) : rp p q = rp u v ∧ rq p q = rq u v := by
  apply red_uniq (rq_pos hq) (rq_pos hv) (gcd_red hq) (gcd_red hv)
  have c1 := rat_cross (p := p) hq
  have c2 := rat_cross (p := u) hv
  have : (rp p q * rq u v) * (q * v) = (rp u v * rq p q) * (q * v) := by
    calc (rp p q * rq u v) * (q * v) = (rp p q * q) * (rq u v * v) := by ac_rfl
      _ = (p * rq p q) * (rq u v * v) := by rw [c1]
      _ = (p * v) * (rq p q * rq u v) := by ac_rfl
      _ = (u * q) * (rq p q * rq u v) := by rw [e]
      _ = (u * rq u v) * (rq p q * q) := by ac_rfl
      _ = (rp u v * v) * (rq p q * q) := by rw [c2]
      _ = (rp u v * rq p q) * (q * v) := by ac_rfl
  exact Int.eq_of_mul_eq_mul_right (Int.ne_of_gt (Int.mul_pos hq hv)) this
end
end Mini

namespace Mini
open PySem PySem.Spec L2
section
@[simp] theorem isi_none_int : isiD .none .int = false := rfl
@[simp] theorem isi_none_bool : isiD .none .bool = false := rfl
@[simp] theorem isi_none_tuple : isiD .none .tuple = false := rfl
@[simp] theorem isi_none_list : isiD .none .list = false := rfl
@[simp] theorem isi_none_str : isiD .none .str = false := rfl
@[simp] theorem isi_bool_int (b : Bool) : isiD (.bool b) .int = true := rfl
@[simp] theorem isi_bool_bool (b : Bool) : isiD (.bool b) .bool = true := rfl
@[simp] theorem isi_bool_tuple (b : Bool) : isiD (.bool b) .tuple = false := rfl
@[simp] theorem isi_bool_list (b : Bool) : isiD (.bool b) .list = false := rfl
@[simp] theorem isi_bool_str (b : Bool) : isiD (.bool b) .str = false := rfl
@[simp] theorem isi_int_int (b : Int) : isiD (.int b) .int = true := rfl
@[simp] theorem isi_int_bool (b : Int) : isiD (.int b) .bool = false := rfl
@[simp] theorem isi_int_tuple (b : Int) : isiD (.int b) .tuple = false := rfl
@[simp] theorem isi_int_list (b : Int) : isiD (.int b) .list = false := rfl
@[simp] theorem isi_int_str (b : Int) : isiD (.int b) .str = false := rfl
@[simp] theorem isi_str_int (b : Str) : isiD (.str b) .int = false := rfl
@[simp] theorem isi_str_bool (b : Str) : isiD (.str b) .bool = false := rfl
@[simp] theorem isi_str_tuple (b : Str) : isiD (.str b) .tuple = false := rfl
@[simp] theorem isi_str_list (b : Str) : isiD (.str b) .list = false := rfl
@[simp] theorem isi_str_str (b : Str) : isiD (.str b) .str = true := rfl
@[simp] theorem isi_tuple_int (b : List D) : isiD (.tuple b) .int = false := rfl
@[simp] theorem isi_tuple_bool (b : List D) : isiD (.tuple b) .bool = false := rfl
@[simp] theorem isi_tuple_tuple (b : List D) : isiD (.tuple b) .tuple = true := rfl
@[simp] theorem isi_tuple_list (b : List D) : isiD (.tuple b) .list = false := rfl
@[simp] theorem isi_tuple_str (b : List D) : isiD (.tuple b) .str = false := rfl
@[simp] theorem isi_list_int (b : List D) : isiD (.list b) .int = false := rfl
@[simp] theorem isi_list_bool (b : List D) : isiD (.list b) .bool = false := rfl
@[simp] theorem isi_list_tuple (b : List D) : isiD (.list b) .tuple = false := rfl
@[simp] theorem isi_list_list (b : List D) : isiD (.list b) .list = true := rfl
@[simp] theorem isi_list_str (b : List D) : isiD (.list b) .str = false := rfl
theorem cmp_eqs (x y : Str) (h : SeqAt.shaped (.str x) = true) (h2 : SeqAt.shaped (.str y) = true) : cmpD .Eq (.str x) (.str y) = some (.v (.bool (x == y))) := by
  show (if _ then b2s _ else none) = _
  rw [if_pos ⟨h, h2⟩]; rfl
/-- a comprehension whose parts leave the names as they are -/
theorem lc_gen {t : T} {cond : List M} {elt : M} {own : List Nat} {ps : List Opd} {e0 env : En} (f : D → D) (g : D → Bool) (hs : stillB e0 env ps) : ∀ (xs : List D),
    (∀ x ∈ xs, ∃ e1, asgT t x env = some e1 ∧ wipeE e1 own = env ∧ condM cond e1 = some (g x, e1) ∧ (g x = true → frzM elt.val e1 = some (f x, e1))) →
    lcLoop t cond elt own ps e0 xs env = some ((xs.filter g).map f, env)
  | [], h => by rw [lcLoop_nil]; rfl
  | x :: xs, h => by
    obtain ⟨e1, h1, h2, h3, h4⟩ := h x List.mem_cons_self
    have ih := lc_gen f g hs xs fun y hy => h y (List.mem_cons_of_mem _ hy)
    rw [lcLoop_cons, h1]
    simp only [Option.bind_some, h3]
    have hs' : stillB e0 (wipeE e1 own) ps := by rw [h2]; exact hs
    by_cases b : g x = true
    · simp only [b, if_true, h4 b, Option.bind_some, if_pos hs']
      rw [h2, ih]
      simp [b]
    · have b : g x = false := by simpa using b
      simp only [b, Bool.false_eq_true, if_false, if_pos hs']
      rw [h2, ih]
      simp [b]
/-- .. without a condition -/
theorem lc_map {t : T} {elt : M} {own : List Nat} {ps : List Opd} {e0 env : En} (f : D → D) (hs : stillB e0 env ps) (xs : List D)
    (h : ∀ x ∈ xs, ∃ e1, asgT t x env = some e1 ∧ wipeE e1 own = env ∧ frzM elt.val e1 = some (f x, e1)) :
    lcLoop t [] elt own ps e0 xs env = some (xs.map f, env) := by
  have := lc_gen (cond := []) f (fun _ => true) hs xs fun x hx => by
    obtain ⟨e1, h1, h2, h3⟩ := h x hx
    exact ⟨e1, h1, h2, rfl, fun _ => h3⟩
  rw [List.filter_eq_self.mpr (fun _ _ => rfl)] at this
  exact this
/-- .. whose parts change the names -/
theorem lc_inv {t : T} {cond : List M} {elt : M} {own : List Nat} {ps : List Opd} {e0 : En} (J : List D → List D → En → Prop)
    (step : ∀ x xs ys env, J (x :: xs) ys env → ∃ e1 e2, asgT t x env = some e1 ∧
      ((condM cond e1 = some (true, e2) ∧ ∃ d e3, frzM elt.val e2 = some (d, e3) ∧ stillB e0 (wipeE e3 own) ps ∧ J xs (ys ++ [d]) (wipeE e3 own)) ∨
       (condM cond e1 = some (false, e2) ∧ stillB e0 (wipeE e2 own) ps ∧ J xs ys (wipeE e2 own)))) :
    ∀ xs ys env, J xs ys env → ∃ zs e, lcLoop t cond elt own ps e0 xs env = some (zs, e) ∧ J [] (ys ++ zs) e
  | [], ys, env, h => ⟨[], env, by rw [lcLoop_nil], by simpa using h⟩
  | x :: xs, ys, env, h => by
    obtain ⟨e1, e2, h1, h2⟩ := step x xs ys env h
    rcases h2 with ⟨h2, d, e3, h3, h4, h5⟩ | ⟨h2, h4, h5⟩
    · obtain ⟨zs, e, h6, h7⟩ := lc_inv J step xs (ys ++ [d]) _ h5
      refine ⟨d :: zs, e, ?_, by simpa using h7⟩
      rw [lcLoop_cons, h1]
      simp only [Option.bind_some, h2, if_true, h3, if_pos h4, h6, Option.map_some]
    · obtain ⟨zs, e, h6, h7⟩ := lc_inv J step xs ys _ h5
      refine ⟨zs, e, ?_, h7⟩
      rw [lcLoop_cons, h1]
      simp only [Option.bind_some, h2, Bool.false_eq_true, if_false, if_pos h4, h6]
theorem lcM_of {t : T} {k : IK} {its cond : List M} {elt : M} {own : List Nat} {env e1 e2 : En} {ps : List Opd} {ds xs rs : List D} (h1 : opsM its env = some (ps, e1)) (h2 : gets e1 ps = some ds) (h3 : itemsOf k ds = some xs)
    (h4 : stillB e1 (wipeE e1 own) ps) (h5 : lcLoop t cond elt own ps e1 xs (wipeE e1 own) = some (rs, e2)) : (lcM t k its cond elt own).val env = some (.l rs, restE e1 e2 own) := by
  rw [lcM_val, h1, Option.bind_some, h2, Option.bind_some, h3, Option.bind_some, if_pos h4, h5, Option.map_some]
theorem fr_of {P : Ph} {t : T} {k : IK} {its : List E} {b : List C} {env e1 : En} {ps : List Opd} {ds xs : List D} (h1 : opsM ((evs P its).map frO) env = some (ps, e1)) (h2 : gets e1 ps = some ds) (h3 : itemsOf k ds = some xs) : ex P (.fr t k its b) env = frL t (exs P b) xs e1 := by
  rw [ex_fr, h1, Option.bind_some, h2, Option.bind_some, h3, Option.bind_some]
theorem frz_of {f : En → Option (Sl × En)} {env e1 : En} {s : Sl} {d : D} (h : f env = some (s, e1)) (h2 : s.frz = some d) : frzM f env = some (d, e1) := by
  rw [frzM_eq, h, Option.bind_some, h2, Option.map_some]
/-! the law's look at two values alike -/
def bSame (j : Nat) : List C := [(.ife (.bop .Or [(.bop .And [(.isi (.var 0) .tuple), (.isi (.var 1) .tuple)]), (.bop .And [(.isi (.var 0) .list), (.isi (.var 1) .list)])]) [(.ret (.bop .And [(.cmp .Eq (.blt .len [(.var 0)]) (.blt .len [(.var 1)])), (.blt .all [(.lc (.nm 2) .rng [(.blt .len [(.var 0)])] [] (.call j [(.idx (.var 0) (.var 2)), (.idx (.var 1) (.var 2))]) [2])])]))] []),
    (.ife (.bop .Or [(.isi (.var 0) .bool), (.isi (.var 1) .bool)]) [(.ret (.bop .And [(.isi (.var 0) .bool), (.isi (.var 1) .bool), (.cmp .Eq (.var 0) (.var 1))]))] []),
    (.ife (.bop .Or [(.bop .And [(.isi (.var 0) .int), (.isi (.var 1) .int)]), (.bop .And [(.isi (.var 0) .str), (.isi (.var 1) .str)])]) [(.ret (.cmp .Eq (.var 0) (.var 1)))] []),
    (.ret (.bop .And [(.isn false (.var 0)), (.isn false (.var 1))]))]
def cap : Nat := 1000000
/-- data that the look takes, of no more depth than n -/
inductive OkS : Nat → D → Prop
  | none (n : Nat) : OkS n .none
  | bool (n : Nat) (b : Bool) : OkS n (.bool b)
  | int (n : Nat) (b : Int) : OkS n (.int b)
  | str (n : Nat) (s : Str) (h : SeqAt.shaped (.str s) = true) : OkS n (.str s)
  | tuple (n : Nat) (xs : List D) (h : xs.length ≤ cap) (h2 : ∀ x ∈ xs, OkS n x) : OkS (n + 1) (.tuple xs)
  | list (n : Nat) (xs : List D) (h : xs.length ≤ cap) (h2 : ∀ x ∈ xs, OkS n x) : OkS (n + 1) (.list xs)
structure SameAt (es : List Entry) (j : Nat) (i : FnI) : Prop where
  e : es[j]? = some (.user i)
  b : i.body = bSame j
  p : i.ps.length = 2
  n : i.N.length = 3
  x : i.b = false
theorem at_nth (xs : List D) (k : Nat) (d : D) (h : xs[k]? = some d) : atI xs (k : Int) = some d := by
  have hk : k < xs.length := by
    rcases Nat.lt_or_ge k xs.length with q | q
    · exact q
    · rw [List.getElem?_eq_none q] at h; cases h
  unfold atI ixN
  rw [if_pos (by omega), if_pos (by omega)]
  simpa using h
theorem items_r2 (n : Nat) (h : n ≤ cap) : itemsOf .rng [.int n] = some (rngL 0 n) := by
  have h0 : n ≤ 1000000 := h
  have h1 : rngOk n := by unfold rngOk; omega
  have h2 : (n : Int) ≤ (sizeLine : Nat) := by unfold sizeLine; omega
  simp [itemsOf, h1, h2]
theorem boolsL_all : ∀ (n : Nat) (bs : List D), (∀ b ∈ bs, b = .bool true) → boolsL bs = some (List.replicate bs.length true)
  | n, [], h => rfl
  | n, b :: bs, h => by
    rw [h b List.mem_cons_self]
    simp only [boolsL, boolsL_all n bs fun x hx => h x (List.mem_cons_of_mem _ hx), Option.map_some, List.length_cons, List.replicate_succ]
section
variable {es : List Entry} {j : Nat} {i : FnI} (S : SameAt es j i)
include S
theorem same_fin (m : Nat) (d : D) (h : exs (callN (tbOf es) m) (bSame j) [.v d, .v d, .no] = some (.rt (.v (.bool true)) [.v d, .v d, .no])) : retOf (callN (tbOf es) (m + 1)) j [.v d, .v d] = some (.v (.bool true)) := by
  have e : ([.v d, .v d] : List Sl) ++ List.replicate (3 - 2) .no = [.v d, .v d, .no] := rfl
  have h1 : ([.v d, .v d] : List Sl).length = i.ps.length := by rw [S.p]; rfl
  have h2 : hasBx ([.v d, .v d] : List Sl) = i.b := by rw [S.x]; rfl
  refine ret_user S.e h1 h2 (e := [.v d, .v d, .no]) ?_
  rw [S.b, S.n, S.p, e]
  exact h
theorem same_lc (m : Nat) (xs : List D) (d : D) (hd : d = .tuple xs ∨ d = .list xs) (hx : ∀ x ∈ xs, retOf (callN (tbOf es) m) j [.v x, .v x] = some (.v (.bool true))) :
    lcLoop (.nm 2) [] (ev (callN (tbOf es) m) (.call j [(.idx (.var 0) (.var 2)), (.idx (.var 1) (.var 2))])) [2] [.d (.int xs.length)] [.v d, .v d, .no] (rngL 0 xs.length) [.v d, .v d, .no] = some ((rngL 0 xs.length).map fun _ => .bool true, [.v d, .v d, .no]) := by
  apply lc_map (fun _ => .bool true) (by simp)
  intro x hx'
  unfold rngL at hx'
  simp only [List.mem_map, List.mem_range] at hx'
  obtain ⟨q, hq, rfl⟩ := hx'
  have hy := at_nth xs q xs[q] (List.getElem?_eq_getElem hq)
  have hz := hx xs[q] (List.getElem_mem hq)
  refine ⟨[.v d, .v d, .v (.int (0 + q))], ?_, ?_, ?_⟩
  · simp
  · simp
  · rcases hd with rfl | rfl <;> simp [hy, hz]
theorem same_seq (m : Nat) (xs : List D) (d : D) (hd : d = .tuple xs ∨ d = .list xs) (hl : xs.length ≤ cap) (hx : ∀ x ∈ xs, retOf (callN (tbOf es) m) j [.v x, .v x] = some (.v (.bool true))) :
    retOf (callN (tbOf es) (m + 1)) j [.v d, .v d] = some (.v (.bool true)) := by
  apply same_fin S
  have lc := same_lc S m xs d hd hx
  have bl : boolsL ((rngL 0 xs.length).map fun _ => (.bool true : D)) = some (List.replicate xs.length true) := by
    rw [boolsL_all 0 _ (fun b hb => by simp only [List.mem_map] at hb; obtain ⟨_, _, e⟩ := hb; exact e.symm)]
    simp [rngL]
  have it := items_r2 xs.length hl
  have c1 : (ev (callN (tbOf es) m) (.bop .Or [(.bop .And [(.isi (.var 0) .tuple), (.isi (.var 1) .tuple)]), (.bop .And [(.isi (.var 0) .list), (.isi (.var 1) .list)])])).tst [.v d, .v d, .no] = some (true, [.v d, .v d, .no]) := by
    rcases hd with rfl | rfl <;> simp
  have c2 : frzM (ev (callN (tbOf es) m) (.cmp .Eq (.blt .len [(.var 0)]) (.blt .len [(.var 1)]))).val [.v d, .v d, .no] = some (.bool true, [.v d, .v d, .no]) := by
    rcases hd with rfl | rfl <;> simp
  have c3 : (opsM [ev (callN (tbOf es) m) (.blt .len [(.var 0)])]) [.v d, .v d, .no] = some ([.d (.int xs.length)], [.v d, .v d, .no]) := by
    rcases hd with rfl | rfl <;> simp
  have c4 : (lcM (.nm 2) .rng (evs (callN (tbOf es) m) [(.blt .len [(.var 0)])]) (evs (callN (tbOf es) m) []) (ev (callN (tbOf es) m) (.call j [(.idx (.var 0) (.var 2)), (.idx (.var 1) (.var 2))])) [2]).val [.v d, .v d, .no] = some (.l ((rngL 0 xs.length).map fun _ => .bool true), [.v d, .v d, .no]) := by
    have := lcM_of (ds := [.int xs.length]) (k := .rng) c3 rfl it (by simp) lc
    rw [evs_cons, evs_nil, this, restE_no _ _ _ _ rfl, restE_nil]
  have c5 : (ev (callN (tbOf es) m) (.blt .all [(.lc (.nm 2) .rng [(.blt .len [(.var 0)])] [] (.call j [(.idx (.var 0) (.var 2)), (.idx (.var 1) (.var 2))]) [2])])).val [.v d, .v d, .no] = some (.v (.bool true), [.v d, .v d, .no]) := by
    rw [ev_blt, evs_cons, evs_nil, ev_lc, bltM_eq, ofVal_val, opsM_cons, lcM_opd, frz_of c4 rfl]
    simp only [opsM_nil, Option.map_some, Option.bind_some, gets_cons, gets_nil, get_d, all_l, bl, List.all_replicate]
    simp
  have c6 : (ev (callN (tbOf es) m) (.bop .And [(.cmp .Eq (.blt .len [(.var 0)]) (.blt .len [(.var 1)])), (.blt .all [(.lc (.nm 2) .rng [(.blt .len [(.var 0)])] [] (.call j [(.idx (.var 0) (.var 2)), (.idx (.var 1) (.var 2))]) [2])])])).val [.v d, .v d, .no] = some (.v (.bool true), [.v d, .v d, .no]) := by
    rw [ev_bop, bopM_val, evs_cons, evs_cons, evs_nil, bopV_2, c2]
    simp only [Option.bind_some, truth_bool, isAnd_1, beq_self_eq_true, if_true, bopV_1]
    rw [frz_of c5 rfl]
    rfl
  rw [bSame, exs_cons, ex_ife, c1]
  simp only [Option.bind_some, if_true, exs_cons, ex_ret, c6, Option.map_some, thenO_rt]
theorem same_none (m : Nat) : retOf (callN (tbOf es) (m + 1)) j [.v .none, .v .none] = some (.v (.bool true)) := same_fin S _ _ (by simp [bSame])
theorem same_bl (m : Nat) (b : Bool) : retOf (callN (tbOf es) (m + 1)) j [.v (.bool b), .v (.bool b)] = some (.v (.bool true)) := same_fin S _ _ (by simp [bSame])
theorem same_in (m : Nat) (b : Int) : retOf (callN (tbOf es) (m + 1)) j [.v (.int b), .v (.int b)] = some (.v (.bool true)) := same_fin S _ _ (by simp [bSame])
theorem same_st (m : Nat) (b : Str) (hs : SeqAt.shaped (.str b) = true) : retOf (callN (tbOf es) (m + 1)) j [.v (.str b), .v (.str b)] = some (.v (.bool true)) := same_fin S _ _ (by simp [bSame, cmp_eqs, hs])
theorem same_self : ∀ (n k : Nat) (d : D), OkS n d → retOf (callN (tbOf es) (n + k + 1)) j [.v d, .v d] = some (.v (.bool true)) := by
  intro n
  induction n with
  | zero =>
    intro k d h
    cases h with
    | none => exact same_none S _
    | bool _ b => exact same_bl S _ _
    | int _ b => exact same_in S _ _
    | str _ b hs => exact same_st S _ _ hs
  | succ n ih =>
    intro k d h
    have e : n + 1 + k + 1 = (n + k + 1) + 1 := by omega
    rw [e]
    cases h with
    | none => exact same_none S _
    | bool _ b => exact same_bl S _ _
    | int _ b => exact same_in S _ _
    | str _ b hs => exact same_st S _ _ hs
    | tuple _ xs hl hx => exact same_seq S _ _ _ (.inl rfl) hl fun x hy => ih k x (hx x hy)
    | list _ xs hl hx => exact same_seq S _ _ _ (.inr rfl) hl fun x hy => ih k x (hx x hy)
end
end
end Mini

namespace Mini
open PySem PySem.Spec L2
/-! what an environment forgets: a slot may be told as empty -/
def sle (a b : Sl) : Prop := a = b ∨ (a = .no ∧ b.isBx = false)
inductive LE : En → En → Prop
  | nil : LE [] []
  | cons {a b : Sl} {as bs : En} : sle a b → LE as bs → LE (a :: as) (b :: bs)
theorem sle.refl (a : Sl) : sle a a := .inl rfl
theorem sle.trans {a b c : Sl} (h : sle a b) (g : sle b c) : sle a c := by
  rcases h with rfl | ⟨rfl, h⟩
  · exact g
  · rcases g with rfl | ⟨rfl, g⟩
    · exact .inr ⟨rfl, h⟩
    · exact .inr ⟨rfl, g⟩
theorem LE.refl : ∀ e : En, LE e e
  | [] => .nil
  | a :: as => .cons (.refl a) (LE.refl as)
theorem LE.trans : ∀ {e f g : En}, LE e f → LE f g → LE e g
  | _, _, _, .nil, .nil => .nil
  | _, _, _, .cons h1 h2, .cons g1 g2 => .cons (h1.trans g1) (h2.trans g2)
theorem LE.get : ∀ {e f : En} {i : Nat} {s : Sl}, LE e f → e[i]? = some s → ∃ t, f[i]? = some t ∧ sle s t
  | _, _, _, _, .nil, h => by simp at h
  | _, _, 0, s, .cons (b := b) h1 h2, h => by
    simp at h; subst h; exact ⟨b, by simp, h1⟩
  | _, _, i + 1, s, .cons h1 h2, h => by
    simp at h; simpa using LE.get h2 h
theorem LE.same {e f : En} {i : Nat} {s : Sl} (l : LE e f) (h : e[i]? = some s) (n : s ≠ .no) : f[i]? = some s := by
  obtain ⟨t, h1, h2⟩ := l.get h
  rcases h2 with rfl | ⟨z, _⟩
  · exact h1
  · exact absurd z n
theorem LE.set : ∀ {e f : En} {i : Nat} {s t : Sl}, LE e f → sle s t → LE (e.set i s) (f.set i t)
  | _, _, _, _, _, .nil, h => .nil
  | _, _, 0, s, t, .cons h1 h2, h => .cons h h2
  | _, _, i + 1, s, t, .cons h1 h2, h => .cons h1 (LE.set h2 h)
theorem LE.setR : ∀ {e f : En} {i : Nat} {t : Sl}, LE e f → (e[i]? = none ∨ e[i]? = some .no) → t.isBx = false → LE e (f.set i t)
  | _, _, _, _, .nil, h, b => .nil
  | _, _, 0, t, .cons (a := a) h1 h2, h, b => by
    simp at h
    exact .cons (.inr ⟨h, b⟩) h2
  | _, _, i + 1, t, .cons h1 h2, h, b => .cons h1 (LE.setR h2 (by simpa using h) b)
theorem LE.none : ∀ {e f : En} {i : Nat}, LE e f → e[i]? = none → f[i]? = none
  | _, _, _, .nil, h => by simp
  | _, _, 0, .cons h1 h2, h => by simp at h
  | _, _, i + 1, .cons h1 h2, h => by
    simp at h ⊢; 
    have := LE.none h2 (i := i) (by simpa using h)
    simpa using this
/-- at forgotten slots too -/
def Mon {α : Type} (f : En → Option (α × En)) : Prop := ∀ (e g : En) (r : α) (e1 : En), LE e g → f e = some (r, e1) → ∃ g1, f g = some (r, g1) ∧ LE e1 g1
section
variable {α β : Type}
theorem Mon.pure (r : α) : Mon fun e => some (r, e) := fun e g r' e1 l h => by
  cases h; exact ⟨g, rfl, l⟩
theorem Mon.none : Mon (fun _ => (none : Option (α × En))) := fun _ _ _ _ l h => by cases h
theorem Mon.opt (o : Option α) : Mon fun e => o.map fun r => (r, e) := fun e g r' e1 l h => by
  cases o with
  | none => cases h
  | some r => cases h; exact ⟨g, rfl, l⟩
theorem Mon.bind {f : En → Option (β × En)} {k : β → En → Option (α × En)} (hf : Mon f) (hk : ∀ b, Mon (k b)) : Mon fun e => (f e).bind fun p => k p.1 p.2 := fun e g r e1 l h => by
  obtain ⟨⟨b, e2⟩, h1, h2⟩ := Option.bind_eq_some_iff.mp h
  obtain ⟨g2, h3, h4⟩ := hf _ _ _ _ l h1
  obtain ⟨g1, h5, h6⟩ := hk b _ _ _ _ h4 h2
  exact ⟨g1, by simp only [h3, Option.bind_some, h5], h6⟩
theorem Mon.map {f : En → Option (β × En)} {k : β → α} (hf : Mon f) : Mon fun e => (f e).map fun p => (k p.1, p.2) := fun e g r e1 l h => by
  obtain ⟨⟨b, e2⟩, h1, h2⟩ := Option.map_eq_some_iff.mp h
  obtain ⟨g2, h3, h4⟩ := hf _ _ _ _ l h1
  cases h2
  exact ⟨g2, by simp only [h3, Option.map_some], h4⟩
theorem Mon.obind {o : Option β} {k : β → En → Option (α × En)} (hk : ∀ b, Mon (k b)) : Mon fun e => o.bind fun b => k b e := fun e g r e1 l h => by
  obtain ⟨b, h1, h2⟩ := Option.bind_eq_some_iff.mp h
  obtain ⟨g1, h5, h6⟩ := hk b _ _ _ _ l h2
  exact ⟨g1, by simp only [h1, Option.bind_some, h5], h6⟩
theorem get_mono {e g : En} {p : Opd} {x : D} (l : LE e g) (h : p.get e = some x) : p.get g = some x := by
  cases p with
  | d y => exact h
  | s i =>
    simp only [Opd.get, Option.bind_eq_some_iff] at h ⊢
    obtain ⟨s, h1, h2⟩ := h
    exact ⟨s, l.same h1 (by intro z; subst z; cases h2), h2⟩
theorem Mon.get {p : Opd} {k : D → En → Option (α × En)} (hk : ∀ x, Mon (k x)) : Mon fun e => (p.get e).bind fun x => k x e := fun e g r e1 l h => by
  obtain ⟨x, h1, h2⟩ := Option.bind_eq_some_iff.mp h
  obtain ⟨g1, h5, h6⟩ := hk x _ _ _ _ l h2
  exact ⟨g1, by simp only [get_mono l h1, Option.bind_some, h5], h6⟩
theorem gets_mono {e g : En} (l : LE e g) : ∀ {ps : List Opd} {ds : List D}, gets e ps = some ds → gets g ps = some ds
  | [], ds, h => h
  | p :: ps, ds, h => by
    simp only [gets, Option.bind_eq_some_iff, Option.map_eq_some_iff] at h ⊢
    obtain ⟨d, h1, r, h2, h3⟩ := h
    exact ⟨d, get_mono l h1, r, gets_mono l h2, h3⟩
theorem Mon.gets {ps : List Opd} {k : List D → En → Option (α × En)} (hk : ∀ x, Mon (k x)) : Mon fun e => (gets e ps).bind fun x => k x e := fun e g r e1 l h => by
  obtain ⟨x, h1, h2⟩ := Option.bind_eq_some_iff.mp h
  obtain ⟨g1, h5, h6⟩ := hk x _ _ _ _ l h2
  exact ⟨g1, by simp only [gets_mono l h1, Option.bind_some, h5], h6⟩
theorem Mon.ite {c : Prop} [Decidable c] {f k : En → Option (α × En)} (hf : Mon f) (hk : Mon k) : Mon fun e => if c then f e else k e := fun e g r e1 l h => by
  by_cases hc : c
  · simp only [if_pos hc] at h ⊢; exact hf _ _ _ _ l h
  · simp only [if_neg hc] at h ⊢; exact hk _ _ _ _ l h
end
structure MonM (m : M) : Prop where
  val : Mon m.val
  opd : Mon m.opd
  tst : Mon m.tst
theorem Mon.frz {f : En → Option (Sl × En)} (h : Mon f) : Mon (frzM f) :=
  Mon.bind (k := fun (s : Sl) (e1 : En) => s.frz.map fun d => (d, e1)) h fun s => Mon.opt s.frz
theorem Mon.tr {f : En → Option (Opd × En)} (h : Mon f) : Mon (trM f) :=
  Mon.bind (k := fun (p : Opd) (e1 : En) => (p.get e1).bind fun d => (truth d).map fun b => (b, e1)) h fun p => Mon.get fun d => Mon.opt (truth d)
theorem MonM.ofVal {f : En → Option (Sl × En)} (h : Mon f) : MonM (.ofVal f) :=
  ⟨h, Mon.map (k := fun d => Opd.d d) h.frz, Mon.tr (Mon.map (k := fun d => Opd.d d) h.frz)⟩
theorem MonM.cmp {f : En → Option (Sl × En)} (h : Mon f) : MonM (.cmp f) :=
  ⟨h, Mon.map (k := fun d => Opd.d d) h.frz, Mon.bind (k := fun (s : Sl) (e1 : En) => (bOf s).map fun b => (b, e1)) h fun s => Mon.opt (bOf s)⟩
theorem MonM.var (i : Nat) : MonM (varM i) := by
  have o : Mon (varM i).opd := fun e g r e1 l h => by
    simp only [varM] at h ⊢
    split at h
    · rename_i d hd
      cases h
      rw [l.same hd (by intro z; cases z)]
      exact ⟨g, rfl, l⟩
    · rename_i d hd
      cases h
      rw [l.same hd (by intro z; cases z)]
      exact ⟨g, rfl, l⟩
    · cases h
  refine ⟨fun e g r e1 l h => ?_, o, Mon.tr o⟩
  simp only [varM] at h ⊢
  split at h
  · rename_i d hd
    cases h
    rw [l.same hd (by intro z; cases z)]
    exact ⟨g, rfl, l⟩
  · rename_i d hd
    cases h
    rw [l.same hd (by intro z; cases z)]
    exact ⟨_, rfl, l.set (.refl _)⟩
  · cases h
theorem MonM.op1 {f : D → Option Sl} {a : M} (ha : MonM a) : MonM (op1 f a) :=
  .ofVal (Mon.bind (k := fun (p : Opd) (e1 : En) => (p.get e1).bind fun x => (f x).map fun r => (r, e1)) ha.opd fun p => Mon.get fun x => Mon.opt (f x))
theorem Mon.op2 {f : D → D → Option Sl} {a b : M} (ha : MonM a) (hb : MonM b) : Mon (op2 f a b).val :=
  Mon.bind (k := fun (p : Opd) (e1 : En) => (b.opd e1).bind fun t => (p.get t.2).bind fun x => (t.1.get t.2).bind fun y => (f x y).map fun r => (r, t.2)) ha.opd fun p =>
    Mon.bind (k := fun (q : Opd) (e2 : En) => (p.get e2).bind fun x => (q.get e2).bind fun y => (f x y).map fun r => (r, e2)) hb.opd fun q => Mon.get fun x => Mon.get fun y => Mon.opt (f x y)
theorem MonM.op2 {f : D → D → Option Sl} {a b : M} (ha : MonM a) (hb : MonM b) : MonM (op2 f a b) := .ofVal (Mon.op2 ha hb)
theorem MonM.chn {o1 o2 : CmpOp} {a b c : M} (ha : MonM a) (hb : MonM b) (hc : MonM c) : MonM (chnM o1 o2 a b c) :=
  .cmp (Mon.bind (k := fun (p : Opd) (e1 : En) => (b.opd e1).bind fun t => (p.get t.2).bind fun x => (t.1.get t.2).bind fun y =>
      (cmpD o1 x y).bind fun r => (bOf r).bind fun k => if k then (c.opd t.2).bind fun u => (t.1.get u.2).bind fun y2 => (u.1.get u.2).bind fun z => (cmpD o2 y2 z).map fun r2 => (r2, u.2) else some (.v (.bool false), t.2)) ha.opd fun p =>
    Mon.bind (k := fun (q : Opd) (e2 : En) => (p.get e2).bind fun x => (q.get e2).bind fun y =>
      (cmpD o1 x y).bind fun r => (bOf r).bind fun k => if k then (c.opd e2).bind fun u => (q.get u.2).bind fun y2 => (u.1.get u.2).bind fun z => (cmpD o2 y2 z).map fun r2 => (r2, u.2) else some (.v (.bool false), e2)) hb.opd fun q =>
      Mon.get fun x => Mon.get fun y => Mon.obind fun r => Mon.obind fun k => Mon.ite
        (Mon.bind (k := fun (t : Opd) (e3 : En) => (q.get e3).bind fun y2 => (t.get e3).bind fun z => (cmpD o2 y2 z).map fun r2 => (r2, e3)) hc.opd fun t => Mon.get fun y2 => Mon.get fun z => Mon.opt (cmpD o2 y2 z)) (Mon.pure _))
theorem MonM.not {a : M} (ha : MonM a) : MonM (notM a) :=
  have h := MonM.ofVal (Mon.map (k := fun b => Sl.v (.bool !b)) ha.opd.tr)
  ⟨h.val, h.opd, Mon.map (k := fun b => !b) ha.tst⟩
theorem Mon.bopV {o : BoolOp} : ∀ {es : List M}, (∀ m ∈ es, MonM m) → Mon (bopV o es)
  | [], h => Mon.none
  | [a], h => (h a List.mem_cons_self).val.frz
  | a :: b :: r, h => Mon.bind (k := fun (d : D) (e1 : En) => (truth d).bind fun k => if k == isAnd o then Mini.bopV o (b :: r) e1 else some (d, e1)) (h a List.mem_cons_self).val.frz fun d => Mon.obind fun k => Mon.ite (Mon.bopV fun m hm => h m (List.mem_cons_of_mem _ hm)) (Mon.pure d)
theorem Mon.bopT {o : BoolOp} : ∀ {es : List M}, (∀ m ∈ es, MonM m) → Mon (bopT o es)
  | [], h => Mon.none
  | [a], h => (h a List.mem_cons_self).tst
  | a :: b :: r, h => Mon.bind (k := fun (k : Bool) (e1 : En) => if k == isAnd o then Mini.bopT o (b :: r) e1 else some (k, e1)) (h a List.mem_cons_self).tst fun k => Mon.ite (Mon.bopT fun m hm => h m (List.mem_cons_of_mem _ hm)) (Mon.pure k)
theorem MonM.bop {o : BoolOp} {es : List M} (h : ∀ m ∈ es, MonM m) : MonM (bopM o es) :=
  have q := MonM.ofVal (Mon.map (k := fun d => Sl.v d) (Mon.bopV (o := o) h))
  ⟨q.val, q.opd, Mon.bopT h⟩
theorem MonM.ite {c a b : M} (hc : MonM c) (ha : MonM a) (hb : MonM b) : MonM (iteM c a b) :=
  have q := MonM.ofVal (Mon.bind (k := fun (k : Bool) (e1 : En) => if k then a.val e1 else b.val e1) hc.tst fun k => Mon.ite ha.val hb.val)
  ⟨q.val, q.opd, Mon.bind (k := fun (k : Bool) (e1 : En) => if k then a.tst e1 else b.tst e1) hc.tst fun k => Mon.ite ha.tst hb.tst⟩
theorem Mon.args : ∀ {es : List M}, (∀ m ∈ es, MonM m) → Mon (argsM es)
  | [], h => Mon.pure _
  | a :: r, h => Mon.bind (k := fun (d : D) (e1 : En) => (argsM r e1).map fun (u : List D × En) => (d :: u.1, u.2)) (h a List.mem_cons_self).val.frz fun d => Mon.map (k := fun (ds : List D) => d :: ds) (Mon.args fun m hm => h m (List.mem_cons_of_mem _ hm))
theorem Mon.ops : ∀ {es : List M}, (∀ m ∈ es, MonM m) → Mon (opsM es)
  | [], h => Mon.pure _
  | a :: r, h => Mon.bind (k := fun (d : Opd) (e1 : En) => (opsM r e1).map fun (u : List Opd × En) => (d :: u.1, u.2)) (h a List.mem_cons_self).opd fun d => Mon.map (k := fun (ds : List Opd) => d :: ds) (Mon.ops fun m hm => h m (List.mem_cons_of_mem _ hm))
theorem MonM.tup {es : List M} (h : ∀ m ∈ es, MonM m) : MonM (tupM es) :=
  .ofVal (Mon.bind (k := fun (ds : List D) (e1 : En) => if ds.length ≤ sizeLine then some (Sl.v (.tuple ds), e1) else none) (Mon.args h) fun ds => Mon.ite (Mon.pure _) Mon.none)
theorem MonM.lst {es : List M} (h : ∀ m ∈ es, MonM m) : MonM (lstM es) :=
  .ofVal (Mon.bind (k := fun (ds : List D) (e1 : En) => if ds.length ≤ sizeLine then some (Sl.l ds, e1) else none) (Mon.args h) fun ds => Mon.ite (Mon.pure _) Mon.none)
theorem MonM.blt {b : Bl} {es : List M} (h : ∀ m ∈ es, MonM m) : MonM (bltM b es) :=
  .ofVal (Mon.bind (k := fun (ps : List Opd) (e1 : En) => (gets e1 ps).bind fun ds => (bltD b ds).map fun r => (r, e1)) (Mon.ops h) fun ps => Mon.gets fun ds => Mon.opt _)
theorem Mon.part : ∀ {es : List M}, (∀ m ∈ es, MonM m) → Mon (partM es)
  | [], h => Mon.pure _
  | [a], h => Mon.bind (k := fun (p : Opd) (e1 : En) => (p.get e1).bind fun d => match d with
    | .int i => some (some i, e1)
    | _ => Option.none) (h a List.mem_cons_self).opd fun p => Mon.get fun d => by
      cases d <;> first | exact Mon.pure _ | exact Mon.none
  | _ :: _ :: _, h => Mon.none
theorem MonM.slc {a : M} {lo hi : List M} (ha : MonM a) (hl : ∀ m ∈ lo, MonM m) (hh : ∀ m ∈ hi, MonM m) : MonM (slcM a lo hi) :=
  .ofVal (Mon.bind (k := fun (p : Opd) (e1 : En) => (partM lo e1).bind fun u => (partM hi u.2).bind fun v => (p.get v.2).bind fun x => (slcD x u.1 v.1).map fun r => (r, v.2)) ha.opd fun p =>
    Mon.bind (k := fun (l : Option Int) (e2 : En) => (partM hi e2).bind fun v => (p.get v.2).bind fun x => (slcD x l v.1).map fun r => (r, v.2)) (Mon.part hl) fun l =>
    Mon.bind (k := fun (q : Option Int) (e3 : En) => (p.get e3).bind fun x => (slcD x l q).map fun r => (r, e3)) (Mon.part hh) fun q => Mon.get fun x => Mon.opt _)
section
variable {P : Ph}
theorem MonM.call {f : Nat} {es : List M} (h : ∀ m ∈ es, MonM m) : MonM (callM P f es) :=
  .ofVal (Mon.bind (k := fun (ds : List D) (e1 : En) => (retOf P f (ds.map .v)).map fun r => (r, e1)) (Mon.args h) fun ds => Mon.opt _)
theorem MonM.callS {f i : Nat} : MonM (callSM P f i) := .ofVal fun e g r e1 l h => by
  revert h
  cases hi : e[i]? with
  | none => intro h; cases h
  | some s =>
    cases s with
    | sc ns =>
      intro h
      obtain ⟨r', h1, h2⟩ := Option.map_eq_some_iff.mp h
      cases h2
      rw [l.same hi (by intro z; cases z)]
      exact ⟨g, by simp only [h1, Option.map_some], l⟩
    | _ => intro h; cases h
theorem MonM.callB {f i : Nat} {es : List M} (hs : ∀ m ∈ es, MonM m) : MonM (callBM P f i es) := .ofVal fun e g r e1 l h => by
  by_cases hb : isB e[i]? = true
  · rw [if_pos hb] at h
    have hb2 : isB g[i]? = true := by
      revert hb
      cases hi : e[i]? with
      | none => intro z; cases z
      | some s => intro z; rw [l.same hi (by intro q; subst q; cases z)]; exact z
    rw [if_pos hb2]
    obtain ⟨⟨ds, e2⟩, h1, h2⟩ := Option.bind_eq_some_iff.mp h
    obtain ⟨g2, h3, l2⟩ := Mon.args hs _ _ _ _ l h1
    simp only [h3, Option.bind_some]
    simp only at h2
    cases hi : e2[i]? with
    | none => rw [hi] at h2; cases h2
    | some s =>
      rw [hi] at h2
      cases s with
      | bx cs rs =>
        rw [l2.same hi (by intro z; cases z)]
        simp only at h2 ⊢
        obtain ⟨⟨r', b⟩, h4, h5⟩ := Option.bind_eq_some_iff.mp h2
        simp only [h4, Option.bind_some]
        simp only at h5
        cases b with
        | bx cs2 rs2 =>
          simp only at h5 ⊢
          cases h5
          exact ⟨_, rfl, l2.set (.refl _)⟩
        | _ => cases h5
      | _ => cases h2
  · rw [if_neg hb] at h; cases h
theorem setS_mono {e g e1 : En} {i : Nat} {s : Sl} (l : LE e g) (h : setS i s e = some e1) : ∃ g1, setS i s g = some g1 ∧ LE e1 g1 := by
  unfold setS at h
  split at h
  · cases h
  · cases h
  · rename_i t n hi
    cases h
    obtain ⟨t', h1, h2⟩ := l.get hi
    refine ⟨g.set i s, setS_ok ⟨t', h1, ?_⟩, l.set (.refl _)⟩
    rcases h2 with rfl | ⟨_, z⟩
    · cases t <;> first | rfl | exact absurd rfl (n _ _)
    · exact z
mutual
theorem asgT_mono : ∀ {t : T} {d : D} {e g e1 : En}, LE e g → asgT t d e = some e1 → ∃ g1, asgT t d g = some g1 ∧ LE e1 g1
  | .nm i, d, e, g, e1, l, h => by
    simp only [asgT] at h ⊢
    exact setS_mono l h
  | .tp ts, d, e, g, e1, l, h => by
    cases d with
    | tuple ds =>
      simp only [asgT] at h ⊢
      exact asgTs_mono l h
    | _ => simp [asgT] at h
theorem asgTs_mono : ∀ {ts : List T} {ds : List D} {e g e1 : En}, LE e g → asgTs ts ds e = some e1 → ∃ g1, asgTs ts ds g = some g1 ∧ LE e1 g1
  | [], [], e, g, e1, l, h => by
    simp only [asgTs] at h ⊢
    cases h; exact ⟨g, rfl, l⟩
  | t :: ts, d :: ds, e, g, e1, l, h => by
    simp only [asgTs] at h ⊢
    obtain ⟨e2, h1, h2⟩ := Option.bind_eq_some_iff.mp h
    obtain ⟨g2, h3, l2⟩ := asgT_mono l h1
    obtain ⟨g1, h4, l3⟩ := asgTs_mono l2 h2
    exact ⟨g1, by simp only [h3, Option.bind_some, h4], l3⟩
  | [], _ :: _, e, g, e1, l, h => by simp [asgTs] at h
  | _ :: _, [], e, g, e1, l, h => by simp [asgTs] at h
end
theorem wipe_mono {e g : En} (l : LE e g) : ∀ own, LE (wipeE e own) (wipeE g own)
  | [] => l
  | v :: vs => (wipe_mono l vs).set (.refl _)
theorem wipe_no {e : En} : ∀ {own : List Nat} {i : Nat}, i ∈ own → (wipeE e own)[i]? = none ∨ (wipeE e own)[i]? = some .no
  | v :: vs, i, h => by
    simp only [wipeE]
    by_cases hv : v = i
    · subst hv
      by_cases hl : v < (wipeE e vs).length
      · exact .inr (List.getElem?_set_self hl)
      · exact .inl (List.getElem?_eq_none (by simpa using hl))
    · rw [List.getElem?_set_ne hv]
      exact wipe_no ((List.mem_cons.mp h).resolve_left fun z => hv z.symm)
theorem Mon.cond : ∀ {es : List M}, (∀ m ∈ es, MonM m) → Mon (condM es)
  | [], h => Mon.pure _
  | [a], h => (h a List.mem_cons_self).tst
  | _ :: _ :: _, h => Mon.none
def Rdb (e : En) : List Opd → Prop
  | [] => True
  | .d _ :: r => Rdb e r
  | .s i :: r => (∃ s, e[i]? = some s ∧ s ≠ .no) ∧ Rdb e r
theorem rdb_of {e : En} : ∀ {ps : List Opd} {ds : List D}, gets e ps = some ds → Rdb e ps
  | [], _, _ => trivial
  | p :: ps, ds, h => by
    simp only [gets, Option.bind_eq_some_iff, Option.map_eq_some_iff] at h
    obtain ⟨d, h1, r, h2, h3⟩ := h
    cases p with
    | d x => exact rdb_of (ps := ps) h2
    | s i =>
      refine ⟨?_, rdb_of (ps := ps) h2⟩
      simp only [Opd.get, Option.bind_eq_some_iff] at h1
      obtain ⟨s, h4, h5⟩ := h1
      exact ⟨s, h4, by intro z; subst z; cases h5⟩
theorem still_mono {e0 g0 e1 g1 : En} (l0 : LE e0 g0) (l1 : LE e1 g1) : ∀ {ps : List Opd}, Rdb e0 ps → stillB e0 e1 ps → stillB g0 g1 ps
  | [], _, _ => trivial
  | .d _ :: r, h, s => still_mono (ps := r) l0 l1 h s
  | .s i :: r, h, s => by
    obtain ⟨⟨t, h1, h2⟩, h3⟩ := h
    refine ⟨?_, still_mono (ps := r) l0 l1 h3 s.2⟩
    have := s.1
    rw [h1] at this
    rw [l0.same h1 h2, l1.same this h2]
theorem lcLoop_mono {t : T} {cond : List M} {elt : M} {own : List Nat} {ps : List Opd} {e0 g0 : En} (hc : ∀ m ∈ cond, MonM m) (he : MonM elt) (l0 : LE e0 g0) (hp : Rdb e0 ps) : ∀ {xs : List D} {e g e1 : En} {r : List D}, LE e g → (∀ i ∈ own, e[i]? = none ∨ e[i]? = some .no) → lcLoop t cond elt own ps e0 xs e = some (r, e1) → (∃ g1, lcLoop t cond elt own ps g0 xs g = some (r, g1) ∧ LE e1 g1) ∧ ∀ i ∈ own, e1[i]? = none ∨ e1[i]? = some .no
  | [], e, g, e1, r, l, ho, h => by
    rw [lcLoop_nil] at h
    cases h
    exact ⟨⟨g, lcLoop_nil _ _ _ _ _ _ _, l⟩, ho⟩
  | x :: xs, e, g, e1, r, l, ho, h => by
    rw [lcLoop_cons] at h ⊢
    obtain ⟨e2, h1, h⟩ := Option.bind_eq_some_iff.mp h
    obtain ⟨g2, k1, l2⟩ := asgT_mono l h1
    obtain ⟨⟨b, e3⟩, h3, h⟩ := Option.bind_eq_some_iff.mp h
    obtain ⟨g3, k3, l3⟩ := Mon.cond hc _ _ _ _ l2 h3
    simp only [k1, Option.bind_some, k3]
    cases b with
    | false =>
      simp only [Bool.false_eq_true, if_false] at h ⊢
      by_cases hs : stillB e0 (wipeE e3 own) ps
      · rw [if_pos hs] at h
        rw [if_pos (still_mono l0 (wipe_mono l3 own) hp hs)]
        exact lcLoop_mono hc he l0 hp (wipe_mono l3 own) (fun i hi => wipe_no hi) h
      · rw [if_neg hs] at h; cases h
    | true =>
      simp only [if_true] at h ⊢
      obtain ⟨⟨d, e4⟩, h4, h⟩ := Option.bind_eq_some_iff.mp h
      obtain ⟨g4, k4, l4⟩ := he.val.frz _ _ _ _ l3 h4
      simp only [k4, Option.bind_some]
      by_cases hs : stillB e0 (wipeE e4 own) ps
      · rw [if_pos hs] at h
        rw [if_pos (still_mono l0 (wipe_mono l4 own) hp hs)]
        obtain ⟨⟨r', e5⟩, h5, h6⟩ := Option.map_eq_some_iff.mp h
        cases h6
        obtain ⟨⟨g5, k5, l5⟩, o5⟩ := lcLoop_mono hc he l0 hp (wipe_mono l4 own) (fun i hi => wipe_no hi) h5
        exact ⟨⟨g5, by simp only [k5, Option.map_some], l5⟩, o5⟩
      · rw [if_neg hs] at h; cases h
theorem rest_keep {e1 e2 : En} {i : Nat} (h : ∀ d, e1[i]? ≠ some (.v d)) : ∀ own, (restE e1 e2 own)[i]? = e2[i]?
  | [] => rfl
  | j :: r => by
    unfold restE
    split
    · rename_i d hd
      by_cases hj : j = i
      · subst hj; exact absurd hd (h d)
      · rw [List.getElem?_set_ne hj]; exact rest_keep h r
    · exact rest_keep h r
theorem rest_mono {e1 g1 e2 g2 : En} (l1 : LE e1 g1) (l2 : LE e2 g2) : ∀ {own : List Nat}, (∀ i ∈ own, e2[i]? = none ∨ e2[i]? = some .no) → LE (restE e1 e2 own) (restE g1 g2 own)
  | [], _ => l2
  | i :: r, ho => by
    have ih := rest_mono l1 l2 (own := r) fun j hj => ho j (List.mem_cons_of_mem _ hj)
    cases hi : e1[i]? with
    | none =>
      rw [restE, restE, hi, l1.none hi]
      exact ih
    | some s =>
      cases s with
      | v d =>
        rw [restE, restE, hi, l1.same hi (by intro z; cases z)]
        exact ih.set (.refl _)
      | no =>
        have k : (restE e1 e2 r)[i]? = none ∨ (restE e1 e2 r)[i]? = some .no := by
          rw [rest_keep (by intro d z; rw [hi] at z; cases z)]
          exact ho i List.mem_cons_self
        rw [restE, restE, hi]
        simp only
        split
        · exact ih.setR k rfl
        · exact ih
      | l xs =>
        rw [restE, restE, hi, l1.same hi (by intro z; cases z)]
        exact ih
      | bx cs rs =>
        rw [restE, restE, hi, l1.same hi (by intro z; cases z)]
        exact ih
      | sc ns =>
        rw [restE, restE, hi, l1.same hi (by intro z; cases z)]
        exact ih
      | dk ns =>
        rw [restE, restE, hi, l1.same hi (by intro z; cases z)]
        exact ih
      | dt ns =>
        rw [restE, restE, hi, l1.same hi (by intro z; cases z)]
        exact ih
theorem MonM.lc {t : T} {k : IK} {its cond : List M} {elt : M} {own : List Nat} (hi : ∀ m ∈ its, MonM m) (hc : ∀ m ∈ cond, MonM m) (he : MonM elt) : MonM (lcM t k its cond elt own) := by
  unfold lcM
  refine .ofVal fun e g r e1 l h => ?_
  obtain ⟨⟨ps, e2⟩, h1, h⟩ := Option.bind_eq_some_iff.mp h
  obtain ⟨g2, k1, l2⟩ := Mon.ops hi _ _ _ _ l h1
  obtain ⟨ds, h2, h⟩ := Option.bind_eq_some_iff.mp h
  obtain ⟨xs, h3, h⟩ := Option.bind_eq_some_iff.mp h
  simp only [k1, Option.bind_some, gets_mono l2 h2, h3]
  by_cases hs : stillB e2 (wipeE e2 own) ps
  · rw [if_pos hs] at h
    rw [if_pos (still_mono l2 (wipe_mono l2 own) (rdb_of h2) hs)]
    obtain ⟨⟨r', e5⟩, h5, h6⟩ := Option.map_eq_some_iff.mp h
    cases h6
    obtain ⟨⟨g5, k5, l5⟩, o5⟩ := lcLoop_mono hc he l2 (rdb_of h2) (wipe_mono l2 own) (fun i hi => wipe_no hi) h5
    exact ⟨_, by simp only [k5, Option.map_some], rest_mono l2 l5 o5⟩
  · rw [if_neg hs] at h; cases h
theorem MonM.pop {i : Nat} : MonM (popM i) := .ofVal fun e g r e1 l h => by
  revert h
  cases hi : e[i]? with
  | none => intro h; cases h
  | some s =>
    cases s with
    | l xs =>
      intro h
      rw [l.same hi (by intro z; cases z)]
      simp only at h ⊢
      cases hl : xs.getLast? with
      | none => rw [hl] at h; cases h
      | some d =>
        rw [hl] at h
        cases h
        exact ⟨_, rfl, l.set (.refl _)⟩
    | _ => intro h; cases h
theorem MonM.dsrt {i : Nat} : MonM (dsrtM i) := .ofVal fun e g r e1 l h => by
  revert h
  cases hi : e[i]? with
  | none => intro h; cases h
  | some s =>
    cases s with
    | dk xs =>
      intro h
      rw [l.same hi (by intro z; cases z)]
      simp only at h ⊢
      obtain ⟨s2, h1, h2⟩ := Option.map_eq_some_iff.mp h
      cases h2
      exact ⟨_, by rw [h1]; rfl, l⟩
    | dt xs =>
      intro h
      rw [l.same hi (by intro z; cases z)]
      simp only at h ⊢
      obtain ⟨s2, h1, h2⟩ := Option.map_eq_some_iff.mp h
      cases h2
      exact ⟨_, by rw [h1]; rfl, l⟩
    | _ => intro h; cases h
theorem MonM.ditm {i : Nat} : MonM (ditmM i) := .ofVal fun e g r e1 l h => by
  revert h
  cases hi : e[i]? with
  | none => intro h; cases h
  | some s =>
    cases s with
    | dk xs =>
      intro h
      rw [l.same hi (by intro z; cases z)]
      simp only at h ⊢
      obtain ⟨s2, h1, h2⟩ := Option.map_eq_some_iff.mp h
      cases h2
      exact ⟨_, by rw [h1]; rfl, l⟩
    | _ => intro h; cases h
theorem MonM.mth {m : Mt} {a b : M} (ha : MonM a) (hb : MonM b) : MonM (mthM m a b) :=
  .ofVal (Mon.bind (k := fun (p : Opd) (e1 : En) => (p.get e1).bind fun x0 => if isLst x0 then (b.opd e1).bind fun t => (p.get t.2).bind fun x => (t.1.get t.2).bind fun y => (mthD m x y).map fun z => (z, t.2) else none) ha.opd fun p =>
    Mon.get fun x0 => Mon.ite (Mon.bind (k := fun (q : Opd) (e2 : En) => (p.get e2).bind fun x => (q.get e2).bind fun y => (mthD m x y).map fun z => (z, e2)) hb.opd fun q => Mon.get fun x => Mon.get fun y => Mon.opt _) Mon.none)
mutual
theorem monE : ∀ e : E, MonM (ev P e)
  | .var i => by simp only [ev]; exact .var i
  | .cst d => by simp only [ev]; exact .ofVal (Mon.pure _)
  | .bin op a b => by simp only [ev]; exact .op2 (monE a) (monE b)
  | .neg a => by simp only [ev]; exact .op1 (monE a)
  | .cmp op a b => by simp only [ev]; exact .cmp (Mon.op2 (monE a) (monE b))
  | .chn o1 o2 a b c => by simp only [ev]; exact .chn (monE a) (monE b) (monE c)
  | .isn ng a => by simp only [ev]; exact .cmp (MonM.op1 (monE a)).val
  | .bop o es => by simp only [ev]; exact .bop (monEs es)
  | .not a => by simp only [ev]; exact .not (monE a)
  | .ite c a b => by simp only [ev]; exact .ite (monE c) (monE a) (monE b)
  | .tup es => by simp only [ev]; exact .tup (monEs es)
  | .lst es => by simp only [ev]; exact .lst (monEs es)
  | .idx a i => by simp only [ev]; exact .op2 (monE a) (monE i)
  | .slc a lo hi => by simp only [ev]; exact .slc (monE a) (monEs lo) (monEs hi)
  | .call f es => by simp only [ev]; exact .call (monEs es)
  | .callB f i es => by simp only [ev]; exact .callB (monEs es)
  | .callS f i => by simp only [ev]; exact .callS
  | .blt b es => by simp only [ev]; exact .blt (monEs es)
  | .isi a t => by simp only [ev]; exact .cmp (MonM.op1 (monE a)).val
  | .lc t k its cond elt own => by simp only [ev]; exact .lc (monEs its) (monEs cond) (monE elt)
  | .pop i => by simp only [ev]; exact .pop
  | .mth m a e => by simp only [ev]; exact .mth (monE a) (monE e)
  | .rev a => by simp only [ev]; exact .op1 (monE a)
  | .sset a => by simp only [ev]; exact .op1 (monE a)
  | .dnew t => by simp only [ev]; exact .ofVal (Mon.pure _)
  | .dsrt i => by simp only [ev]; exact .dsrt
  | .ditm i => by simp only [ev]; exact .ditm
  | .lset a => by simp only [ev]; exact .op1 (monE a)
  | .isb ng k a => by simp only [ev]; exact .cmp (MonM.op1 (monE a)).val
  | .rgv tup es => by
    simp only [ev]
    exact .ofVal (Mon.bind (k := fun (ps : List Opd) (e1 : En) => (gets e1 ps).bind fun ds => (rgvD tup ds).map fun r => (r, e1)) (Mon.ops (monEs es)) fun ps => Mon.gets fun ds => Mon.opt _)
  | .upper a => by
    simp only [ev]
    exact .ofVal (Mon.bind (k := fun (p : Opd) (e1 : En) => (p.get e1).bind fun x0 => if isStr x0 then (upperD x0).map fun r => (r, e1) else none) (monE a).opd fun p => Mon.get fun x0 => Mon.ite (Mon.opt _) Mon.none)
theorem monEs : ∀ es : List E, ∀ m ∈ evs P es, MonM m
  | [], m, h => by simp only [evs] at h; cases h
  | e :: es, m, h => by
    simp only [evs, List.mem_cons] at h
    rcases h with rfl | h
    · exact monE e
    · exact monEs es m h
end
/-- outcomes -/
inductive OLE : Out → Out → Prop
  | nx {e g : En} : LE e g → OLE (.nx e) (.nx g)
  | rt {s : Sl} {e g : En} : LE e g → OLE (.rt s e) (.rt s g)
  | bk {e g : En} : LE e g → OLE (.bk e) (.bk g)
  | ct {e g : En} : LE e g → OLE (.ct e) (.ct g)
theorem OLE.refl (o : Out) : OLE o o := by cases o <;> constructor <;> exact LE.refl _
theorem OLE.trans {a b c : Out} (h : OLE a b) (g : OLE b c) : OLE a c := by
  cases h with
  | nx h => cases g with | nx g => exact .nx (h.trans g)
  | rt h => cases g with | rt g => exact .rt (h.trans g)
  | bk h => cases g with | bk g => exact .bk (h.trans g)
  | ct h => cases g with | ct g => exact .ct (h.trans g)
def MonO (f : En → Option Out) : Prop := ∀ (e g : En) (o : Out), LE e g → f e = some o → ∃ o', f g = some o' ∧ OLE o o'
theorem MonO.none : MonO (fun _ => Option.none) := fun _ _ _ l h => by cases h
theorem MonO.bind {β : Type} {f : En → Option (β × En)} {k : β → En → Option Out} (hf : Mon f) (hk : ∀ b, MonO (k b)) : MonO fun e => (f e).bind fun p => k p.1 p.2 := fun e g o l h => by
  obtain ⟨⟨b, e2⟩, h1, h2⟩ := Option.bind_eq_some_iff.mp h
  obtain ⟨g2, h3, h4⟩ := hf _ _ _ _ l h1
  obtain ⟨o', h5, h6⟩ := hk b _ _ _ h4 h2
  exact ⟨o', by simp only [h3, Option.bind_some, h5], h6⟩
theorem MonO.env {f : En → Option En} (hf : ∀ {e g e1 : En}, LE e g → f e = some e1 → ∃ g1, f g = some g1 ∧ LE e1 g1) : MonO fun e => (f e).map Out.nx := fun e g o l h => by
  obtain ⟨e1, h1, h2⟩ := Option.map_eq_some_iff.mp h
  cases h2
  obtain ⟨g1, h3, l1⟩ := hf l h1
  exact ⟨.nx g1, by simp only [h3, Option.map_some], .nx l1⟩
theorem MonO.ite {c : Prop} [Decidable c] {f k : En → Option Out} (hf : MonO f) (hk : MonO k) : MonO fun e => if c then f e else k e := fun e g o l h => by
  by_cases hc : c
  · simp only [if_pos hc] at h ⊢; exact hf _ _ _ l h
  · simp only [if_neg hc] at h ⊢; exact hk _ _ _ l h
theorem whN_le {c : En → Option (Bool × En)} {b : En → Option Out} (hc : Mon c) (hb : MonO b) : ∀ {n : Nat}, MonO (whN c b n)
  | 0, e, g, o, l, h => by cases h
  | n + 1, e, g, o, l, h => by
    simp only [whN] at h ⊢
    obtain ⟨⟨k, e1⟩, h1, h⟩ := Option.bind_eq_some_iff.mp h
    obtain ⟨g1, k1, l1⟩ := hc _ _ _ _ l h1
    simp only [k1, Option.bind_some]
    cases k with
    | false =>
      simp only [Bool.false_eq_true, if_false] at h ⊢
      cases h
      exact ⟨_, rfl, .nx l1⟩
    | true =>
      simp only [if_true] at h ⊢
      obtain ⟨r, h2, h⟩ := Option.bind_eq_some_iff.mp h
      obtain ⟨r', k2, lr⟩ := hb _ _ _ l1 h2
      simp only [k2, Option.bind_some]
      cases lr with
      | nx l2 => exact whN_le hc hb _ _ _ l2 h
      | ct l2 => exact whN_le hc hb _ _ _ l2 h
      | bk l2 => cases h; exact ⟨_, rfl, .nx l2⟩
      | rt l2 => cases h; exact ⟨_, rfl, .rt l2⟩
theorem whC_le {c : En → Option (Bool × En)} {b : En → Option Out} (hc : Mon c) (hb : MonO b) : MonO (whC c b) := fun e g o l h => by
  obtain ⟨n, hn⟩ := whC_some h
  obtain ⟨o', h1, h2⟩ := whN_le hc hb _ _ _ l hn
  exact ⟨o', whC_of h1, h2⟩
theorem frL_le {t : T} {b : En → Option Out} (hb : MonO b) : ∀ {xs : List D}, MonO (frL t b xs)
  | [], e, g, o, l, h => by cases h; exact ⟨_, rfl, .nx l⟩
  | x :: xs, e, g, o, l, h => by
    simp only [frL] at h ⊢
    obtain ⟨e1, h1, h⟩ := Option.bind_eq_some_iff.mp h
    obtain ⟨g1, k1, l1⟩ := asgT_mono l h1
    obtain ⟨r, h2, h⟩ := Option.bind_eq_some_iff.mp h
    obtain ⟨r', k2, lr⟩ := hb _ _ _ l1 h2
    simp only [k1, Option.bind_some, k2]
    cases lr with
    | nx l2 => exact frL_le hb _ _ _ l2 h
    | ct l2 => exact frL_le hb _ _ _ l2 h
    | bk l2 => cases h; exact ⟨_, rfl, .nx l2⟩
    | rt l2 => cases h; exact ⟨_, rfl, .rt l2⟩
theorem isL_mono {e g : En} {x : Nat} (l : LE e g) (h : isL e[x]? = true) : isL g[x]? = true := by
  revert h
  cases hi : e[x]? with
  | none => intro z; cases z
  | some s => intro z; rw [l.same hi (by intro q; subst q; cases z)]; exact z
theorem MonO.isL {x : Nat} {f : En → Option Out} (hf : MonO f) : MonO fun e => if Mini.isL e[x]? then f e else Option.none := fun e g o l h => by
  by_cases hc : Mini.isL e[x]? = true
  · simp only [if_pos hc] at h
    simp only
    rw [if_pos (isL_mono l hc)]; exact hf _ _ _ l h
  · simp only [if_neg hc] at h; cases h
theorem app_mono {x : Nat} {d : D} : MonO (appS x d) := fun e g o l h => by
  unfold appS at h ⊢
  split at h
  · rename_i xs hi
    rw [l.same hi (by intro z; cases z)]
    simp only
    split at h
    · rename_i hl
      rw [if_pos hl]
      cases h
      exact ⟨_, rfl, .nx (l.set (.refl _))⟩
    · cases h
  · cases h
theorem ext_mono {x : Nat} {d : D} : MonO (extS x d) := fun e g o l h => by
  unfold extS at h ⊢
  split at h
  · rename_i xs ys hi
    rw [l.same hi (by intro z; cases z)]
    simp only
    split at h
    · rename_i hl
      rw [if_pos hl]
      cases h
      exact ⟨_, rfl, .nx (l.set (.refl _))⟩
    · cases h
  · cases h
theorem Mon.par {a b : M} (ha : MonM a) (hb : MonM b) : Mon (parM a b) := fun e g r e1 l h => by
  unfold parM at h ⊢
  obtain ⟨⟨s, e2⟩, h1, h2⟩ := Option.bind_eq_some_iff.mp h
  obtain ⟨g2, h3, l2⟩ := ha.val _ _ _ _ l h1
  obtain ⟨⟨t, e3⟩, h4, h5⟩ := Option.map_eq_some_iff.mp h2
  cases h5
  obtain ⟨g3, h6, l3⟩ := hb.val _ _ _ _ l2 h4
  exact ⟨g3, by simp only [h3, Option.bind_some, h6, Option.map_some], l3⟩
theorem Mon.parMs : ∀ {es : List M}, (∀ m ∈ es, MonM m) → Mon (parMs es)
  | [], _ => fun e g r e1 l h => by cases h; exact ⟨g, rfl, l⟩
  | a :: as, hm => fun e g r e1 l h => by
    unfold Mini.parMs at h ⊢
    obtain ⟨⟨s, e2⟩, h1, h2⟩ := Option.bind_eq_some_iff.mp h
    obtain ⟨g2, h3, l2⟩ := (hm a List.mem_cons_self).val _ _ _ _ l h1
    obtain ⟨⟨t, e3⟩, h4, h5⟩ := Option.map_eq_some_iff.mp h2
    cases h5
    obtain ⟨g3, h6, l3⟩ := Mon.parMs (fun m h => hm m (List.mem_cons_of_mem _ h)) _ _ _ _ l2 h4
    exact ⟨g3, by simp only [h3, Option.bind_some, h6, Option.map_some], l3⟩
theorem setSs_mono : ∀ {is : List Nat} {r : List Sl} {e g e2 : En}, LE e g → setSs is r e = some e2 → ∃ g2, setSs is r g = some g2 ∧ LE e2 g2
  | [], [], _, g, _, l, h => by cases h; exact ⟨g, rfl, l⟩
  | [], _ :: _, _, _, _, _, h => by cases h
  | _ :: _, [], _, _, _, _, h => by cases h
  | i :: is, s :: r, e, g, e2, l, h => by
    obtain ⟨e1, h1, h2⟩ := Option.bind_eq_some_iff.mp h
    obtain ⟨g1, k1, l1⟩ := setS_mono l h1
    obtain ⟨g2, k2, l2⟩ := setSs_mono l1 h2
    exact ⟨g2, by show (setS i s g).bind _ = _; rw [k1]; exact k2, l2⟩
theorem ins_mono {x : Nat} {ds : List D} : MonO (insS x ds) := fun e g o l h => by
  unfold insS at h ⊢
  split at h
  · rename_i xs k d hi
    rw [l.same hi (by intro z; cases z)]
    simp only
    split at h
    · rename_i hl
      rw [if_pos hl]
      cases h
      exact ⟨_, rfl, .nx (l.set (.refl _))⟩
    · cases h
  · cases h
theorem rem_mono {x : Nat} {d : D} : MonO (remS x d) := fun e g o l h => by
  unfold remS at h ⊢
  split at h
  · rename_i xs k hi
    rw [l.same hi (by intro z; cases z)]
    simp only
    obtain ⟨ns, h1, h2⟩ := Option.bind_eq_some_iff.mp h
    rw [h1, Option.bind_some]
    split at h2
    · rename_i hl
      rw [if_pos hl]
      cases h2
      exact ⟨_, rfl, .nx (l.set (.refl _))⟩
    · cases h2
  · cases h
theorem dput_mono {x : Nat} {i d : D} : MonO (dputS x i d) := fun e g o l h => by
  unfold dputS at h ⊢
  split at h
  · rename_i xs k hi
    rw [l.same hi (by intro z; cases z)]
    simp only
    split at h
    · rename_i hl
      rw [if_pos hl]
      cases h
      exact ⟨_, rfl, .nx (l.set (.refl _))⟩
    · cases h
  · cases h
theorem dputT_mono {x : Nat} {ds : List D} {d : D} : MonO (dputTS x ds d) := fun e g o l h => by
  unfold dputTS at h ⊢
  split at h
  · rename_i xs k hi hk
    rw [l.same hi (by intro z; cases z), hk]
    simp only
    split at h
    · rename_i hl
      rw [if_pos hl]
      cases h
      exact ⟨_, rfl, .nx (l.set (.refl _))⟩
    · cases h
  · cases h
theorem MonO.isDk {x : Nat} {f : En → Option Out} (h : MonO f) : MonO (fun env => if Mini.isDk env[x]? then f env else Option.none) := fun e g o l q => by
  replace q : (if Mini.isDk e[x]? then f e else Option.none) = some o := q
  show ∃ o', (if Mini.isDk g[x]? then f g else Option.none) = some o' ∧ OLE o o'
  split at q
  · rename_i hi
    have hx : Mini.isDk g[x]? = true := by
      cases hi2 : e[x]? with
      | none => rw [hi2] at hi; cases hi
      | some s => cases s with
        | dk xs => rw [l.same hi2 (by intro z; cases z)]; rfl
        | _ => rw [hi2] at hi; cases hi
    rw [if_pos hx]; exact h _ _ _ l q
  · cases q
theorem MonO.isDt {x : Nat} {f : En → Option Out} (h : MonO f) : MonO (fun env => if Mini.isDt env[x]? then f env else Option.none) := fun e g o l q => by
  replace q : (if Mini.isDt e[x]? then f e else Option.none) = some o := q
  show ∃ o', (if Mini.isDt g[x]? then f g else Option.none) = some o' ∧ OLE o o'
  split at q
  · rename_i hi
    have hx : Mini.isDt g[x]? = true := by
      cases hi2 : e[x]? with
      | none => rw [hi2] at hi; cases hi
      | some s => cases s with
        | dt xs => rw [l.same hi2 (by intro z; cases z)]; rfl
        | _ => rw [hi2] at hi; cases hi
    rw [if_pos hx]; exact h _ _ _ l q
  · cases q
theorem seti_mono {x : Nat} {i d : D} : MonO (setiS x i d) := fun e g o l h => by
  unfold setiS at h ⊢
  split at h
  · rename_i xs k hi
    rw [l.same hi (by intro z; cases z)]
    simp only
    obtain ⟨j, h1, h2⟩ := Option.map_eq_some_iff.mp h
    cases h2
    simp only [h1, Option.map_some]
    exact ⟨_, rfl, .nx (l.set (.refl _))⟩
  · cases h
mutual
theorem monC : ∀ c : C, MonO (ex P c)
  | .asg t e => by
    cases t with
    | nm i =>
      intro e0 g o l h
      rw [ex_asg] at h ⊢
      exact MonO.bind (k := fun (s : Sl) (e1 : En) => (setS i s e1).map .nx) (monE (P := P) e).val (fun s => MonO.env fun l h => setS_mono l h) _ _ _ l h
    | tp ts =>
      intro e0 g o l h
      rw [ex_unp] at h ⊢
      exact MonO.bind (k := fun (s : D) (e1 : En) => (asgT (.tp ts) s e1).map .nx) (monE (P := P) e).val.frz (fun s => MonO.env fun l h => asgT_mono l h) _ _ _ l h
  | .seti x i e => by
    intro e0 g o l h
    rw [ex_seti] at h ⊢
    exact MonO.bind (k := fun (d : D) (e1 : En) => if isL e1[x]? then ((ev P i).opd e1).bind fun t => (t.1.get t.2).bind fun k => setiS x k d t.2 else none) (monE (P := P) e).val.frz (fun d => MonO.isL (MonO.bind (k := fun (p : Opd) (e2 : En) => (p.get e2).bind fun k => setiS x k d e2) (monE (P := P) i).opd fun p => fun e g o l h => by
      obtain ⟨k, h1, h2⟩ := Option.bind_eq_some_iff.mp h
      obtain ⟨o', h3, h4⟩ := seti_mono _ _ _ l h2
      exact ⟨o', by simp only [get_mono l h1, Option.bind_some, h3], h4⟩)) _ _ _ l h
  | .aug i op e => by
    intro e0 g o l h
    cases hi : e0[i]? with
    | none => simp only [ex, hi] at h; cases h
    | some s =>
      cases s with
      | v a =>
        rw [ex_aug _ _ _ _ _ a hi] at h
        rw [ex_aug _ _ _ _ _ a (l.same hi (by intro z; cases z))]
        exact MonO.bind (k := fun (d : D) (e1 : En) => (augD op a d).bind fun s => (setS i s e1).map .nx) (monE (P := P) e).val.frz (fun d => fun e g o l h => by
          obtain ⟨k, h1, h2⟩ := Option.bind_eq_some_iff.mp h
          obtain ⟨o', h3, h4⟩ := (MonO.env (f := setS i k) fun l h => setS_mono l h) _ _ _ l h2
          exact ⟨o', by simp only [h1, Option.bind_some]; exact h3, h4⟩) _ _ _ l h
      | _ => simp only [ex, hi] at h; cases h
  | .augi x i op e => by
    intro e0 g o l h
    simp only [ex] at h ⊢
    refine MonO.isL (x := x) (f := fun env => ((ev P i).opd env).bind fun p => (p.1.get p.2).bind fun k => match p.2[x]?, k with
      | some (.l xs), .int n => (atI xs n).bind fun old => (frzM (ev P e).val p.2).bind fun q => (augD op old q.1).bind fun r => r.frz.bind fun z => setiS x k z q.2
      | _, _ => none) ?_ _ _ _ l h
    refine MonO.bind (k := fun (p : Opd) (e1 : En) => (p.get e1).bind fun k => match e1[x]?, k with
      | some (.l xs), .int n => (atI xs n).bind fun old => (frzM (ev P e).val e1).bind fun q => (augD op old q.1).bind fun r => r.frz.bind fun z => setiS x k z q.2
      | _, _ => none) (monE (P := P) i).opd fun p => fun e1 g1 o l h => ?_
    obtain ⟨k, h1, h2⟩ := Option.bind_eq_some_iff.mp h
    simp only [get_mono l h1, Option.bind_some]
    cases hi : e1[x]? with
    | none => rw [hi] at h2; cases h2
    | some s =>
      rw [hi] at h2
      cases s with
      | l xs =>
        rw [l.same hi (by intro z; cases z)]
        cases k with
        | int n =>
          simp only at h2 ⊢
          obtain ⟨old, h3, h4⟩ := Option.bind_eq_some_iff.mp h2
          simp only [h3, Option.bind_some]
          exact MonO.bind (k := fun (d : D) (e2 : En) => (augD op old d).bind fun r => r.frz.bind fun z => setiS x (.int n) z e2) (monE (P := P) e).val.frz (fun d => fun e g o l h => by
            obtain ⟨r, h5, h6⟩ := Option.bind_eq_some_iff.mp h
            obtain ⟨z, h7, h8⟩ := Option.bind_eq_some_iff.mp h6
            obtain ⟨o', h9, h10⟩ := seti_mono _ _ _ l h8
            exact ⟨o', by simp only [h5, Option.bind_some, h7, h9], h10⟩) _ _ _ l h4
        | _ => cases h2
      | _ => cases h2
  | .app x e => by
    intro e0 g o l h
    rw [ex_app] at h ⊢
    exact MonO.isL (MonO.bind (k := fun (d : D) (e1 : En) => appS x d e1) (monE (P := P) e).val.frz fun d => app_mono) _ _ _ l h
  | .ext x e => by
    intro e0 g o l h
    rw [ex_ext] at h ⊢
    exact MonO.isL (MonO.bind (k := fun (d : D) (e1 : En) => extS x d e1) (monE (P := P) e).val.frz fun d => ext_mono) _ _ _ l h
  | .augl x e => by
    intro e0 g o l h
    rw [ex_augl] at h ⊢
    exact MonO.isL (MonO.bind (k := fun (d : D) (e1 : En) => extS x d e1) (monE (P := P) e).val.frz fun d => ext_mono) _ _ _ l h
  | .rem x e => by
    intro e0 g o l h
    rw [ex_rem] at h ⊢
    exact MonO.isL (MonO.bind (k := fun (d : D) (e1 : En) => remS x d e1) (monE (P := P) e).val.frz fun d => rem_mono) _ _ _ l h
  | .ins x i e => by
    intro e0 g o l h
    rw [ex_ins] at h ⊢
    exact MonO.isL (MonO.bind (k := fun (ds : List D) (e1 : En) => insS x ds e1) (Mon.args (es := [ev P i, ev P e]) (fun m hm => by
      simp only [List.mem_cons, List.not_mem_nil, or_false] at hm
      rcases hm with rfl | rfl
      · exact monE i
      · exact monE e)) fun d => ins_mono) _ _ _ l h
  | .par i j a b => by
    intro e0 g o l h
    rw [ex_par] at h ⊢
    refine MonO.bind (k := fun (r : Sl × Sl) (e1 : En) => (setS i r.1 e1).bind fun e2 => (setS j r.2 e2).map .nx) (Mon.par (monE (P := P) a) (monE (P := P) b)) (fun r => fun e g o l h => ?_) _ _ _ l h
    obtain ⟨e2, h1, h2⟩ := Option.bind_eq_some_iff.mp h
    obtain ⟨g2, k1, l2⟩ := setS_mono l h1
    obtain ⟨o', k2, l3⟩ := (MonO.env (f := setS j r.2) fun l h => setS_mono l h) _ _ _ l2 h2
    exact ⟨o', by simp only [k1, Option.bind_some]; exact k2, l3⟩
  | .parn is es => by
    intro e0 g o l h
    rw [ex_parn] at h ⊢
    refine MonO.bind (k := fun (r : List Sl) (e1 : En) => if r.length ≤ sizeLine then (setSs is r e1).map .nx else none) (Mon.parMs (monEs (P := P) es)) (fun r => fun e g o l h => ?_) _ _ _ l h
    dsimp only at h ⊢
    split at h
    · rename_i hl
      rw [if_pos hl]
      exact (MonO.env (f := setSs is r) fun l h => setSs_mono l h) _ _ _ l h
    · cases h
  | .dput x i e => by
    intro e0 g o l h
    rw [ex_dput] at h ⊢
    exact MonO.bind (k := fun (d : D) (e1 : En) => if Mini.isDk e1[x]? then ((ev P i).opd e1).bind fun t => (t.1.get t.2).bind fun k => dputS x k d t.2 else none) (monE (P := P) e).val.frz (fun d => MonO.isDk (MonO.bind (k := fun (p : Opd) (e2 : En) => (p.get e2).bind fun k => dputS x k d e2) (monE (P := P) i).opd fun p => fun e g o l h => by
      obtain ⟨k, h1, h2⟩ := Option.bind_eq_some_iff.mp h
      obtain ⟨o', h3, h4⟩ := dput_mono _ _ _ l h2
      exact ⟨o', by simp only [get_mono l h1, Option.bind_some, h3], h4⟩)) _ _ _ l h
  | .dputT x is e => by
    intro e0 g o l h
    rw [ex_dputT] at h ⊢
    exact MonO.bind (k := fun (d : D) (e1 : En) => if Mini.isDt e1[x]? then (argsM (evs P is) e1).bind fun t => dputTS x t.1 d t.2 else none) (monE (P := P) e).val.frz (fun d => MonO.isDt (MonO.bind (k := fun (ds : List D) (e1 : En) => dputTS x ds d e1) (Mon.args (monEs (P := P) is)) fun ds => dputT_mono)) _ _ _ l h
  | .expr e => by
    intro e0 g o l h
    rw [ex_expr] at h ⊢
    obtain ⟨⟨s, e1⟩, h1, h2⟩ := Option.map_eq_some_iff.mp h
    cases h2
    obtain ⟨g1, k1, l1⟩ := (monE (P := P) e).val _ _ _ _ l h1
    exact ⟨.nx g1, by simp only [k1, Option.map_some], .nx l1⟩
  | .ret e => by
    intro e0 g o l h
    rw [ex_ret] at h ⊢
    obtain ⟨⟨s, e1⟩, h1, h2⟩ := Option.map_eq_some_iff.mp h
    cases h2
    obtain ⟨g1, k1, l1⟩ := (monE (P := P) e).val _ _ _ _ l h1
    exact ⟨.rt s g1, by simp only [k1, Option.map_some], .rt l1⟩
  | .ife c a b => by
    intro e0 g o l h
    rw [ex_ife] at h ⊢
    exact MonO.bind (k := fun (k : Bool) (e1 : En) => if k then exs P a e1 else exs P b e1) (monE (P := P) c).tst (fun k => MonO.ite (monCs a) (monCs b)) _ _ _ l h
  | .wh c b => by
    intro e0 g o l h
    rw [ex_wh] at h ⊢
    exact whC_le (monE (P := P) c).tst (monCs b) _ _ _ l h
  | .fr t k its b => by
    intro e0 g o l h
    rw [ex_fr] at h ⊢
    have hm : ∀ m ∈ (evs P its).map frO, MonM m := fun m hm => by
      obtain ⟨m', h1, rfl⟩ := List.mem_map.mp hm
      have q := monEs (P := P) its m' h1
      exact ⟨q.val, Mon.map (k := fun d => Opd.d d) q.val.frz, q.tst⟩
    refine MonO.bind (k := fun (ps : List Opd) (e1 : En) => (gets e1 ps).bind fun ds => (itemsOf k ds).bind fun xs => frL t (exs P b) xs e1) (Mon.ops hm) (fun ps => fun e g o l h => ?_) _ _ _ l h
    obtain ⟨ds, h1, h2⟩ := Option.bind_eq_some_iff.mp h
    obtain ⟨xs, h3, h4⟩ := Option.bind_eq_some_iff.mp h2
    simp only [gets_mono l h1, Option.bind_some, h3]
    exact frL_le (monCs b) _ _ _ l h4
  | .brk => by
    intro e0 g o l h
    rw [ex_brk] at h ⊢
    cases h; exact ⟨_, rfl, .bk l⟩
  | .cont => by
    intro e0 g o l h
    rw [ex_cont] at h ⊢
    cases h; exact ⟨_, rfl, .ct l⟩
  | .pass => by
    intro e0 g o l h
    rw [ex_pass] at h ⊢
    cases h; exact ⟨_, rfl, .nx l⟩
  | .never => by
    intro e0 g o l h
    simp only [ex] at h
    cases h
theorem monCs : ∀ cs : List C, MonO (exs P cs)
  | [] => by
    intro e0 g o l h
    rw [exs_nil] at h ⊢
    cases h; exact ⟨_, rfl, .nx l⟩
  | c :: cs => by
    intro e0 g o l h
    rw [exs_cons] at h ⊢
    obtain ⟨r, h1, h2⟩ := Option.bind_eq_some_iff.mp h
    obtain ⟨r', k1, lr⟩ := monC c _ _ _ l h1
    simp only [k1, Option.bind_some]
    cases lr with
    | nx l2 => exact monCs cs _ _ _ l2 h2
    | ct l2 => cases h2; exact ⟨_, rfl, .ct l2⟩
    | bk l2 => cases h2; exact ⟨_, rfl, .bk l2⟩
    | rt l2 => cases h2; exact ⟨_, rfl, .rt l2⟩
end
end
end Mini

namespace Mini
open PySem PySem.Spec L2
/-! runs, told by what they come to at least -/
inductive Oc where
  | nx (e : En) | rt (s : Sl) | rb (s : Sl) (cs rs : List Int) | bk (e : En) | ct (e : En)
def Oc.sat : Oc → Out → Prop
  | .nx e, .nx f => LE e f
  | .rt s, .rt t _ => s = t
  | .rb s cs rs, .rt t (.bx cs2 rs2 :: _) => s = t ∧ cs = cs2 ∧ rs = rs2
  | .bk e, .bk f => LE e f
  | .ct e, .ct f => LE e f
  | _, _ => False
theorem Oc.mono {q : Oc} {o o' : Out} (h : q.sat o) (l : OLE o o') : q.sat o' := by
  cases l with
  | nx l => cases q <;> first | exact h.elim | exact LE.trans h l
  | bk l => cases q <;> first | exact h.elim | exact LE.trans h l
  | ct l => cases q <;> first | exact h.elim | exact LE.trans h l
  | @rt s e g l =>
    cases q with
    | rt t => exact h
    | rb t cs rs =>
      cases l with
      | nil => exact h.elim
      | @cons a b as bs h1 h2 =>
        cases a with
        | bx cs2 rs2 =>
          rcases h1 with rfl | ⟨z, _⟩
          · exact h
          · cases z
        | _ => exact h.elim
    | _ => exact h.elim
def Go (P : Ph) (cs : List C) (e : En) (q : Oc) : Prop := ∃ o, exs P cs e = some o ∧ q.sat o
def Go1 (P : Ph) (c : C) (e : En) (q : Oc) : Prop := ∃ o, ex P c e = some o ∧ q.sat o
def GoF (P : Ph) (t : T) (b : List C) (xs : List D) (e : En) (q : Oc) : Prop := ∃ o, frL t (exs P b) xs e = some o ∧ q.sat o
section
variable {P : Ph}
theorem Go.le {cs : List C} {e f : En} {q : Oc} (h : Go P cs e q) (l : LE e f) : Go P cs f q := by
  obtain ⟨o, h1, h2⟩ := h
  obtain ⟨o', h3, h4⟩ := monCs (P := P) cs _ _ _ l h1
  exact ⟨o', h3, Oc.mono h2 h4⟩
theorem Go1.le {c : C} {e f : En} {q : Oc} (h : Go1 P c e q) (l : LE e f) : Go1 P c f q := by
  obtain ⟨o, h1, h2⟩ := h
  obtain ⟨o', h3, h4⟩ := monC (P := P) c _ _ _ l h1
  exact ⟨o', h3, Oc.mono h2 h4⟩
theorem GoF.le {t : T} {b : List C} {xs : List D} {e f : En} {q : Oc} (h : GoF P t b xs e q) (l : LE e f) : GoF P t b xs f q := by
  obtain ⟨o, h1, h2⟩ := h
  obtain ⟨o', h3, h4⟩ := frL_le (monCs (P := P) b) _ _ _ l h1
  exact ⟨o', h3, Oc.mono h2 h4⟩
theorem sat_nx {e f : En} {o : Out} (l : LE e f) (h : (Oc.nx f).sat o) : (Oc.nx e).sat o := by
  cases o <;> first | exact h.elim | exact l.trans h
theorem Go.low {cs : List C} {e f g : En} (h : Go P cs e (.nx f)) (l : LE g f) : Go P cs e (.nx g) := by
  obtain ⟨o, h1, h2⟩ := h
  exact ⟨o, h1, sat_nx l h2⟩
theorem GoF.low {t : T} {b : List C} {xs : List D} {e f g : En} (h : GoF P t b xs e (.nx f)) (l : LE g f) : GoF P t b xs e (.nx g) := by
  obtain ⟨o, h1, h2⟩ := h
  exact ⟨o, h1, sat_nx l h2⟩
theorem Go.of {cs : List C} {e f : En} (h : exs P cs e = some (.nx f)) : Go P cs e (.nx f) := ⟨_, h, LE.refl f⟩
theorem Go.rtOf {cs : List C} {e f : En} {s : Sl} (h : exs P cs e = some (.rt s f)) : Go P cs e (.rt s) := ⟨_, h, rfl⟩
theorem Go1.of {c : C} {e f : En} (h : ex P c e = some (.nx f)) : Go1 P c e (.nx f) := ⟨_, h, LE.refl f⟩
theorem Go1.rtOf {c : C} {e f : En} {s : Sl} (h : ex P c e = some (.rt s f)) : Go1 P c e (.rt s) := ⟨_, h, rfl⟩
theorem Go.nil {e f : En} (l : LE f e) : Go P [] e (.nx f) := ⟨_, exs_nil P e, l⟩
theorem Go.cons {c : C} {cs : List C} {e f : En} {q : Oc} (h : Go1 P c e (.nx f)) (g : Go P cs f q) : Go P (c :: cs) e q := by
  obtain ⟨o, h1, h2⟩ := h
  cases o with
  | nx f2 =>
    obtain ⟨o2, g1, g2⟩ := g.le h2
    exact ⟨o2, by rw [exs_cons, h1, Option.bind_some, thenO_nx, g1], g2⟩
  | _ => exact h2.elim
theorem Go.rt {c : C} {cs : List C} {e : En} {s : Sl} (h : Go1 P c e (.rt s)) : Go P (c :: cs) e (.rt s) := by
  obtain ⟨o, h1, h2⟩ := h
  cases o with
  | rt s2 f2 => exact ⟨_, by rw [exs_cons, h1, Option.bind_some, thenO_rt], h2⟩
  | _ => exact h2.elim
theorem Go.ct {c : C} {cs : List C} {e f : En} (h : Go1 P c e (.ct f)) : Go P (c :: cs) e (.ct f) := by
  obtain ⟨o, h1, h2⟩ := h
  cases o with
  | ct f2 => exact ⟨_, by rw [exs_cons, h1, Option.bind_some, thenO_ct], h2⟩
  | _ => exact h2.elim
theorem Go.bk {c : C} {cs : List C} {e f : En} (h : Go1 P c e (.bk f)) : Go P (c :: cs) e (.bk f) := by
  obtain ⟨o, h1, h2⟩ := h
  cases o with
  | bk f2 => exact ⟨_, by rw [exs_cons, h1, Option.bind_some, thenO_bk], h2⟩
  | _ => exact h2.elim
theorem Go.rb {c : C} {cs : List C} {e : En} {s : Sl} {ds rs : List Int} (h : Go1 P c e (.rb s ds rs)) : Go P (c :: cs) e (.rb s ds rs) := by
  obtain ⟨o, h1, h2⟩ := h
  cases o with
  | rt s2 f2 => exact ⟨_, by rw [exs_cons, h1, Option.bind_some, thenO_rt], h2⟩
  | _ => exact h2.elim
/-- statements in front, run by the simplifier -/
theorem Go.app {as bs : List C} {e f : En} {q : Oc} (h : Go P as e (.nx f)) (g : Go P bs f q) : Go P (as ++ bs) e q := by
  induction as generalizing e with
  | nil =>
    obtain ⟨o, h1, h2⟩ := h
    rw [exs_nil] at h1
    cases h1
    exact g.le h2
  | cons a as ih =>
    obtain ⟨o, h1, h2⟩ := h
    rw [exs_cons] at h1
    obtain ⟨r, h3, h4⟩ := Option.bind_eq_some_iff.mp h1
    cases r with
    | nx e2 =>
      rw [thenO_nx] at h4
      obtain ⟨o2, g1, g2⟩ := ih ⟨o, h4, h2⟩
      exact ⟨o2, by rw [List.cons_append, exs_cons, h3, Option.bind_some, thenO_nx, g1], g2⟩
    | rt s e2 => cases h4; exact h2.elim
    | bk e2 => cases h4; exact h2.elim
    | ct e2 => cases h4; exact h2.elim
/-- what follows a return is not run -/
theorem Go.appRb {as bs : List C} {e : En} {s : Sl} {ds rs : List Int} (h : Go P as e (.rb s ds rs)) : Go P (as ++ bs) e (.rb s ds rs) := by
  induction as generalizing e with
  | nil =>
    obtain ⟨o, h1, h2⟩ := h
    rw [exs_nil] at h1
    cases h1
    exact h2.elim
  | cons a as ih =>
    obtain ⟨o, h1, h2⟩ := h
    rw [exs_cons] at h1
    obtain ⟨r, h3, h4⟩ := Option.bind_eq_some_iff.mp h1
    cases r with
    | nx e2 =>
      rw [thenO_nx] at h4
      obtain ⟨o2, g1, g2⟩ := ih ⟨o, h4, h2⟩
      exact ⟨o2, by rw [List.cons_append, exs_cons, h3, Option.bind_some, thenO_nx, g1], g2⟩
    | rt s e2 => cases h4; exact ⟨_, by rw [List.cons_append, exs_cons, h3, Option.bind_some, thenO_rt], h2⟩
    | bk e2 => cases h4; exact h2.elim
    | ct e2 => cases h4; exact h2.elim
theorem Go.appRt {as bs : List C} {e : En} {s : Sl} (h : Go P as e (.rt s)) : Go P (as ++ bs) e (.rt s) := by
  induction as generalizing e with
  | nil =>
    obtain ⟨o, h1, h2⟩ := h
    rw [exs_nil] at h1
    cases h1
    exact h2.elim
  | cons a as ih =>
    obtain ⟨o, h1, h2⟩ := h
    rw [exs_cons] at h1
    obtain ⟨r, h3, h4⟩ := Option.bind_eq_some_iff.mp h1
    cases r with
    | nx e2 =>
      rw [thenO_nx] at h4
      obtain ⟨o2, g1, g2⟩ := ih ⟨o, h4, h2⟩
      exact ⟨o2, by rw [List.cons_append, exs_cons, h3, Option.bind_some, thenO_nx, g1], g2⟩
    | rt s e2 => cases h4; exact ⟨_, by rw [List.cons_append, exs_cons, h3, Option.bind_some, thenO_rt], h2⟩
    | bk e2 => cases h4; exact h2.elim
    | ct e2 => cases h4; exact h2.elim
theorem Go.ret {e f : E} {en en2 : En} {s : Sl} {cs : List C} (h : (ev P e).val en = some (s, en2)) : Go P (.ret e :: cs) en (.rt s) :=
  Go.rt ⟨.rt s en2, by rw [ex_ret, h]; rfl, rfl⟩
theorem Go.ife {c : E} {a b cs : List C} {e e1 : En} {k : Bool} {q : Oc} (h : (ev P c).tst e = some (k, e1)) (g : Go P ((if k then a else b) ++ cs) e1 q) : Go P (.ife c a b :: cs) e q := by
  obtain ⟨o, g1, g2⟩ := g
  refine ⟨o, ?_, g2⟩
  rw [exs_cons, ex_ife, h, Option.bind_some]
  have key : ∀ as : List C, exs P (as ++ cs) e1 = (exs P as e1).bind (thenO P cs) := by
    intro as
    have : ∀ (as : List C) (e1 : En), exs P (as ++ cs) e1 = (exs P as e1).bind (thenO P cs) := by
      intro as
      induction as with
      | nil => intro e1; simp
      | cons a as ih =>
        intro e1
        rw [List.cons_append, exs_cons, exs_cons, Option.bind_assoc]
        congr 1
        funext r
        cases r with
        | nx e2 => exact ih e2
        | _ => rfl
    exact this as e1
  cases k with
  | true => rw [if_pos rfl] at g1; simp only [if_true]; rw [← key]; exact g1
  | false =>
    rw [if_neg (by decide)] at g1
    simp only [Bool.false_eq_true, if_false]; rw [← key]; exact g1
/-- loops -/
theorem GoF.nil {t : T} {b : List C} {e f : En} (l : LE f e) : GoF P t b [] e (.nx f) := ⟨.nx e, rfl, l⟩
theorem GoF.cons {t : T} {b : List C} {x : D} {xs : List D} {e e1 e2 : En} {q : Oc} (h1 : asgT t x e = some e1) (h2 : Go P b e1 (.nx e2) ∨ Go P b e1 (.ct e2)) (h3 : GoF P t b xs e2 q) : GoF P t b (x :: xs) e q := by
  rcases h2 with ⟨o, h4, h5⟩ | ⟨o, h4, h5⟩
  · cases o with
    | nx e3 =>
      obtain ⟨o2, h6, h7⟩ := h3.le h5
      exact ⟨o2, by simp only [frL, h1, h4, Option.bind_some, h6], h7⟩
    | _ => exact h5.elim
  · cases o with
    | ct e3 =>
      obtain ⟨o2, h6, h7⟩ := h3.le h5
      exact ⟨o2, by simp only [frL, h1, h4, Option.bind_some, h6], h7⟩
    | _ => exact h5.elim
theorem GoF.rt {t : T} {b : List C} {x : D} {xs : List D} {e e1 : En} {s : Sl} (h1 : asgT t x e = some e1) (h2 : Go P b e1 (.rt s)) : GoF P t b (x :: xs) e (.rt s) := by
  obtain ⟨o, h4, h5⟩ := h2
  cases o with
  | rt s2 e3 => exact ⟨_, by simp only [frL, h1, h4, Option.bind_some], h5⟩
  | _ => exact h5.elim
theorem GoF.bk {t : T} {b : List C} {x : D} {xs : List D} {e e1 e2 : En} (h1 : asgT t x e = some e1) (h2 : Go P b e1 (.bk e2)) : GoF P t b (x :: xs) e (.nx e2) := by
  obtain ⟨o, h4, h5⟩ := h2
  cases o with
  | bk e3 => exact ⟨.nx e3, by simp only [frL, h1, h4, Option.bind_some], show LE e2 e3 from h5⟩
  | _ => exact h5.elim
theorem Go1.fr {t : T} {k : IK} {its : List E} {b : List C} {e e1 : En} {ps : List Opd} {ds xs : List D} {q : Oc} (h1 : opsM ((evs P its).map frO) e = some (ps, e1)) (h2 : gets e1 ps = some ds) (h3 : itemsOf k ds = some xs) (h4 : GoF P t b xs e1 q) : Go1 P (.fr t k its b) e q := by
  obtain ⟨o, h5, h6⟩ := h4
  exact ⟨o, by rw [fr_of h1 h2 h3, h5], h6⟩
/-- a loop by the places of its items -/
theorem GoF.idx {t : T} {b : List C} (E : Nat → En) : ∀ (xs : List D) (j : Nat), (∀ (i : Nat) (x : D), xs[i]? = some x → ∃ e1, asgT t x (E (j + i)) = some e1 ∧ (Go P b e1 (.nx (E (j + i + 1))) ∨ Go P b e1 (.ct (E (j + i + 1))))) → GoF P t b xs (E j) (.nx (E (j + xs.length)))
  | [], j, h => .nil (.refl _)
  | x :: xs, j, h => by
    obtain ⟨e1, h1, h2⟩ := h 0 x rfl
    have := GoF.idx E xs (j + 1) fun i y hy => by
      have := h (i + 1) y (by simpa using hy)
      have e : j + (i + 1) = j + 1 + i := by omega
      rw [e] at this
      exact this
    have e : j + 1 + xs.length = j + (x :: xs).length := by simp only [List.length_cons]; omega
    rw [e] at this
    exact .cons h1 h2 this
theorem GoF.idx0 {t : T} {b : List C} (E : Nat → En) (xs : List D) (h : ∀ (i : Nat) (x : D), xs[i]? = some x → ∃ e1, asgT t x (E i) = some e1 ∧ (Go P b e1 (.nx (E (i + 1))) ∨ Go P b e1 (.ct (E (i + 1))))) : GoF P t b xs (E 0) (.nx (E xs.length)) := by
  have := GoF.idx (P := P) (t := t) (b := b) E xs 0 (by simpa using h)
  simpa using this
theorem rngL_at {a : Int} {n i : Nat} {x : D} (h : (rngL a n)[i]? = some x) : i < n ∧ x = .int (a + i) := by
  unfold rngL at h
  rw [List.getElem?_map] at h
  obtain ⟨k, h1, h2⟩ := Option.map_eq_some_iff.mp h
  obtain ⟨h3, h4⟩ := List.getElem?_eq_some_iff.mp h1
  simp only [List.length_range] at h3
  simp only [List.getElem_range] at h4
  subst h4
  exact ⟨h3, h2.symm⟩
theorem rngL_len (a : Int) (n : Nat) : (rngL a n).length = n := by simp [rngL]
theorem GoF.rng {t : T} {b : List C} (E : Nat → En) (a : Int) (n : Nat) (h : ∀ i, i < n → ∃ e1, asgT t (.int (a + i)) (E i) = some e1 ∧ (Go P b e1 (.nx (E (i + 1))) ∨ Go P b e1 (.ct (E (i + 1))))) : GoF P t b (rngL a n) (E 0) (.nx (E n)) := by
  have := GoF.idx0 (P := P) (t := t) (b := b) E (rngL a n) fun i x hx => by
    obtain ⟨h1, rfl⟩ := rngL_at hx
    exact h i h1
  rw [rngL_len] at this
  exact this
/-- a loop whose state is told by a property -/
theorem GoF.inv {t : T} {b : List C} (J : Nat → En → Prop) : ∀ (xs : List D) (j : Nat) (e : En), (∀ (i : Nat) (x : D) (e : En), xs[i]? = some x → J (j + i) e → ∃ e1 e2, asgT t x e = some e1 ∧ (Go P b e1 (.nx e2) ∨ Go P b e1 (.ct e2)) ∧ J (j + i + 1) e2) → J j e → ∃ e2, J (j + xs.length) e2 ∧ GoF P t b xs e (.nx e2)
  | [], j, e, h, q => ⟨e, q, .nil (.refl _)⟩
  | x :: xs, j, e, h, q => by
    obtain ⟨e1, e2, h1, h2, h3⟩ := h 0 x e rfl q
    obtain ⟨e3, h4, h5⟩ := GoF.inv J xs (j + 1) e2 (fun i y e hy q => by
      have eq : j + (i + 1) = j + 1 + i := by omega
      have := h (i + 1) y e (by simpa using hy) (by rw [eq]; exact q)
      rw [eq] at this
      exact this) h3
    have eq : j + 1 + xs.length = j + (x :: xs).length := by simp only [List.length_cons]; omega
    rw [eq] at h4
    exact ⟨e3, h4, .cons h1 h2 h5⟩
/-- the first item at which the loop ends the function -/
theorem GoF.rtAt {t : T} {b : List C} {s : Sl} (E : Nat → En) : ∀ (xs : List D) (j k : Nat), k < xs.length → (∀ (i : Nat) (x : D), i < k → xs[i]? = some x → ∃ e1, asgT t x (E (j + i)) = some e1 ∧ (Go P b e1 (.nx (E (j + i + 1))) ∨ Go P b e1 (.ct (E (j + i + 1))))) → (∀ x, xs[k]? = some x → ∃ e1, asgT t x (E (j + k)) = some e1 ∧ Go P b e1 (.rt s)) → GoF P t b xs (E j) (.rt s)
  | [], j, k, hk, h, g => by simp at hk
  | x :: xs, j, 0, hk, h, g => by
    obtain ⟨e1, h1, h2⟩ := g x rfl
    exact .rt h1 h2
  | x :: xs, j, k + 1, hk, h, g => by
    obtain ⟨e1, h1, h2⟩ := h 0 x (by omega) rfl
    have := GoF.rtAt E xs (j + 1) k (by simpa using hk) (fun i y hi hy => by
      have := h (i + 1) y (by omega) (by simpa using hy)
      have e : j + (i + 1) = j + 1 + i := by omega
      rw [e] at this
      exact this) (fun y hy => by
      have := g y (by simpa using hy)
      have e : j + (k + 1) = j + 1 + k := by omega
      rw [e] at this
      exact this)
    exact .cons h1 h2 this
theorem Go1.wh {c : E} {b : List C} {e e1 e2 : En} {q : Oc} (h : (ev P c).tst e = some (true, e1)) (g : Go P b e1 (.nx e2)) (r : Go1 P (.wh c b) e2 q) : Go1 P (.wh c b) e q := by
  obtain ⟨o, g1, g2⟩ := g
  cases o with
  | nx e3 =>
    obtain ⟨o2, r1, r2⟩ := r.le g2
    rw [ex_wh] at r1
    exact ⟨o2, by rw [ex_wh, whC_step h g1 r1], r2⟩
  | _ => exact g2.elim
theorem Go1.whEnd {c : E} {b : List C} {e e1 f : En} (h : (ev P c).tst e = some (false, e1)) (l : LE f e1) : Go1 P (.wh c b) e (.nx f) :=
  ⟨.nx e1, by rw [ex_wh, whC_end h], l⟩
theorem Go1.whRt {c : E} {b : List C} {e e1 : En} {s : Sl} (h : (ev P c).tst e = some (true, e1)) (g : Go P b e1 (.rt s)) : Go1 P (.wh c b) e (.rt s) := by
  obtain ⟨o, g1, g2⟩ := g
  cases o with
  | rt s2 e3 => exact ⟨_, by rw [ex_wh, whC_ret h g1], g2⟩
  | _ => exact g2.elim
/-- a while by its number of turns -/
theorem Go1.whN {c : E} {b : List C} (E : Nat → En) : ∀ (n j : Nat), (∀ i, i < n → (ev P c).tst (E (j + i)) = some (true, E (j + i)) ∧ Go P b (E (j + i)) (.nx (E (j + i + 1)))) → (ev P c).tst (E (j + n)) = some (false, E (j + n)) → Go1 P (.wh c b) (E j) (.nx (E (j + n)))
  | 0, j, h, g => .whEnd g (.refl _)
  | n + 1, j, h, g => by
    obtain ⟨h1, h2⟩ := h 0 (by omega)
    have e : j + (n + 1) = j + 1 + n := by omega
    rw [e] at g ⊢
    have := Go1.whN E n (j + 1) (fun i hi => by
      have := h (i + 1) (by omega)
      have e : j + (i + 1) = j + 1 + i := by omega
      rw [e] at this
      exact this) g
    exact .wh h1 h2 this
end
/-- a function's answer -/
theorem fn_go {es : List Entry} {d j : Nat} {i : FnI} {as : List Sl} {s : Sl} (h : es[j]? = some (.user i)) (hl : as.length = i.ps.length) (hb : hasBx as = i.b) (hx : Go (callN (tbOf es) d) i.body (as ++ List.replicate (i.N.length - i.ps.length) .no) (.rt s)) : retOf (callN (tbOf es) (d + 1)) j as = some s := by
  obtain ⟨o, h1, h2⟩ := hx
  cases o with
  | rt s2 e => cases h2; exact ret_user h hl hb h1
  | _ => exact h2.elim
theorem fn_goB {es : List Entry} {d j : Nat} {i : FnI} {as : List Sl} {s : Sl} {cs rs : List Int} (h : es[j]? = some (.user i)) (hl : as.length = i.ps.length) (hb : hasBx as = i.b) (hx : Go (callN (tbOf es) d) i.body (as ++ List.replicate (i.N.length - i.ps.length) .no) (.rb s cs rs)) : retB (callN (tbOf es) (d + 1)) j as = some (s, .bx cs rs) := by
  obtain ⟨o, h1, h2⟩ := hx
  cases o with
  | rt s2 e =>
    cases e with
    | nil => exact h2.elim
    | cons b e =>
      cases b with
      | bx cs2 rs2 =>
        obtain ⟨rfl, rfl, rfl⟩ := h2
        exact retB_user h hl hb h1
      | _ => exact h2.elim
  | _ => exact h2.elim
/-! the order, for the simplifier -/
@[simp] theorem le_nil : LE [] [] := .nil
@[simp] theorem le_cons {a b : Sl} {as bs : En} : LE (a :: as) (b :: bs) ↔ sle a b ∧ LE as bs := ⟨fun h => by cases h with | cons h1 h2 => exact ⟨h1, h2⟩, fun h => .cons h.1 h.2⟩
@[simp] theorem sle_self (a : Sl) : sle a a := .refl a
@[simp] theorem sle_nov (d : D) : sle .no (.v d) := .inr ⟨rfl, rfl⟩
@[simp] theorem sle_nol (d : List D) : sle .no (.l d) := .inr ⟨rfl, rfl⟩
@[simp] theorem sle_nos (d : List Int) : sle .no (.sc d) := .inr ⟨rfl, rfl⟩
theorem sle_nob {s : Sl} (h : s.isBx = false) : sle .no s := .inr ⟨rfl, h⟩
/-! comprehensions that leave the names as they are -/
theorem rest_self {e : En} : ∀ {own : List Nat}, wipeE e own = e → restE e e own = e := fun {own} h => by
  have key : ∀ (o2 : List Nat), (∀ i ∈ o2, i ∈ own) → restE e e o2 = e := by
    intro o2
    induction o2 with
    | nil => intro _; rfl
    | cons i r ih =>
      intro hi
      have h1 := wipe_no (e := e) (hi i List.mem_cons_self)
      rw [h] at h1
      unfold restE
      rw [ih fun j hj => hi j (List.mem_cons_of_mem _ hj)]
      rcases h1 with h1 | h1 <;> rw [h1]
  exact key own fun _ h => h
theorem still_self {e : En} : ∀ {ps : List Opd}, stillB e e ps
  | [] => trivial
  | .d _ :: r => still_self (ps := r)
  | .s i :: r => ⟨rfl, still_self (ps := r)⟩
section
variable {P : Ph} {t : T} {k : IK} {its cond : List E} {elt : E} {own : List Nat} {e : En} {ps : List Opd} {ds xs : List D}
/-- each item, in an environment whose own names are free -/
theorem lc_of (f : D → D) (g : D → Bool) (hw : wipeE e own = e) (h1 : opsM (evs P its) e = some (ps, e)) (h2 : gets e ps = some ds) (h3 : itemsOf k ds = some xs)
    (h : ∀ x ∈ xs, ∃ e1, asgT t x e = some e1 ∧ wipeE e1 own = e ∧ condM (evs P cond) e1 = some (g x, e1) ∧ (g x = true → frzM (ev P elt).val e1 = some (f x, e1))) :
    (ev P (.lc t k its cond elt own)).val e = some (.l ((xs.filter g).map f), e) := by
  rw [ev_lc, lcM_of h1 h2 h3 (by rw [hw]; exact still_self) (by rw [hw]; exact lc_gen f g still_self xs h), rest_self hw]
theorem lc_of0 (f : D → D) (hw : wipeE e own = e) (h1 : opsM (evs P its) e = some (ps, e)) (h2 : gets e ps = some ds) (h3 : itemsOf k ds = some xs)
    (h : ∀ x ∈ xs, ∃ e1, asgT t x e = some e1 ∧ wipeE e1 own = e ∧ frzM (ev P elt).val e1 = some (f x, e1)) :
    (ev P (.lc t k its [] elt own)).val e = some (.l (xs.map f), e) := by
  rw [ev_lc, evs_nil, lcM_of h1 h2 h3 (by rw [hw]; exact still_self) (by rw [hw]; exact lc_map f still_self xs h), rest_self hw]
end
theorem cmp_eqS {a b : D} (h : SeqAt.shaped a = true) (h2 : SeqAt.shaped b = true) : cmpD .Eq a b = some (.v (.bool (PyData.eqv a b))) := by
  simp only [cmpD, h, h2, and_self, if_true, b2s]
theorem cmp_neS {a b : D} (h : SeqAt.shaped a = true) (h2 : SeqAt.shaped b = true) : cmpD .NotEq a b = some (.v (.bool (!PyData.eqv a b))) := by
  simp only [cmpD, h, h2, and_self, if_true, b2s]
/-! more for the simplifier -/
@[simp] theorem max_i (x y : Int) : bltD .max [.int x, .int y] = some (.v (.int (max x y))) := by
  have : (if y > x then y else x) = max x y := by split <;> omega
  simp [bltD, this]
@[simp] theorem min_i2 (x y : Int) : bltD .min [.int x, .int y] = some (.v (.int (min x y))) := by
  have : (if y < x then y else x) = min x y := by split <;> omega
  simp [bltD, this]
@[simp] theorem any_l (xs : List D) : bltD .any [.list xs] = (boolsL xs).map fun bs => .v (.bool (bs.any id)) := (rfl)
@[simp] theorem tup_l (xs : List D) : bltD .tuple [.list xs] = some (.v (.tuple xs)) := (rfl)
@[simp] theorem tup_t (xs : List D) : bltD .tuple [.tuple xs] = some (.v (.tuple xs)) := (rfl)
@[simp] theorem lst_l (xs : List D) : bltD .list [.list xs] = some (.l xs) := (rfl)
@[simp] theorem lst_t (xs : List D) : bltD .list [.tuple xs] = some (.l xs) := (rfl)
@[simp] theorem sum_l (xs : List D) : bltD .sum [.list xs] = (intsL xs).map fun is => .v (.int is.sum) := (rfl)
@[simp] theorem slc_t (xs : List D) (lo hi : Option Int) : slcD (.tuple xs) lo hi = some (.v (.tuple (cutD xs lo hi))) := (rfl)
@[simp] theorem slc_l (xs : List D) (lo hi : Option Int) : slcD (.list xs) lo hi = some (.l (cutD xs lo hi)) := (rfl)
@[simp] theorem items_et (xs : List D) : itemsOf .enum [.tuple xs] = some (enumL xs 0) := (rfl)
@[simp] theorem items_el (xs : List D) : itemsOf .enum [.list xs] = some (enumL xs 0) := (rfl)
@[simp] theorem aug_add (x y : Int) : augD .Add (.int x) (.int y) = some (.v (.int (x + y))) := (rfl)
@[simp] theorem aug_sub (x y : Int) : augD .Sub (.int x) (.int y) = some (.v (.int (x - y))) := (rfl)
theorem aug_mul (x y : Int) (h : CMul x y) : augD .Mult (.int x) (.int y) = some (.v (.int (x * y))) := by simp [augD, h]
theorem aug_mod (x y : Int) (h : 0 < y) : augD .Mod (.int x) (.int y) = some (.v (.int (x % y))) := by simp [augD, h]
def capL : Nat := 1000000
theorem size_ok {n : Nat} (h : n ≤ capL) : n ≤ sizeLine := by unfold capL at h; unfold sizeLine; omega
theorem aug_cat (xs ys : List D) (h : xs.length + ys.length ≤ capL) : augD .Add (.tuple xs) (.tuple ys) = some (.v (.tuple (xs ++ ys))) := by
  simp only [augD, size_ok h, if_true]
theorem bin_cat (xs ys : List D) (h : xs.length + ys.length ≤ capL) : binD .Add (.tuple xs) (.tuple ys) = some (.v (.tuple (xs ++ ys))) := by
  simp only [binD, size_ok h, if_true]
theorem bin_catL (xs ys : List D) (h : xs.length + ys.length ≤ capL) : binD .Add (.list xs) (.list ys) = some (.l (xs ++ ys)) := by
  simp only [binD, size_ok h, if_true]
theorem tup_ok {n : Nat} {α : Type} {a b : α} (h : n ≤ capL) : (if n ≤ sizeLine then a else b) = a := if_pos (size_ok h)
theorem boolsL_map {α : Type} (f : α → Bool) : ∀ xs : List α, boolsL (xs.map fun x => .bool (f x)) = some (xs.map f)
  | [] => rfl
  | x :: xs => by
    have e : boolsL ((x :: xs).map fun x => .bool (f x)) = (boolsL (xs.map fun x => .bool (f x))).map (f x :: ·) := rfl
    rw [e, boolsL_map f xs]; rfl
theorem intsL_map {α : Type} (f : α → Int) : ∀ xs : List α, intsL (xs.map fun x => .int (f x)) = some (xs.map f)
  | [] => rfl
  | x :: xs => by
    have e : intsL ((x :: xs).map fun x => .int (f x)) = (intsL (xs.map fun x => .int (f x))).map (f x :: ·) := rfl
    rw [e, intsL_map f xs]; rfl
theorem cut_nat (xs : List D) (i j : Nat) : cutD xs (some (i : Int)) (some (j : Int)) = (xs.take j).drop i := by
  unfold cutD
  rw [HT.sIx_nat, HT.sIx_nat, List.drop_take]
  by_cases h : i ≤ xs.length
  · rw [Nat.min_eq_left h]
    by_cases h2 : j ≤ xs.length
    · rw [Nat.min_eq_left h2]
    · rw [Nat.min_eq_right (by omega), List.take_of_length_le (by simp), List.take_of_length_le (by simp; omega)]
  · rw [Nat.min_eq_right (show xs.length ≤ i by omega)]
    simp only [List.drop_length, List.take_nil]
    rw [List.drop_of_length_le (by omega)]; simp
theorem cut_from (xs : List D) (i : Nat) : cutD xs (some (i : Int)) none = xs.drop i := by
  unfold cutD
  rw [HT.sIx_nat, HT.sIx_none]
  by_cases h : i ≤ xs.length
  · rw [Nat.min_eq_left h, List.take_of_length_le (by simp)]
  · rw [Nat.min_eq_right (by omega)]
    simp only [List.drop_length, List.take_nil]
    rw [List.drop_of_length_le (by omega)]
theorem cut_to (xs : List D) (j : Nat) : cutD xs none (some (j : Int)) = xs.take j := by
  unfold cutD
  rw [HT.sIx_nat, HT.sIx_none, List.drop_zero, Nat.sub_zero]
  by_cases h2 : j ≤ xs.length
  · rw [Nat.min_eq_left h2]
  · rw [Nat.min_eq_right (by omega), List.take_length, List.take_of_length_le (by omega)]
theorem at_ex (xs : List D) (i : Int) (h : 0 ≤ i) (h2 : i < xs.length) : ∃ d, atI xs i = some d ∧ d ∈ xs := by
  have hl : i.toNat < xs.length := by omega
  refine ⟨xs[i.toNat], ?_, List.getElem_mem hl⟩
  have := at_nth xs i.toNat xs[i.toNat] (List.getElem?_eq_getElem hl)
  rw [Int.toNat_of_nonneg h] at this
  exact this
/-- a level with room -/
theorem lev {c d : Nat} (h : c + 1 ≤ d) : ∃ d', d = d' + 1 ∧ c ≤ d' := ⟨d - 1, by omega, by omega⟩
/-! comprehensions by the places of the items -/
section
variable {P : Ph} {t : T} {k : IK} {its cond : List E} {elt : E} {own : List Nat} {e : En} {ps : List Opd} {ds xs : List D}
theorem lcLoop_at {M1 : List M} {M2 : M} {e0 : En} (c : Nat → Bool) (g : Nat → D) (hs : stillB e0 e ps) : ∀ (xs : List D) (j : Nat), (∀ i x, xs[i]? = some x → ∃ e1, asgT t x e = some e1 ∧ wipeE e1 own = e ∧ condM M1 e1 = some (c (j + i), e1) ∧ (c (j + i) = true → frzM M2.val e1 = some (g (j + i), e1))) →
    lcLoop t M1 M2 own ps e0 xs e = some ((((List.range xs.length).map (j + ·)).filter c).map g, e)
  | [], j, h => by rw [lcLoop_nil]; rfl
  | x :: xs, j, h => by
    obtain ⟨e1, h1, h2, h3, h4⟩ := h 0 x rfl
    have ih := lcLoop_at c g hs xs (j + 1) fun i y hy => by
      have := h (i + 1) y (by simpa using hy)
      have eq : j + (i + 1) = j + 1 + i := by omega
      rw [eq] at this
      exact this
    have er : (List.range (x :: xs).length).map (j + ·) = j :: (List.range xs.length).map (j + 1 + ·) := by
      rw [List.length_cons, List.range_succ_eq_map, List.map_cons, List.map_map, Nat.add_zero]
      congr 1
      apply List.map_congr_left
      intro a _
      show j + (a + 1) = j + 1 + a
      omega
    have hs' : stillB e0 (wipeE e1 own) ps := by rw [h2]; exact hs
    rw [Nat.add_zero] at h3 h4
    rw [lcLoop_cons, h1, er]
    simp only [Option.bind_some, h3]
    by_cases b : c j = true
    · simp only [b, if_true, h4 b, Option.bind_some, if_pos hs']
      rw [h2, ih]
      simp [b]
    · have b : c j = false := by simpa using b
      simp only [b, Bool.false_eq_true, if_false, if_pos hs']
      rw [h2, ih]
      simp [b]
theorem lc_at (c : Nat → Bool) (g : Nat → D) (hw : wipeE e own = e) (h1 : opsM (evs P its) e = some (ps, e)) (h2 : gets e ps = some ds) (h3 : itemsOf k ds = some xs)
    (h : ∀ i x, xs[i]? = some x → ∃ e1, asgT t x e = some e1 ∧ wipeE e1 own = e ∧ condM (evs P cond) e1 = some (c i, e1) ∧ (c i = true → frzM (ev P elt).val e1 = some (g i, e1))) :
    (ev P (.lc t k its cond elt own)).val e = some (.l (((List.range xs.length).filter c).map g), e) := by
  have := lcLoop_at (t := t) (own := own) (ps := ps) (e := e) (e0 := e) (M1 := evs P cond) (M2 := ev P elt) c g still_self xs 0 (by simpa using h)
  rw [ev_lc, lcM_of h1 h2 h3 (by rw [hw]; exact still_self) (by rw [hw]; exact this), rest_self hw]
  simp
theorem lc_at0 (g : Nat → D) (hw : wipeE e own = e) (h1 : opsM (evs P its) e = some (ps, e)) (h2 : gets e ps = some ds) (h3 : itemsOf k ds = some xs)
    (h : ∀ i x, xs[i]? = some x → ∃ e1, asgT t x e = some e1 ∧ wipeE e1 own = e ∧ frzM (ev P elt).val e1 = some (g i, e1)) :
    (ev P (.lc t k its [] elt own)).val e = some (.l ((List.range xs.length).map g), e) := by
  have := lc_at (cond := []) (fun _ => true) g hw h1 h2 h3 fun i x hx => by
    obtain ⟨e1, a, b, c⟩ := h i x hx
    exact ⟨e1, a, b, by rw [evs_nil]; rfl, fun _ => c⟩
  rw [List.filter_eq_self.mpr (fun _ _ => rfl)] at this
  exact this
end
theorem enumL_at : ∀ {xs : List D} {k i : Nat} {x : D}, (enumL xs k)[i]? = some x → ∃ y, xs[i]? = some y ∧ x = .tuple [.int ((k + i : Nat) : Int), y]
  | [], k, i, x, h => by simp [enumL] at h
  | y :: ys, k, 0, x, h => by
    simp [enumL] at h
    exact ⟨y, by simp, by subst h; simp⟩
  | y :: ys, k, i + 1, x, h => by
    simp only [enumL, List.getElem?_cons_succ] at h
    obtain ⟨z, h1, h2⟩ := enumL_at h
    refine ⟨z, by simpa using h1, ?_⟩
    have e : k + 1 + i = k + (i + 1) := by omega
    rw [h2, e]
/-! and, or, item by item -/
theorem or_T {a b : M} {r : List M} {e e1 : En} (h : a.tst e = some (true, e1)) : bopT .Or (a :: b :: r) e = some (true, e1) := by rw [bopT_2, h]; rfl
theorem or_F {a b : M} {r : List M} {e e1 : En} {q : Option (Bool × En)} (h : a.tst e = some (false, e1)) (g : bopT .Or (b :: r) e1 = q) : bopT .Or (a :: b :: r) e = q := by rw [bopT_2, h]; exact g
theorem or_1 {a : M} {e : En} {q : Option (Bool × En)} (h : a.tst e = q) : bopT .Or [a] e = q := h
theorem and_T {a b : M} {r : List M} {e e1 : En} {q : Option (Bool × En)} (h : a.tst e = some (true, e1)) (g : bopT .And (b :: r) e1 = q) : bopT .And (a :: b :: r) e = q := by rw [bopT_2, h]; exact g
theorem and_F {a b : M} {r : List M} {e e1 : En} (h : a.tst e = some (false, e1)) : bopT .And (a :: b :: r) e = some (false, e1) := by rw [bopT_2, h]; rfl
theorem and_1 {a : M} {e : En} {q : Option (Bool × En)} (h : a.tst e = q) : bopT .And [a] e = q := h
theorem bop_tst {P : Ph} {o : BoolOp} {es : List E} {e : En} {q : Option (Bool × En)} (h : bopT o (evs P es) e = q) : (ev P (.bop o es)).tst e = q := by rw [ev_bop, bopM_tst, h]
theorem not_tst {P : Ph} {a : E} {e e1 : En} {b : Bool} (h : (ev P a).tst e = some (b, e1)) : (ev P (.not a)).tst e = some (!b, e1) := by rw [ev_not, notM_tst, h]; rfl
/-- the law's drawing -/
theorem draw_okW {es : List Entry} {j : Nat} (h : es[j]? = some (.prim 1 primDraw)) {d : Nat} (hd : 2 ≤ d) (cs : List Int) (a b m : Int) (hm : 0 < m) (hm2 : m.natAbs < 2 ^ 8000) : ∃ (x : Int) (cs2 : List Int) (a2 b2 : Int), retB (callN (tbOf es) d) j [.bx cs [a, b], .v (.int m)] = some (.v (.int x), .bx cs2 [a2, b2]) ∧ 0 ≤ x ∧ x < m := by
  obtain ⟨d, rfl⟩ : ∃ d', d = d' + 1 := ⟨d - 1, by omega⟩
  have dv : divOk m := ⟨hm, by
    have h0 : m.natAbs ≠ 0 := by omega
    have := (Nat.log2_lt h0).mpr hm2
    omega⟩
  have e : retB (callN (tbOf es) (d + 1)) j [.bx cs [a, b], .v (.int m)] = some (.v (.int (boxTake cs a b m).1), .bx (boxTake cs a b m).2.1 [(boxTake cs a b m).2.2.1, (boxTake cs a b m).2.2.2]) := by
    unfold retB
    rw [call_prim (m := 1) (g := primDraw) h (by omega)]
    simp [primDraw, dv]
  refine ⟨_, _, _, _, e, ?_⟩
  unfold boxTake
  split
  · exact ⟨Int.emod_nonneg _ (by omega), Int.emod_lt_of_pos _ hm⟩
  · exact ⟨Int.emod_nonneg _ (by omega), Int.emod_lt_of_pos _ hm⟩
theorem draw_ok {es : List Entry} {j : Nat} (h : es[j]? = some (.prim 1 primDraw)) {d : Nat} (hd : 2 ≤ d) (cs : List Int) (a b m : Int) (hm : 0 < m) (hm2 : m ≤ 1000000000000000000) : ∃ (x : Int) (cs2 : List Int) (a2 b2 : Int), retB (callN (tbOf es) d) j [.bx cs [a, b], .v (.int m)] = some (.v (.int x), .bx cs2 [a2, b2]) ∧ 0 ≤ x ∧ x < m :=
  draw_okW h hd cs a b m hm (Nat.lt_of_lt_of_le (show m.natAbs < 2 ^ 64 by omega) (Nat.pow_le_pow_right (by decide) (by decide)))
end Mini

namespace Mini
open PySem PySem.Spec L2
/-! rows of numbers from nought on, and judges of any value -/
def isNum (lo hi : Int) : D → Bool
  | .int i => decide (lo ≤ i) && decide (i ≤ hi)
  | _ => false
def AllInt (xs : List D) : Prop := ∀ x ∈ xs, ∃ i, x = .int i
theorem allInt_shaped {xs : List D} (h : AllInt xs) : SeqAt.shaped (.tuple xs) = true := by
  have key : ∀ ds : List D, AllInt ds → PyData.canLayAll0 ds = true ∧ PyData.depthAll ds ≤ 1 := by
    intro ds
    induction ds with
    | nil => intro _; exact ⟨rfl, by simp [PyData.depthAll]⟩
    | cons x xs ih =>
      intro h
      obtain ⟨h1, h2⟩ := ih fun y hy => h y (List.mem_cons_of_mem _ hy)
      obtain ⟨a, rfl⟩ := h x List.mem_cons_self
      refine ⟨by simp [PyData.canLayAll0, PyData.canLay0, h1], ?_⟩
      simp only [PyData.depthAll, PyData.depth]
      omega
  obtain ⟨h1, h2⟩ := key xs h
  simp [SeqAt.shaped, PyData.canLay0, PyData.depth, h1]
  omega
theorem AllInt.sub {xs ys : List D} (h : AllInt xs) (s : ∀ y ∈ ys, y ∈ xs) : AllInt ys := fun y hy => h y (s y hy)
theorem mx_eq (day k : Nat) : max (0 : Int) ((day : Int) - (k : Int) + 1) = ((day + 1 - k : Nat) : Int) := by omega
theorem in_tup {a : D} {ds : List D} (h : SeqAt.shaped a = true) (h2 : SeqAt.shaped (.tuple ds) = true) : cmpD .In a (.tuple ds) = some (.v (.bool (ds.any fun z => PyData.eqv z a))) := by
  cases a <;> simp only [cmpD, h, h2, and_self, if_true, b2s]
theorem notin_tup {a : D} {ds : List D} (h : SeqAt.shaped a = true) (h2 : SeqAt.shaped (.tuple ds) = true) : cmpD .NotIn a (.tuple ds) = some (.v (.bool (!ds.any fun z => PyData.eqv z a))) := by
  cases a <;> simp only [cmpD, h, h2, and_self, if_true, b2s]
theorem isNum_int {lo hi : Int} {x : D} (h : isNum lo hi x = true) : ∃ i, x = .int i ∧ lo ≤ i ∧ i ≤ hi := by
  cases x with
  | int i => simp [isNum] at h; exact ⟨i, rfl, h⟩
  | _ => simp [isNum] at h
theorem all_int {lo hi : Int} {xs : List D} (h : xs.all (isNum lo hi) = true) : AllInt xs := fun x hx => by
  obtain ⟨i, e, _⟩ := isNum_int (List.all_eq_true.mp h x hx)
  exact ⟨i, e⟩
theorem isi_dict (b : List (D × D)) (t : Ty) : isiD (.dict b) t = false := by cases t <;> rfl
abbrev I (n : Nat) : D := .int (n : Int)
abbrev IL (r : List Nat) : List D := r.map fun x => I x
abbrev enc (r : List Nat) : D := .tuple (IL r)
theorem IL_int (r : List Nat) : AllInt (IL r) := fun x hx => by
  obtain ⟨a, _, rfl⟩ := List.mem_map.mp hx
  exact ⟨_, rfl⟩
theorem eqv_I (a b : Nat) : PyData.eqv (I a) (I b) = (a == b) := by
  show PyData.eqv (.int (a : Int)) (.int (b : Int)) = _
  by_cases h : a = b
  · simp [PyData.eqv, h]
  · have h2 : ¬ (a : Int) = b := by omega
    simp only [PyData.eqv]
    rw [beq_eq_false_iff_ne.mpr h, beq_eq_false_iff_ne.mpr h2]
theorem any_I (r : List Nat) (x : Nat) : ((IL r).any fun z => PyData.eqv z (I x)) = r.contains x := by
  induction r with
  | nil => rfl
  | cons a r ih =>
    simp only [List.map_cons, List.any_cons, ih, eqv_I, List.contains_cons]
    have h : (a == x) = (x == a) := BEq.comm
    rw [h]
theorem shaped_list {xs : List D} (h : SeqAt.shaped (.tuple xs) = true) : SeqAt.shaped (.list xs) = true := by
  simpa [SeqAt.shaped, PyData.canLay0, PyData.depth] using h
theorem idx_I (x : Nat) : ∀ (cs : List Nat) (j k : Nat), cs.Nodup → cs[j]? = some x → idxOf (I x) (IL cs) k = some (k + j)
  | [], j, k, _, h => by simp at h
  | c :: cs, 0, k, _, h => by
    have : c = x := by simpa using h
    subst this
    simp [idxOf, eqv_I]
  | c :: cs, j + 1, k, nd, h => by
    have hj : cs[j]? = some x := by simpa using h
    have hm := List.mem_of_getElem? hj
    have hn : c ≠ x := fun z => (List.nodup_cons.mp nd).1 (z ▸ hm)
    have ih := idx_I x cs j (k + 1) (List.nodup_cons.mp nd).2 hj
    have e : PyData.eqv (I c) (I x) = false := by rw [eqv_I]; exact beq_eq_false_iff_ne.mpr hn
    show (if PyData.eqv (I c) (I x) = true then some k else idxOf (I x) (IL cs) (k + 1)) = _
    rw [e, if_neg (by decide), ih]
    congr 1; omega
inductive Gb : Nat → D → Prop
  | none (n : Nat) : Gb n .none
  | bool (n : Nat) (b : Bool) : Gb n (.bool b)
  | int (n : Nat) (i : Int) (h : i.natAbs < 2 ^ 1000) : Gb n (.int i)
  | str (n : Nat) (s : Str) : Gb n (.str s)
  | tuple (n : Nat) (xs : List D) (h : xs.length ≤ 1000) (h2 : ∀ x ∈ xs, Gb n x) : Gb (n + 1) (.tuple xs)
theorem pick_ok (P : Ph) (e : En) (xs : List E) (ds : List D) (p : Int) (i : Nat) (hs : e[i]? = some (.v (.int p))) (ha : argsM (evs P xs) e = some (ds, e)) (hl : ds.length ≤ 1000) (h0 : 0 ≤ p) (h1 : p < ds.length) : ∃ d, d ∈ ds ∧ (ev P (.idx (.lst xs) (.var i))).val e = some (.v d, e) := by
  obtain ⟨d, h2, h3⟩ := at_ex ds p h0 h1
  have hz : ds.length ≤ sizeLine := size_ok (by unfold capL; omega)
  exact ⟨d, h3, by simp [ha, hs, hz, h2]⟩
theorem cutD_len (xs : List D) (lo hi : Option Int) : (cutD xs lo hi).length ≤ xs.length := by
  unfold cutD
  rw [List.length_take, List.length_drop]; omega
theorem Gb.facts {n : Nat} {v : D} (g : Gb n v) : (∀ b, v ≠ .list b) ∧ (∀ b, v ≠ .dict b) ∧ (∀ i, v = .int i → i.natAbs < 2 ^ 1000) ∧ (∀ xs, v = .tuple xs → xs.length ≤ 1000) := by
  cases g with
  | none => exact ⟨nofun, nofun, nofun, nofun⟩
  | bool => exact ⟨nofun, nofun, nofun, nofun⟩
  | str => exact ⟨nofun, nofun, nofun, nofun⟩
  | int n i h => exact ⟨nofun, nofun, fun j e => by cases e; exact h, nofun⟩
  | tuple n xs h h2 => exact ⟨nofun, nofun, nofun, fun ys e => by cases e; exact h⟩
theorem lay_IL : ∀ r : List Nat, PyData.canLayAll0 (IL r) = true ∧ PyData.depthAll (IL r) ≤ 1
  | [] => ⟨rfl, by simp [PyData.depthAll]⟩
  | a :: r => by
    have h1 : PyData.canLayAll0 (r.map fun x => I x) = true := (lay_IL r).1
    have h2 : PyData.depthAll (r.map fun x => I x) ≤ 1 := (lay_IL r).2
    refine ⟨by simp [PyData.canLayAll0, PyData.canLay0] at h1 ⊢; exact h1, ?_⟩
    simp only [List.map_cons, PyData.depthAll, PyData.depth]
    omega
theorem lay_rows : ∀ rs : List (List Nat), PyData.canLayAll0 (rs.map enc) = true ∧ PyData.depthAll (rs.map enc) ≤ 2
  | [] => ⟨rfl, by simp [PyData.depthAll]⟩
  | r :: rs => by
    obtain ⟨h1, h2⟩ := lay_rows rs
    obtain ⟨h3, h4⟩ := lay_IL r
    refine ⟨?_, ?_⟩
    · simp only [List.map_cons, PyData.canLayAll0, PyData.canLay0, h1, h3, Bool.and_self]
    · simp only [List.map_cons, PyData.depthAll, PyData.depth]
      omega
theorem sh_rows (rs : List (List Nat)) : SeqAt.shaped (.list (rs.map enc)) = true := by
  obtain ⟨h1, h2⟩ := lay_rows rs
  simp [SeqAt.shaped, PyData.canLay0, PyData.depth, h1]
  omega
theorem big {i : Nat} (h : i < 1000) : ((i : Nat) : Int).natAbs < 2 ^ 1000 := by
  have : (2 : Nat) ^ 10 ≤ 2 ^ 1000 := Nat.pow_le_pow_right (by decide) (by decide)
  omega
theorem gb_enc (r : List Nat) (hl : r.length ≤ 1000) (h : ∀ x ∈ r, x < 1000) : Gb 1 (enc r) := .tuple _ _ (by simpa using hl) fun x hx => by
  obtain ⟨i, hi, rfl⟩ := List.mem_map.mp hx
  exact .int _ _ (big (h i hi))
theorem flat_rep : ∀ n : Nat, (List.replicate n [(.int 0 : D)]).flatten = IL (List.replicate n 0)
  | 0 => rfl
  | n + 1 => by rw [List.replicate_succ, List.flatten_cons, flat_rep n]; rfl
theorem rep_int (n : Nat) (h : 2 ≤ n) (h2 : n ≤ 1000) : binD .Mult (.tuple [.int 0]) (.int (n : Int)) = some (.v (enc (List.replicate n 0))) := by
  have h3 : 2 ≤ (n : Int) := by omega
  have h4 : (n : Int) ≤ 1000 := by omega
  simp only [binD]
  rw [if_pos ⟨by simp, h3, h4, by simp⟩, Int.toNat_natCast, flat_rep]
theorem at_neg1 (xs : List D) (h : 1 ≤ xs.length) : atI xs (-1) = xs[xs.length - 1]? := by
  have h1 : ¬ (0 : Int) ≤ -1 := by decide
  have h2 : -(xs.length : Int) ≤ -1 := by omega
  have h3 : ((-1 : Int) + xs.length).toNat = xs.length - 1 := by omega
  unfold atI ixN
  rw [if_neg h1, if_pos h2, Option.bind_some, h3]
theorem filt_rng {α : Type} (p : α → Bool) (d : α) (l : List α) : ((List.range l.length).filter fun i => p (l.getD i d)).map (fun i => l.getD i d) = l.filter p := by
  have e : (List.range l.length).map (fun i => l.getD i d) = l := by
    apply List.ext_getElem?
    intro i
    rw [List.getElem?_map]
    by_cases h : i < l.length
    · rw [List.getElem?_range h, Option.map_some, List.getD_eq_getElem?_getD, List.getElem?_eq_getElem h]; rfl
    · rw [List.getElem?_eq_none (by simpa using h), List.getElem?_eq_none (by omega)]; rfl
  conv => rhs; rw [← e]
  rw [List.filter_map]; rfl
theorem ne_I (a b : Nat) : cmpD .NotEq (I a) (I b) = some (.v (.bool (!(a == b)))) := by
  rw [cmp_neS rfl rfl, eqv_I]
/-- a value that a judge took for ints in bounds is a row of numbers -/
theorem row_of {lo hi : Int} (h0 : 0 ≤ lo) : ∀ {xs : List D}, xs.all (isNum lo hi) = true → ∃ r : List Nat, xs = IL r ∧ ∀ x ∈ r, (x : Int) ≤ hi
  | [], _ => ⟨[], rfl, by simp⟩
  | x :: xs, h => by
    rw [List.all_cons, Bool.and_eq_true] at h
    obtain ⟨i, e, h1, h2⟩ := isNum_int h.1
    obtain ⟨r, e2, h3⟩ := row_of h0 h.2
    refine ⟨i.toNat :: r, ?_, ?_⟩
    · have : I i.toNat = .int i := by show PyData.int _ = _; rw [Int.toNat_of_nonneg (by omega)]
      show _ = I i.toNat :: IL r
      rw [e, e2, this]
    · intro y hy
      rcases List.mem_cons.mp hy with rfl | hy
      · omega
      · exact h3 y hy
theorem ne_self (rs : List (List Nat)) : cmpD .NotEq (.list (rs.map enc)) (.list (rs.map enc)) = some (.v (.bool false)) := by
  rw [cmp_neS (sh_rows rs) (sh_rows rs), SeqAt.eqv_refl _ (SeqAt.canLay_of_shaped (sh_rows rs))]; rfl
theorem getI {r : List Nat} {i : Nat} (h : i < r.length) : atI (IL r) (i : Int) = some (I (r.getD i 0)) := at_nth _ i _ (by rw [List.getElem?_map, List.getD_eq_getElem?_getD, List.getElem?_eq_getElem h]; rfl)
theorem ints_IL (r : List Nat) : intsL (IL r) = some (r.map fun (x : Nat) => (x : Int)) := intsL_map (fun x : Nat => (x : Int)) r
end Mini

namespace Mini
open PySem PySem.Spec L2
/-! what the evaluator computes, told by typed functions: encoders -/
abbrev eI : Int → D := PyData.int
abbrev eB : Bool → D := PyData.bool
abbrev eS : Str → D := PyData.str
abbrev eD : D → D := fun d => d
abbrev eT {α : Type} (e : α → D) (xs : List α) : D := .tuple (xs.map e)
abbrev eL {α : Type} (e : α → D) (xs : List α) : D := .list (xs.map e)
abbrev eP2 {α β : Type} (a : α → D) (b : β → D) (p : α × β) : D := .tuple [a p.1, b p.2]
abbrev eP3 {α β γ : Type} (a : α → D) (b : β → D) (c : γ → D) (p : α × β × γ) : D := .tuple [a p.1, b p.2.1, c p.2.2]
abbrev eP4 {α β γ δ : Type} (a : α → D) (b : β → D) (c : γ → D) (d : δ → D) (p : α × β × γ × δ) : D := .tuple [a p.1, b p.2.1, c p.2.2.1, d p.2.2.2]
abbrev eP5 {α β γ δ ε : Type} (a : α → D) (b : β → D) (c : γ → D) (d : δ → D) (f : ε → D) (p : α × β × γ × δ × ε) : D := .tuple [a p.1, b p.2.1, c p.2.2.1, d p.2.2.2.1, f p.2.2.2.2]
def eO {α : Type} (e : α → D) : Option α → D
  | none => .none
  | some x => e x
abbrev Bx := List Int × List Int
/-! taking apart -/
def lt {α β : Type} (x : α) (f : α → β) : β := f x
theorem lt_eq {α β : Type} (x : α) (f : α → β) : lt x f = f x := rfl
section
variable {α β : Type} {G : Prop}
theorem ob {o : Option α} {f : α → Option β} {r : β} (h : o.bind f = some r) (k : ∀ x, o = some x → f x = some r → G) : G := by
  cases o with
  | none => cases h
  | some x => exact k x rfl h
theorem ltE {x : α} {f : α → Option β} {r : β} (h : lt x f = some r) (k : ∀ y, y = x → f y = some r → G) : G := k x rfl h
theorem ifE {c : Bool} {a b : Option β} {r : β} (h : (if c then a else b) = some r) (h1 : c = true → a = some r → G) (h2 : c = false → b = some r → G) : G := by
  cases c with
  | true => exact h1 rfl h
  | false => exact h2 rfl h
theorem ifT {c : Bool} {a b : Option β} {r : Option β} (h : (if c then a else b) = r) (hc : c = true) : a = r := by subst hc; exact h
theorem ifF {c : Bool} {a b : Option β} {r : Option β} (h : (if c then a else b) = r) (hc : c = false) : b = r := by subst hc; exact h
end
/-! loops of their own -/
section
variable {α β S R : Type}
def mapO (f : α → Option β) : List α → Option (List β)
  | [] => some []
  | x :: xs => (f x).bind fun y => (mapO f xs).bind fun ys => some (y :: ys)
def fmapO (f : α → Option (Option β)) : List α → Option (List β)
  | [] => some []
  | x :: xs => (f x).bind fun y => (fmapO f xs).bind fun ys => some (match y with | some y => y :: ys | none => ys)
def mapS (f : α → S → Option (β × S)) : List α → S → Option (List β × S)
  | [], s => some ([], s)
  | x :: xs, s => (f x s).bind fun p => (mapS f xs p.2).bind fun q => some (p.1 :: q.1, q.2)
def fmapS (f : α → S → Option (Option β × S)) : List α → S → Option (List β × S)
  | [], s => some ([], s)
  | x :: xs, s => (f x s).bind fun p => (fmapS f xs p.2).bind fun q => some (match p.1 with | some y => (y :: q.1, q.2) | none => (q.1, q.2))
def forO (f : α → S → Option S) : List α → S → Option S
  | [], s => some s
  | x :: xs, s => (f x s).bind fun t => forO f xs t
inductive Fl (S R : Type) where
  | nx (s : S) | bk (s : S) | rt (r : R)
def forF (f : α → S → Option (Fl S R)) : List α → S → Option (Fl S R)
  | [], s => some (.nx s)
  | x :: xs, s => (f x s).bind fun t => match t with
    | .nx t => forF f xs t
    | .bk t => some (.nx t)
    | .rt r => some (.rt r)
def whNF (c : S → Option Bool) (f : S → Option (Fl S R)) : Nat → S → Option (Fl S R)
  | 0, _ => none
  | n + 1, s => (c s).bind fun b => if b then (f s).bind fun t => match t with
      | .nx t => whNF c f n t
      | .bk t => some (.nx t)
      | .rt r => some (.rt r)
    else some (.nx s)
open Classical in
noncomputable def whF (c : S → Option Bool) (f : S → Option (Fl S R)) (s : S) : Option (Fl S R) :=
  if h : ∃ n r, whNF c f n s = some r then some h.choose_spec.choose else none
def whNO (c : S → Option Bool) (f : S → Option S) : Nat → S → Option S
  | 0, _ => none
  | n + 1, s => (c s).bind fun b => if b then (f s).bind fun t => whNO c f n t else some s
open Classical in
noncomputable def whO (c : S → Option Bool) (f : S → Option S) (s : S) : Option S :=
  if h : ∃ n r, whNO c f n s = some r then some h.choose_spec.choose else none
theorem whO_some {c : S → Option Bool} {f : S → Option S} {s r : S} (h : whO c f s = some r) : ∃ n, whNO c f n s = some r := by
  unfold whO at h
  split at h
  · rename_i hh; cases h; exact ⟨_, hh.choose_spec.choose_spec⟩
  · cases h
theorem whNO_mono {c : S → Option Bool} {f : S → Option S} : ∀ {n m : Nat} {s r : S}, whNO c f n s = some r → n ≤ m → whNO c f m s = some r
  | 0, _, _, _, h, _ => by cases h
  | n + 1, 0, _, _, _, l => by omega
  | n + 1, m + 1, s, r, h, l => by
    unfold whNO at h ⊢
    refine ob h fun b hb h => ?_
    rw [hb, Option.bind_some]
    cases b with
    | false => exact h
    | true =>
      rw [if_pos rfl] at h ⊢
      refine ob h fun t ht h => ?_
      rw [ht, Option.bind_some]
      exact whNO_mono h (by omega)
theorem whO_of {c : S → Option Bool} {f : S → Option S} {s r : S} {n : Nat} (h : whNO c f n s = some r) : whO c f s = some r := by
  have hh : ∃ n r, whNO c f n s = some r := ⟨n, r, h⟩
  unfold whO
  rw [dif_pos hh]
  have h3 := whNO_mono h (Nat.le_max_left n hh.choose)
  have h4 := whNO_mono hh.choose_spec.choose_spec (Nat.le_max_right n hh.choose)
  rw [h3] at h4
  exact h4.symm
theorem whO_end {c : S → Option Bool} {f : S → Option S} {s : S} (h : c s = some false) : whO c f s = some s := whO_of (n := 1) (by simp [whNO, h])
theorem whO_step {c : S → Option Bool} {f : S → Option S} {s t r : S} (h : c s = some true) (hf : f s = some t) (g : whO c f t = some r) : whO c f s = some r := by
  obtain ⟨n, hn⟩ := whO_some g
  exact whO_of (n := n + 1) (by simp [whNO, h, hf, hn])
theorem whF_some {c : S → Option Bool} {f : S → Option (Fl S R)} {s : S} {r : Fl S R} (h : whF c f s = some r) : ∃ n, whNF c f n s = some r := by
  unfold whF at h
  split at h
  · rename_i hh; cases h; exact ⟨_, hh.choose_spec.choose_spec⟩
  · cases h
theorem whNF_mono {c : S → Option Bool} {f : S → Option (Fl S R)} : ∀ {n m : Nat} {s : S} {r : Fl S R}, whNF c f n s = some r → n ≤ m → whNF c f m s = some r
  | 0, _, _, _, h, _ => by cases h
  | n + 1, 0, _, _, _, l => by omega
  | n + 1, m + 1, s, r, h, l => by
    unfold whNF at h ⊢
    refine ob h fun b hb h => ?_
    rw [hb, Option.bind_some]
    cases b with
    | false => exact h
    | true =>
      rw [if_pos rfl] at h ⊢
      refine ob h fun t ht h => ?_
      rw [ht, Option.bind_some]
      cases t with
      | nx t => exact whNF_mono h (by omega)
      | bk t => exact h
      | rt r => exact h
theorem whF_of {c : S → Option Bool} {f : S → Option (Fl S R)} {s : S} {r : Fl S R} {n : Nat} (h : whNF c f n s = some r) : whF c f s = some r := by
  have hh : ∃ n r, whNF c f n s = some r := ⟨n, r, h⟩
  unfold whF
  rw [dif_pos hh]
  have h3 := whNF_mono h (Nat.le_max_left n hh.choose)
  have h4 := whNF_mono hh.choose_spec.choose_spec (Nat.le_max_right n hh.choose)
  rw [h3] at h4
  exact h4.symm
theorem whF_end {c : S → Option Bool} {f : S → Option (Fl S R)} {s : S} (h : c s = some false) : whF c f s = some (.nx s) := whF_of (n := 1) (by simp [whNF, h])
theorem whF_step {c : S → Option Bool} {f : S → Option (Fl S R)} {s t : S} {r : Fl S R} (h : c s = some true) (hf : f s = some (.nx t)) (g : whF c f t = some r) : whF c f s = some r := by
  obtain ⟨n, hn⟩ := whF_some g
  exact whF_of (n := n + 1) (by simp [whNF, h, hf, hn])
theorem whF_bk {c : S → Option Bool} {f : S → Option (Fl S R)} {s t : S} (h : c s = some true) (hf : f s = some (.bk t)) : whF c f s = some (.nx t) := whF_of (n := 1) (by simp [whNF, h, hf])
theorem whF_rt {c : S → Option Bool} {f : S → Option (Fl S R)} {s : S} {r : R} (h : c s = some true) (hf : f s = some (.rt r)) : whF c f s = some (.rt r) := whF_of (n := 1) (by simp [whNF, h, hf])
/-! typed operations -/
def gI (xs : List α) (i : Int) : Option α := (ixN xs.length i).bind fun k => xs[k]?
def cutG (xs : List α) (lo hi : Option Int) : List α := (xs.drop (HT.sIx xs.length 0 lo)).take (HT.sIx xs.length xs.length hi - HT.sIx xs.length 0 lo)
def setI (xs : List α) (k : Int) (v : α) : Option (List α) := (ixN xs.length k).map fun j => xs.set j v
def appX (xs : List α) (x : α) : Option (List α) := if xs.length < sizeLine then some (xs ++ [x]) else none
def catO (xs ys : List α) : Option (List α) := if xs.length + ys.length ≤ sizeLine then some (xs ++ ys) else none
def catS (xs ys : Str) : Option Str := if xs.length + ys.length ≤ sizeLine then some (xs ++ ys) else none
def mulI (x y : Int) : Option Int := if mulOk x y then some (x * y) else none
def mulA (x y : Int) : Option Int := if CMul x y then some (x * y) else none
def divI (x y : Int) : Option Int := if divOk y then some (x / y) else none
def modI (x y : Int) : Option Int := if 0 < y then some (x % y) else none
def powI (x y : Int) : Option Int := if powOk x y then some (x ^ y.toNat) else none
def repL (xs : List α) (k : Int) : Option (List α) := if -(2 ^ 63) ≤ k ∧ k < 2 ^ 63 ∧ xs.length * k.toNat ≤ sizeLine then some (List.replicate k.toNat xs).flatten else none
def repT (xs : List α) (k : Int) : Option (List α) := if xs ≠ [] ∧ 0 ≤ k ∧ k ≤ 1000 ∧ xs.length ≤ 1000 then some (List.replicate k.toNat xs).flatten else none
def rngI (a : Int) (n : Nat) : List Int := (List.range n).map fun (i : Nat) => a + i
def rng1 (n : Int) : Option (List Int) := if rngOk n ∧ n ≤ sizeLine then some (rngI 0 n.toNat) else none
def rng2 (a b : Int) : Option (List Int) := if rngOk a ∧ rngOk b ∧ b - a ≤ sizeLine then some (rngI a (b - a).toNat) else none
def rgv1 (n : Int) : Option (List Int) := if RgOk 0 n then some (rngI 0 n.toNat) else none
def rgv2 (a b : Int) : Option (List Int) := if RgOk a b then some (rngI a (b - a).toNat) else none
def popO (xs : List α) : Option (α × List α) := xs.getLast?.map fun x => (x, xs.dropLast)
def enumF : List α → Nat → List (Int × α)
  | [], _ => []
  | x :: r, k => ((k : Int), x) :: enumF r (k + 1)
def enumS (xs : List α) : List (Int × α) := enumF xs 0
def eqD (a b : D) : Option Bool := if SeqAt.shaped a = true ∧ SeqAt.shaped b = true then some (PyData.eqv a b) else none
def inD (a : D) (ds : List D) : Option Bool := if SeqAt.shaped a = true ∧ SeqAt.shaped (.tuple ds) = true then some (ds.any fun z => PyData.eqv z a) else none
def lsetO (xs : List Int) : Option Int := if xs.length ≤ 1000 then some (sset xs).length else none
def ssetO (xs : List Int) : Option (List Int) := if xs.length < 64 then some (sset xs) else none
def strI (i : Int) : Option Str := if i.natAbs.log2 < 1920 then some (toString i) else none
def lenS (s : Str) : Option Int := if s.length ≤ sizeLine then some s.length else none
def tstS (s : Str) : Option Bool := if s.length ≤ sizeLine then some ((s.length : Int) != 0) else none
def upperO (s : Str) : Option Str := if s.length ≤ 5592405 then some (Txt.upper s) else none
end
/-! reading back -/
def decI : D → Option Int
  | .int i => some i
  | _ => none
def decB : D → Option Bool
  | .bool b => some b
  | _ => none
def decS : D → Option Str
  | .str s => some s
  | _ => none
def decD : D → Option D := some
def decT {α : Type} (f : D → Option α) : D → Option (List α)
  | .tuple xs => mapO f xs
  | _ => none
def decL {α : Type} (f : D → Option α) : D → Option (List α)
  | .list xs => mapO f xs
  | _ => none
def decTD : D → Option (List D)
  | .tuple xs => some xs
  | _ => none
def decLD : D → Option (List D)
  | .list xs => some xs
  | _ => none
def decO {α : Type} (f : D → Option α) : D → Option (Option α)
  | .none => some none
  | d => (f d).map some
def decP2 {α β : Type} (f : D → Option α) (g : D → Option β) : D → Option (α × β)
  | .tuple [a, b] => (f a).bind fun x => (g b).bind fun y => some (x, y)
  | _ => none
def decP3 {α β γ : Type} (f : D → Option α) (g : D → Option β) (k : D → Option γ) : D → Option (α × β × γ)
  | .tuple [a, b, c] => (f a).bind fun x => (g b).bind fun y => (k c).bind fun z => some (x, y, z)
  | _ => none
def decP4 {α β γ δ : Type} (f : D → Option α) (g : D → Option β) (k : D → Option γ) (l : D → Option δ) : D → Option (α × β × γ × δ)
  | .tuple [a, b, c, d] => (f a).bind fun x => (g b).bind fun y => (k c).bind fun z => (l d).bind fun u => some (x, y, z, u)
  | _ => none
def DecOk {α : Type} (f : D → Option α) (e : α → D) : Prop := ∀ {d : D} {x : α}, f d = some x → d = e x
theorem decI_ok : DecOk decI eI := fun {d x} h => by cases d <;> first | cases h; rfl | cases h
theorem decB_ok : DecOk decB eB := fun {d x} h => by cases d <;> first | cases h; rfl | cases h
theorem decS_ok : DecOk decS eS := fun {d x} h => by cases d <;> first | cases h; rfl | cases h
theorem decD_ok : DecOk decD eD := fun {d x} h => by cases h; rfl
theorem mapO_dec {α : Type} {f : D → Option α} {e : α → D} (ok : DecOk f e) : ∀ {xs : List D} {ys : List α}, mapO f xs = some ys → xs = ys.map e
  | [], ys, h => by cases h; rfl
  | x :: xs, ys, h => ob h fun y hy h => ob h fun zs hz h => by
    cases h
    rw [List.map_cons, ← ok hy, ← mapO_dec ok hz]
theorem decT_ok {α : Type} {f : D → Option α} {e : α → D} (ok : DecOk f e) : DecOk (decT f) (eT e) := fun {d x} h => by
  cases d <;> first | (show PyData.tuple _ = _; exact congrArg PyData.tuple (mapO_dec ok h)) | cases h
theorem decL_ok {α : Type} {f : D → Option α} {e : α → D} (ok : DecOk f e) : DecOk (decL f) (eL e) := fun {d x} h => by
  cases d <;> first | (show PyData.list _ = _; exact congrArg PyData.list (mapO_dec ok h)) | cases h
theorem mapD (xs : List D) : xs.map eD = xs := List.map_id' xs
theorem decTD_ok : DecOk decTD (eT eD) := fun {d x} h => by cases d <;> first | (cases h; show PyData.tuple _ = PyData.tuple (List.map eD _); rw [mapD]) | cases h
theorem decLD_ok : DecOk decLD (eL eD) := fun {d x} h => by cases d <;> first | (cases h; show PyData.list _ = PyData.list (List.map eD _); rw [mapD]) | cases h
theorem decO_ok {α : Type} {f : D → Option α} {e : α → D} (ok : DecOk f e) : DecOk (decO f) (eO e) := fun {d x} h => by
  cases d <;> first
    | (cases h; rfl)
    | (obtain ⟨y, h1, h2⟩ := Option.map_eq_some_iff.mp (show Option.map some (f _) = some x from h); cases h2; exact ok h1)
theorem decP2_ok {α β : Type} {f : D → Option α} {g : D → Option β} {a : α → D} {b : β → D} (h1 : DecOk f a) (h2 : DecOk g b) : DecOk (decP2 f g) (eP2 a b) := fun {d x} h => by
  unfold decP2 at h
  split at h
  · refine ob h fun y hy h => ob h fun z hz h => ?_
    cases h
    rw [h1 hy, h2 hz]
  · cases h
theorem decP3_ok {α β γ : Type} {f : D → Option α} {g : D → Option β} {k : D → Option γ} {a : α → D} {b : β → D} {c : γ → D} (h1 : DecOk f a) (h2 : DecOk g b) (h3 : DecOk k c) : DecOk (decP3 f g k) (eP3 a b c) := fun {d x} h => by
  unfold decP3 at h
  split at h
  · refine ob h fun y hy h => ob h fun z hz h => ob h fun u hu h => ?_
    cases h
    rw [h1 hy, h2 hz, h3 hu]
  · cases h
theorem decP4_ok {α β γ δ : Type} {f : D → Option α} {g : D → Option β} {k : D → Option γ} {l : D → Option δ} {a : α → D} {b : β → D} {c : γ → D} {e : δ → D} (h1 : DecOk f a) (h2 : DecOk g b) (h3 : DecOk k c) (h4 : DecOk l e) : DecOk (decP4 f g k l) (eP4 a b c e) := fun {d x} h => by
  unfold decP4 at h
  split at h
  · refine ob h fun y hy h => ob h fun z hz h => ob h fun u hu h => ob h fun v hv h => ?_
    cases h
    rw [h1 hy, h2 hz, h3 hu, h4 hv]
  · cases h
/-! equality of typed values -/
structure EqE {α : Type} (k : Nat) (e : α → D) : Prop where
  lay : ∀ x, (e x).canLay0 = true
  dep : ∀ x, (e x).depth ≤ k
  eq : ∀ x y, PyData.eqv (e x) (e y) = true ↔ x = y
section
variable {α β γ δ : Type}
theorem EqE.I : EqE 0 eI := ⟨fun _ => rfl, fun _ => by simp [PyData.depth], fun x y => by simp [PyData.eqv]⟩
theorem EqE.B : EqE 0 eB := ⟨fun _ => rfl, fun _ => by simp [PyData.depth], fun x y => by simp [PyData.eqv]⟩
theorem lay_map {k : Nat} {e : α → D} (h : EqE k e) : ∀ xs : List α, PyData.canLayAll0 (xs.map e) = true ∧ PyData.depthAll (xs.map e) ≤ k
  | [] => ⟨rfl, by simp [PyData.depthAll]⟩
  | x :: xs => by
    obtain ⟨h1, h2⟩ := lay_map h xs
    have h3 := h.lay x
    have h4 := h.dep x
    exact ⟨by simp only [List.map_cons, PyData.canLayAll0, h1, h3, Bool.and_self], by simp only [List.map_cons, PyData.depthAll]; omega⟩
theorem eq_map {k : Nat} {e : α → D} (h : EqE k e) : ∀ xs ys : List α, PyData.eqvAll (xs.map e) (ys.map e) = true ↔ xs = ys
  | [], [] => by simp [PyData.eqvAll]
  | [], _ :: _ => by simp [PyData.eqvAll]
  | _ :: _, [] => by simp [PyData.eqvAll]
  | x :: xs, y :: ys => by simp [PyData.eqvAll, h.eq, eq_map h xs ys]
theorem EqE.T {k : Nat} {e : α → D} (h : EqE k e) : EqE (k + 1) (eT e) := ⟨fun x => by simp only [PyData.canLay0]; exact (lay_map h x).1, fun x => by simp only [PyData.depth]; have := (lay_map h x).2; omega, fun x y => by simp only [PyData.eqv]; exact eq_map h x y⟩
theorem EqE.L {k : Nat} {e : α → D} (h : EqE k e) : EqE (k + 1) (eL e) := ⟨fun x => by simp only [PyData.canLay0]; exact (lay_map h x).1, fun x => by simp only [PyData.depth]; have := (lay_map h x).2; omega, fun x y => by simp only [PyData.eqv]; exact eq_map h x y⟩
theorem EqE.P2 {k l : Nat} {a : α → D} {b : β → D} (h : EqE k a) (g : EqE l b) : EqE (max k l + 1) (eP2 a b) := ⟨fun x => by simp [PyData.canLay0, PyData.canLayAll0, h.lay, g.lay], fun x => by
    have h1 := h.dep x.1; have h2 := g.dep x.2
    simp only [PyData.depth, PyData.depthAll]; omega, fun x y => by simp [PyData.eqv, PyData.eqvAll, h.eq, g.eq, Prod.ext_iff]⟩
theorem EqE.P3 {k l m : Nat} {a : α → D} {b : β → D} {c : γ → D} (h : EqE k a) (g : EqE l b) (i : EqE m c) : EqE (max k (max l m) + 1) (eP3 a b c) := ⟨fun x => by simp [PyData.canLay0, PyData.canLayAll0, h.lay, g.lay, i.lay], fun x => by
    have h1 := h.dep x.1; have h2 := g.dep x.2.1; have h3 := i.dep x.2.2
    simp only [PyData.depth, PyData.depthAll]; omega, fun x y => by simp [PyData.eqv, PyData.eqvAll, h.eq, g.eq, i.eq, Prod.ext_iff]⟩
theorem EqE.P4 {k l m n : Nat} {a : α → D} {b : β → D} {c : γ → D} {d : δ → D} (h : EqE k a) (g : EqE l b) (i : EqE m c) (j : EqE n d) : EqE (max k (max l (max m n)) + 1) (eP4 a b c d) := ⟨fun x => by simp [PyData.canLay0, PyData.canLayAll0, h.lay, g.lay, i.lay, j.lay], fun x => by
    have h1 := h.dep x.1; have h2 := g.dep x.2.1; have h3 := i.dep x.2.2.1; have h4 := j.dep x.2.2.2
    simp only [PyData.depth, PyData.depthAll]; omega, fun x y => by simp [PyData.eqv, PyData.eqvAll, h.eq, g.eq, i.eq, j.eq, Prod.ext_iff]⟩
theorem EqE.sh {k : Nat} {e : α → D} (h : EqE k e) (hk : k ≤ 64) (x : α) : SeqAt.shaped (e x) = true := by
  have h1 := h.lay x
  have h2 := h.dep x
  simp [SeqAt.shaped, h1]; omega
theorem EqE.dec {k : Nat} {e : α → D} [DecidableEq α] (h : EqE k e) (x y : α) : PyData.eqv (e x) (e y) = decide (x = y) := by
  by_cases q : x = y
  · rw [decide_eq_true q]; exact (h.eq x y).mpr q
  · rw [decide_eq_false q]
    cases z : PyData.eqv (e x) (e y) with
    | false => rfl
    | true => exact absurd ((h.eq x y).mp z) q
theorem cmpEq {k : Nat} {e : α → D} [DecidableEq α] (h : EqE k e) (hk : k ≤ 64) (x y : α) : cmpD .Eq (e x) (e y) = some (.v (.bool (decide (x = y)))) := by rw [cmp_eqS (h.sh hk x) (h.sh hk y), h.dec]
theorem cmpNe {k : Nat} {e : α → D} [DecidableEq α] (h : EqE k e) (hk : k ≤ 64) (x y : α) : cmpD .NotEq (e x) (e y) = some (.v (.bool (decide (x ≠ y)))) := by rw [cmp_neS (h.sh hk x) (h.sh hk y), h.dec, decide_not]
theorem in_list {a : D} {ds : List D} (h : SeqAt.shaped a = true) (h2 : SeqAt.shaped (.list ds) = true) : cmpD .In a (.list ds) = some (.v (.bool (ds.any fun z => PyData.eqv z a))) := by
  cases a <;> simp only [cmpD, h, h2, and_self, if_true, b2s]
theorem notin_list {a : D} {ds : List D} (h : SeqAt.shaped a = true) (h2 : SeqAt.shaped (.list ds) = true) : cmpD .NotIn a (.list ds) = some (.v (.bool (!ds.any fun z => PyData.eqv z a))) := by
  cases a <;> simp only [cmpD, h, h2, and_self, if_true, b2s]
theorem any_dec {k : Nat} {e : α → D} [DecidableEq α] (h : EqE k e) (x : α) (xs : List α) : ((xs.map e).any fun z => PyData.eqv z (e x)) = decide (x ∈ xs) := by
  induction xs with
  | nil => rfl
  | cons y ys ih =>
    rw [List.map_cons, List.any_cons, ih, h.dec]
    by_cases q : y = x
    · subst q; simp
    · have q' : ¬ x = y := fun z => q z.symm
      simp [q, q']
theorem inT {k : Nat} {e : α → D} [DecidableEq α] (h : EqE k e) (hk : k ≤ 63) (x : α) (xs : List α) : cmpD .In (e x) (eT e xs) = some (.v (.bool (decide (x ∈ xs)))) := by rw [in_tup (h.sh (by omega) x) (h.T.sh (by omega) xs), any_dec h]
theorem inL {k : Nat} {e : α → D} [DecidableEq α] (h : EqE k e) (hk : k ≤ 63) (x : α) (xs : List α) : cmpD .In (e x) (eL e xs) = some (.v (.bool (decide (x ∈ xs)))) := by rw [in_list (h.sh (by omega) x) (h.L.sh (by omega) xs), any_dec h]
theorem ninT {k : Nat} {e : α → D} [DecidableEq α] (h : EqE k e) (hk : k ≤ 63) (x : α) (xs : List α) : cmpD .NotIn (e x) (eT e xs) = some (.v (.bool (decide (x ∉ xs)))) := by rw [notin_tup (h.sh (by omega) x) (h.T.sh (by omega) xs), any_dec h, decide_not]
theorem ninL {k : Nat} {e : α → D} [DecidableEq α] (h : EqE k e) (hk : k ≤ 63) (x : α) (xs : List α) : cmpD .NotIn (e x) (eL e xs) = some (.v (.bool (decide (x ∉ xs)))) := by rw [notin_list (h.sh (by omega) x) (h.L.sh (by omega) xs), any_dec h, decide_not]
theorem eqD_c {a b : D} {r : Bool} (h : eqD a b = some r) : cmpD .Eq a b = some (.v (.bool r)) := by
  unfold eqD at h
  split at h
  · rename_i g; cases h; exact cmp_eqS g.1 g.2
  · cases h
theorem eqD_n {a b : D} {r : Bool} (h : eqD a b = some r) : cmpD .NotEq a b = some (.v (.bool (!r))) := by
  unfold eqD at h
  split at h
  · rename_i g; cases h; exact cmp_neS g.1 g.2
  · cases h
theorem eqD_of {k : Nat} {e : α → D} [DecidableEq α] (h : EqE k e) (hk : k ≤ 64) (x y : α) : eqD (e x) (e y) = some (decide (x = y)) := by
  unfold eqD; rw [if_pos ⟨h.sh hk x, h.sh hk y⟩, h.dec]
theorem inD_t {a : D} {ds : List D} {r : Bool} (h : inD a ds = some r) : cmpD .In a (.tuple ds) = some (.v (.bool r)) := by
  unfold inD at h
  split at h
  · rename_i g; cases h; exact in_tup g.1 g.2
  · cases h
theorem inD_l {a : D} {ds : List D} {r : Bool} (h : inD a ds = some r) : cmpD .In a (.list ds) = some (.v (.bool r)) := by
  unfold inD at h
  split at h
  · rename_i g; cases h; exact in_list g.1 (shaped_list g.2)
  · cases h
end
end Mini

namespace Mini
open PySem PySem.Spec L2
/-! expressions, by rules -/
def HV (P : Ph) (E : E) (e : En) (s : Sl) (e' : En) : Prop := (ev P E).val e = some (s, e')
def HO (P : Ph) (E : E) (e : En) (x : D) (e1 e2 : En) : Prop := ∃ p, (ev P E).opd e = some (p, e1) ∧ p.get e2 = some x
def HT (P : Ph) (E : E) (e : En) (b : Bool) (e1 : En) : Prop := (ev P E).tst e = some (b, e1)
def HF (P : Ph) (E : E) (e : En) (d : D) (e1 : En) : Prop := frzM (ev P E).val e = some (d, e1)
def HAs (P : Ph) (es : List E) (e : En) (ds : List D) (e' : En) : Prop := argsM (evs P es) e = some (ds, e')
def HOs (P : Ph) (es : List E) (e : En) (ds : List D) (e' : En) : Prop := ∃ ps, opsM (evs P es) e = some (ps, e') ∧ gets e' ps = some ds
def HOw (P : Ph) (es : List E) (e : En) (ds : List D) (e' : En) (W : En → Prop) : Prop := ∃ ps, opsM (evs P es) e = some (ps, e') ∧ gets e' ps = some ds ∧ ∀ e2, W e2 → stillB e' e2 ps
def HFs (P : Ph) (es : List E) (e : En) (ds : List D) (e' : En) : Prop := opsM ((evs P es).map frO) e = some (ds.map .d, e')
def HP (P : Ph) (es : List E) (e : En) (i : Option Int) (e' : En) : Prop := partM (evs P es) e = some (i, e')
def HB (P : Ph) (o : BoolOp) (es : List E) (e : En) (b : Bool) (e1 : En) : Prop := bopT o (evs P es) e = some (b, e1)
def HBV (P : Ph) (o : BoolOp) (es : List E) (e : En) (d : D) (e1 : En) : Prop := bopV o (evs P es) e = some (d, e1)
def isVar : E → Bool
  | .var _ => true
  | _ => false
def tK : E → Nat
  | .cmp .. => 1
  | .chn .. => 1
  | .isn .. => 1
  | .isi .. => 1
  | .isb .. => 1
  | .bop .. => 2
  | .not .. => 2
  | .ite .. => 2
  | _ => 0
theorem ofV (P : Ph) : ∀ (A : E) (e : En), isVar A = false → (ev P A).opd e = (frzM (ev P A).val e).map fun r => (.d r.1, r.2)
  | .var i, e, h => by cases h
  | .cst d, e, _ => by rw [ev_cst]; rfl
  | .bin .., e, _ => by rw [ev_bin]; rfl
  | .neg .., e, _ => by rw [ev_neg]; rfl
  | .cmp .., e, _ => by rw [ev_cmp]; rfl
  | .chn .., e, _ => by rw [ev_chn]; rfl
  | .isn .., e, _ => by rw [ev_isn]; rfl
  | .bop .., e, _ => by rw [ev_bop]; rfl
  | .not .., e, _ => by rw [ev_not]; rfl
  | .ite .., e, _ => by rw [ev_ite]; rfl
  | .tup .., e, _ => by rw [ev_tup]; rfl
  | .lst .., e, _ => by rw [ev_lst]; rfl
  | .idx .., e, _ => by rw [ev_idx]; rfl
  | .slc .., e, _ => by rw [ev_slc]; rfl
  | .call .., e, _ => by rw [ev_call]; rfl
  | .callB .., e, _ => by rw [ev_callB]; rfl
  | .callS .., e, _ => by rw [ev_callS]; rfl
  | .blt .., e, _ => by rw [ev_blt]; rfl
  | .isi .., e, _ => by rw [ev_isi]; rfl
  | .lc .., e, _ => by rw [ev_lc, lcM_opd]
  | .pop .., e, _ => by rw [ev_pop]; rfl
  | .mth .., e, _ => by rw [ev_mth]; rfl
  | .rev .., e, _ => by rw [ev_rev]; rfl
  | .isb .., e, _ => by rw [ev_isb]; rfl
  | .rgv .., e, _ => by rw [ev_rgv]; rfl
  | .upper .., e, _ => by rw [ev_upper]; rfl
  | .sset .., e, _ => by rw [ev_sset]; rfl
  | .lset .., e, _ => by rw [ev_lset]; rfl
  | .dnew .., e, _ => by rw [ev_dnew]; rfl
  | .dsrt .., e, _ => by rw [ev_dsrt]; rfl
  | .ditm .., e, _ => by rw [ev_ditm]; rfl
theorem lcM_tst {t : T} {k : IK} {its cond : List M} {elt : M} {own : List Nat} {env : En} : (lcM t k its cond elt own).tst env = trM (lcM t k its cond elt own).opd env := by unfold lcM; rfl
theorem ofT (P : Ph) : ∀ (A : E) (e : En), tK A = 0 → (ev P A).tst e = trM (ev P A).opd e
  | .var i, e, h => by rw [ev_var]; rfl
  | .cst d, e, _ => by rw [ev_cst]; rfl
  | .bin .., e, _ => by rw [ev_bin]; rfl
  | .neg .., e, _ => by rw [ev_neg]; rfl
  | .cmp .., e, h => by cases h
  | .chn .., e, h => by cases h
  | .isn .., e, h => by cases h
  | .bop .., e, h => by cases h
  | .not .., e, h => by cases h
  | .ite .., e, h => by cases h
  | .isi .., e, h => by cases h
  | .isb .., e, h => by cases h
  | .tup .., e, _ => by rw [ev_tup]; rfl
  | .lst .., e, _ => by rw [ev_lst]; rfl
  | .idx .., e, _ => by rw [ev_idx]; rfl
  | .slc .., e, _ => by rw [ev_slc]; rfl
  | .call .., e, _ => by rw [ev_call]; rfl
  | .callB .., e, _ => by rw [ev_callB]; rfl
  | .callS .., e, _ => by rw [ev_callS]; rfl
  | .blt .., e, _ => by rw [ev_blt]; rfl
  | .lc .., e, _ => by rw [ev_lc, lcM_tst]
  | .pop .., e, _ => by rw [ev_pop]; rfl
  | .mth .., e, _ => by rw [ev_mth]; rfl
  | .rev .., e, _ => by rw [ev_rev]; rfl
  | .rgv .., e, _ => by rw [ev_rgv]; rfl
  | .upper .., e, _ => by rw [ev_upper]; rfl
  | .lset .., e, _ => by rw [ev_lset]; rfl
  | .sset .., e, _ => by rw [ev_sset]; rfl
  | .dnew .., e, _ => by rw [ev_dnew]; rfl
  | .dsrt .., e, _ => by rw [ev_dsrt]; rfl
  | .ditm .., e, _ => by rw [ev_ditm]; rfl
theorem ofC (P : Ph) : ∀ (A : E) (e : En), tK A = 1 → (ev P A).tst e = ((ev P A).val e).bind fun r => (bOf r.1).map fun b => (b, r.2)
  | .cmp .., e, _ => by rw [ev_cmp]; rfl
  | .chn .., e, _ => by rw [ev_chn]; rfl
  | .isn .., e, _ => by rw [ev_isn]; rfl
  | .isi .., e, _ => by rw [ev_isi]; rfl
  | .isb .., e, _ => by rw [ev_isb]; rfl
  | .var i, e, h => by cases h
  | .cst d, e, h => by cases h
  | .bin .., e, h => by cases h
  | .neg .., e, h => by cases h
  | .bop .., e, h => by cases h
  | .not .., e, h => by cases h
  | .ite .., e, h => by cases h
  | .tup .., e, h => by cases h
  | .lst .., e, h => by cases h
  | .idx .., e, h => by cases h
  | .slc .., e, h => by cases h
  | .call .., e, h => by cases h
  | .callB .., e, h => by cases h
  | .callS .., e, h => by cases h
  | .blt .., e, h => by cases h
  | .lc .., e, h => by cases h
  | .pop .., e, h => by cases h
  | .mth .., e, h => by cases h
  | .rev .., e, h => by cases h
  | .rgv .., e, h => by cases h
  | .upper .., e, h => by cases h
  | .sset .., e, h => by cases h
  | .lset .., e, h => by cases h
  | .dnew .., e, h => by cases h
  | .dsrt .., e, h => by cases h
  | .ditm .., e, h => by cases h
section
variable {P : Ph} {A B C : E} {es : List E} {e e0 e' e1 e2 e3 : En} {s : Sl} {d x y : D}
theorem HV.f (h : HV P A e s e1) (hf : s.frz = some d) : HF P A e d e1 := by unfold HF; rw [frzM_eq, h, Option.bind_some, hf]; rfl
theorem HO.f (h : HF P A e x e1) (hv : isVar A = false) : HO P A e x e1 e2 := ⟨.d x, by rw [ofV P A e hv, h]; rfl, rfl⟩
theorem HO.of (h : HV P A e s e1) (hf : s.frz = some x) (hv : isVar A = false) : HO P A e x e1 e2 := .f (h.f hf) hv
theorem HO.var {i : Nat} (h : e[i]? = some (.v x)) : HO P (.var i) e x e e2 := ⟨.d x, by rw [ev_var, varM_opd, h], rfl⟩
theorem HO.varL {i : Nat} {xs : List D} (h : e[i]? = some (.l xs)) (h2 : e2[i]? = some (.l xs)) : HO P (.var i) e (.list xs) e e2 := ⟨.s i, by rw [ev_var, varM_opd, h], by simp [h2]⟩
theorem HO.cast (q : x = y) (h : HO P A e x e1 e2) : HO P A e y e1 e2 := q ▸ h
theorem HV.cast {t : Sl} (q : s = t) (h : HV P A e s e1) : HV P A e t e1 := q ▸ h
theorem HF.cast (q : x = y) (h : HF P A e x e1) : HF P A e y e1 := q ▸ h
theorem HT.cast {b c : Bool} (q : b = c) (h : HT P A e b e1) : HT P A e c e1 := q ▸ h
theorem HT.ofO {b : Bool} (h : tK A = 0) (ho : HO P A e x e1 e1) (ht : truth x = some b) : HT P A e b e1 := by
  obtain ⟨p, h1, h2⟩ := ho
  unfold HT
  rw [ofT P A e h, trM_eq, h1, Option.bind_some]
  simp only [h2, Option.bind_some, ht, Option.map_some]
theorem HT.ofC {b : Bool} (h : tK A = 1) (hv : HV P A e (.v (.bool b)) e1) : HT P A e b e1 := by
  unfold HT
  rw [Mini.ofC P A e h, hv]; rfl
theorem HV.var {i : Nat} (h : e[i]? = some (.v d)) : HV P (.var i) e (.v d) e := by unfold HV; rw [ev_var, varM_val, h]
theorem HV.varL {i : Nat} {xs : List D} (h : e[i]? = some (.l xs)) (h2 : e.set i (.v (.list xs)) = e1) : HV P (.var i) e (.v (.list xs)) e1 := by unfold HV; rw [ev_var, varM_val, h, ← h2]
theorem HV.cst : HV P (.cst d) e (.v d) e := by unfold HV; rw [ev_cst]; rfl
theorem op1V {f : D → Option Sl} (ha : HO P A e x e1 e1) (h : f x = some s) : (op1 f (ev P A)).val e = some (s, e1) := by
  obtain ⟨p, h1, h2⟩ := ha
  rw [op1_eq, ofVal_val, h1, Option.bind_some]
  simp only [h2, Option.bind_some, h, Option.map_some]
theorem op2V {f : D → D → Option Sl} (ha : HO P A e x e1 e2) (hb : HO P B e1 y e2 e2) (h : f x y = some s) : (op2 f (ev P A) (ev P B)).val e = some (s, e2) := by
  obtain ⟨p, h1, h2⟩ := ha
  obtain ⟨q, h3, h4⟩ := hb
  rw [op2_eq, ofVal_val, h1, Option.bind_some, h3, Option.bind_some]
  simp only [h2, h4, Option.bind_some, h, Option.map_some]
theorem HV.neg {i : Int} (ha : HO P A e (.int i) e1 e1) : HV P (.neg A) e (.v (.int (-i))) e1 := by unfold HV; rw [ev_neg]; exact op1V ha rfl
theorem HV.bin {op : Operator} (ha : HO P A e x e1 e2) (hb : HO P B e1 y e2 e2) (h : binD op x y = some s) : HV P (.bin op A B) e s e2 := by unfold HV; rw [ev_bin]; exact op2V ha hb h
theorem HV.cmp {op : CmpOp} (ha : HO P A e x e1 e2) (hb : HO P B e1 y e2 e2) (h : cmpD op x y = some s) : HV P (.cmp op A B) e s e2 := by
  unfold HV; rw [ev_cmp, cmpM_eq, cmp_val]; exact op2V ha hb h
theorem HV.chn {o1 o2 : CmpOp} {z : D} {k l : Bool} (ha : HO P A e x e e) (hb : HO P B e y e e) (h : cmpD o1 x y = some (.v (.bool k))) (hc : HO P C e z e e) (h2 : cmpD o2 y z = some (.v (.bool l))) : HV P (.chn o1 o2 A B C) e (.v (.bool (k && l))) e := by
  obtain ⟨p, a1, a2⟩ := ha
  obtain ⟨q, b1, b2⟩ := hb
  obtain ⟨r, c1, c2⟩ := hc
  unfold HV
  rw [ev_chn, chnM_eq, cmp_val, a1, Option.bind_some, b1, Option.bind_some]
  simp only [a2, b2, Option.bind_some, h, bOf_v]
  cases k with
  | false => rfl
  | true => simp only [if_true, c1, Option.bind_some, b2, c2, h2, Option.map_some, Bool.true_and]
theorem HV.chnO {o1 o2 : CmpOp} {k l : Bool} (ha : HO P A e x e e) (hb : HO P B e y e e) (h : cmpD o1 x y = some (.v (.bool k))) (h1 : k = true → ∃ z, HO P C e z e e ∧ cmpD o2 y z = some (.v (.bool l))) (h0 : k = false → l = false) : HV P (.chn o1 o2 A B C) e (.v (.bool l)) e := by
  obtain ⟨p, a1, a2⟩ := ha
  obtain ⟨q, b1, b2⟩ := hb
  unfold HV
  rw [ev_chn, chnM_eq, cmp_val, a1, Option.bind_some, b1, Option.bind_some]
  simp only [a2, b2, Option.bind_some, h, bOf_v]
  cases k with
  | false => rw [h0 rfl]; rfl
  | true =>
    obtain ⟨z, ⟨r, c1, c2⟩, h2⟩ := h1 rfl
    simp only [if_true, c1, Option.bind_some, b2, c2, h2, Option.map_some]
theorem HV.isn {ng : Bool} (ha : HO P A e x e1 e1) (h : isnD ng x = some s) : HV P (.isn ng A) e s e1 := by
  unfold HV; rw [ev_isn, isnM_eq, cmp_val]; exact op1V ha h
theorem HV.isi {t : Ty} (ha : HO P A e x e1 e1) : HV P (.isi A t) e (.v (.bool (isiD x t))) e1 := by
  unfold HV; rw [ev_isi, cmp_val]; exact op1V (f := fun d => some (.v (.bool (isiD d t)))) ha rfl
theorem HV.isb {ng k : Bool} (ha : HO P A e x e1 e1) (h : isbD ng k x = some s) : HV P (.isb ng k A) e s e1 := by
  unfold HV; rw [ev_isb, cmp_val]; exact op1V ha h
theorem HV.not {b : Bool} (ha : HO P A e x e1 e1) (ht : truth x = some b) : HV P (.not A) e (.v (.bool !b)) e1 := by
  obtain ⟨p, h1, h2⟩ := ha
  unfold HV
  rw [ev_not, notM_val, trM_eq, h1, Option.bind_some]
  simp only [h2, Option.bind_some, ht, Option.map_some]
theorem HT.not {b : Bool} (ha : HT P A e b e1) : HT P (.not A) e (!b) e1 := by unfold HT; rw [ev_not, notM_tst, ha]; rfl
theorem HV.ite {b : Bool} (hc : HT P C e b e1) (h1 : b = true → HV P A e1 s e2) (h2 : b = false → HV P B e1 s e2) : HV P (.ite C A B) e s e2 := by
  unfold HV; rw [ev_ite, iteM_val, hc, Option.bind_some]
  cases b with
  | true => exact h1 rfl
  | false => exact h2 rfl
theorem HV.iteP {α : Type} {b : Bool} (f : α → Sl) {u v : α} (hc : HT P C e b e1) (h1 : HV P A e1 (f u) e2) (h2 : HV P B e1 (f v) e2) : HV P (.ite C A B) e (f (if b then u else v)) e2 := by
  cases b with
  | true => exact HV.ite hc (fun _ => h1) (fun h => by cases h)
  | false => exact HV.ite hc (fun h => by cases h) (fun _ => h2)
theorem HT.ite {b c : Bool} (hc : HT P C e b e1) (h1 : b = true → HT P A e1 c e2) (h2 : b = false → HT P B e1 c e2) : HT P (.ite C A B) e c e2 := by
  unfold HT; rw [ev_ite, iteM_tst, hc, Option.bind_some]
  cases b with
  | true => exact h1 rfl
  | false => exact h2 rfl
theorem HT.iteP {b u v : Bool} (hc : HT P C e b e1) (h1 : HT P A e1 u e2) (h2 : HT P B e1 v e2) : HT P (.ite C A B) e (if b then u else v) e2 := by
  cases b with
  | true => exact HT.ite hc (fun _ => h1) (fun h => by cases h)
  | false => exact HT.ite hc (fun h => by cases h) (fun _ => h2)
/-! and, or -/
theorem HT.bop {o : BoolOp} {b : Bool} (h : HB P o es e b e1) : HT P (.bop o es) e b e1 := by unfold HT; rw [ev_bop, bopM_tst]; exact h
theorem HV.bop {o : BoolOp} (h : HBV P o es e d e1) : HV P (.bop o es) e (.v d) e1 := by unfold HV; rw [ev_bop, bopM_val, h]; rfl
theorem HB.one {o : BoolOp} {b : Bool} (h : HT P A e b e1) : HB P o [A] e b e1 := by unfold HB; rw [evs_cons, evs_nil]; exact h
theorem HB.andO {b c : Bool} (h : HT P A e b e1) (h1 : b = true → HB P .And (B :: es) e1 c e2) (h0 : b = false → c = false ∧ e2 = e1) : HB P .And (A :: B :: es) e c e2 := by
  unfold HB at h1 ⊢
  rw [evs_cons, evs_cons] at *
  rw [bopT_2, h, Option.bind_some]
  cases b with
  | true => exact h1 rfl
  | false => obtain ⟨rfl, rfl⟩ := h0 rfl; rfl
theorem HB.orO {b c : Bool} (h : HT P A e b e1) (h1 : b = false → HB P .Or (B :: es) e1 c e2) (h0 : b = true → c = true ∧ e2 = e1) : HB P .Or (A :: B :: es) e c e2 := by
  unfold HB at h1 ⊢
  rw [evs_cons, evs_cons] at *
  rw [bopT_2, h, Option.bind_some]
  cases b with
  | false => exact h1 rfl
  | true => obtain ⟨rfl, rfl⟩ := h0 rfl; rfl
theorem HB.and {b c : Bool} (h : HT P A e b e) (r : HB P .And (B :: es) e c e) : HB P .And (A :: B :: es) e (b && c) e := by
  cases b with
  | true => exact .andO h (fun _ => r) (fun h => by cases h)
  | false => exact .andO h (fun h => by cases h) (fun _ => ⟨rfl, rfl⟩)
theorem HB.or {b c : Bool} (h : HT P A e b e) (r : HB P .Or (B :: es) e c e) : HB P .Or (A :: B :: es) e (b || c) e := by
  cases b with
  | false => exact .orO h (fun _ => r) (fun h => by cases h)
  | true => exact .orO h (fun h => by cases h) (fun _ => ⟨rfl, rfl⟩)
theorem HBV.one {o : BoolOp} (h : HF P A e d e1) : HBV P o [A] e d e1 := by unfold HBV; rw [evs_cons, evs_nil]; exact h
theorem HBV.andO {b : Bool} (h : HF P A e x e1) (ht : truth x = some b) (h1 : b = true → HBV P .And (B :: es) e1 d e2) (h0 : b = false → d = x ∧ e2 = e1) : HBV P .And (A :: B :: es) e d e2 := by
  unfold HBV at h1 ⊢
  rw [evs_cons, evs_cons] at *
  rw [bopV_2, h, Option.bind_some]
  simp only [ht, Option.bind_some]
  cases b with
  | true => exact h1 rfl
  | false => obtain ⟨rfl, rfl⟩ := h0 rfl; rfl
theorem HBV.orO {b : Bool} (h : HF P A e x e1) (ht : truth x = some b) (h1 : b = false → HBV P .Or (B :: es) e1 d e2) (h0 : b = true → d = x ∧ e2 = e1) : HBV P .Or (A :: B :: es) e d e2 := by
  unfold HBV at h1 ⊢
  rw [evs_cons, evs_cons] at *
  rw [bopV_2, h, Option.bind_some]
  simp only [ht, Option.bind_some]
  cases b with
  | false => exact h1 rfl
  | true => obtain ⟨rfl, rfl⟩ := h0 rfl; rfl
theorem HBV.and {b c : Bool} (h : HF P A e (.bool b) e) (r : HBV P .And (B :: es) e (.bool c) e) : HBV P .And (A :: B :: es) e (.bool (b && c)) e := by
  cases b with
  | true => exact .andO h rfl (fun _ => r) (fun h => by cases h)
  | false => exact .andO h rfl (fun h => by cases h) (fun _ => ⟨rfl, rfl⟩)
theorem HBV.or {b c : Bool} (h : HF P A e (.bool b) e) (r : HBV P .Or (B :: es) e (.bool c) e) : HBV P .Or (A :: B :: es) e (.bool (b || c)) e := by
  cases b with
  | false => exact .orO h rfl (fun _ => r) (fun h => by cases h)
  | true => exact .orO h rfl (fun h => by cases h) (fun _ => ⟨rfl, rfl⟩)
/-! lists of parts -/
theorem HAs.nil : HAs P [] e [] e := by unfold HAs; rw [evs_nil]; rfl
theorem HAs.cons {ds : List D} (h : HF P A e d e1) (t : HAs P es e1 ds e2) : HAs P (A :: es) e (d :: ds) e2 := by
  unfold HAs at t ⊢; rw [evs_cons, argsM_cons, h, Option.bind_some, t]; rfl
theorem HOs.nil : HOs P [] e [] e := ⟨[], by rw [evs_nil]; rfl, rfl⟩
theorem HOs.cons {ds : List D} (h : HO P A e d e1 e2) (t : HOs P es e1 ds e2) : HOs P (A :: es) e (d :: ds) e2 := by
  obtain ⟨p, h1, h2⟩ := h
  obtain ⟨ps, h3, h4⟩ := t
  exact ⟨p :: ps, by rw [evs_cons, opsM_cons, h1, Option.bind_some, h3]; rfl, by rw [gets_cons, h2, Option.bind_some, h4]; rfl⟩
theorem HOw.nil {W : En → Prop} : HOw P [] e [] e W := ⟨[], by rw [evs_nil]; rfl, rfl, fun _ _ => trivial⟩
theorem HOw.cons {ds : List D} {W : En → Prop} (h : HF P A e d e1) (hv : isVar A = false) (t : HOw P es e1 ds e2 W) : HOw P (A :: es) e (d :: ds) e2 W := by
  obtain ⟨ps, h3, h4, h5⟩ := t
  exact ⟨.d d :: ps, by rw [evs_cons, opsM_cons, ofV P A e hv, h, Option.map_some, Option.bind_some, h3]; rfl, by rw [gets_cons, get_d, Option.bind_some, h4]; rfl, fun e2 w => h5 e2 w⟩
theorem HOw.var {ds : List D} {W : En → Prop} {i : Nat} (h : e[i]? = some (.v d)) (t : HOw P es e ds e2 W) : HOw P (.var i :: es) e (d :: ds) e2 W := by
  obtain ⟨ps, h3, h4, h5⟩ := t
  exact ⟨.d d :: ps, by rw [evs_cons, opsM_cons, ev_var, varM_opd, h]; simp only [Option.bind_some, h3]; rfl, by rw [gets_cons, get_d, Option.bind_some, h4]; rfl, fun e2 w => h5 e2 w⟩
theorem HOw.varL {ds xs : List D} {W : En → Prop} {i : Nat} (h : e[i]? = some (.l xs)) (h2 : e2[i]? = some (.l xs)) (hw : ∀ e3, W e3 → e3[i]? = e2[i]?) (t : HOw P es e ds e2 W) : HOw P (.var i :: es) e (.list xs :: ds) e2 W := by
  obtain ⟨ps, h3, h4, h5⟩ := t
  exact ⟨.s i :: ps, by rw [evs_cons, opsM_cons, ev_var, varM_opd, h]; simp only [Option.bind_some, h3]; rfl, by rw [gets_cons, get_s, h2, Option.bind_some, rd_l, Option.bind_some, h4]; rfl, fun e3 w => ⟨hw e3 w, h5 e3 w⟩⟩
theorem HFs.nil : HFs P [] e [] e := by unfold HFs; rw [evs_nil]; rfl
theorem HFs.cons {ds : List D} (h : HF P A e d e1) (t : HFs P es e1 ds e2) : HFs P (A :: es) e (d :: ds) e2 := by
  unfold HFs at t ⊢; rw [evs_cons, List.map_cons, opsM_cons, frO_opd, h, Option.map_some, Option.bind_some, t]; rfl
theorem HP.none : HP P [] e none e := by unfold HP; rw [evs_nil]; rfl
theorem HP.some {i : Int} (h : HO P A e (.int i) e1 e1) : HP P [A] e (some i) e1 := by
  obtain ⟨p, h1, h2⟩ := h
  unfold HP; rw [evs_cons, evs_nil, partM_1, h1, Option.bind_some, h2]; rfl
theorem HV.tup {ds : List D} (h : HAs P es e ds e1) (hl : Nat.ble ds.length 1000 = true) : HV P (.tup es) e (.v (.tuple ds)) e1 := by
  unfold HV; rw [ev_tup, tupM_eq, ofVal_val, h, Option.bind_some]
  have : ds.length ≤ sizeLine := size_ok (by have := Nat.le_of_ble_eq_true hl; unfold capL; omega)
  simp only [this, if_true]
theorem HV.lst {ds : List D} (h : HAs P es e ds e1) (hl : Nat.ble ds.length 1000 = true) : HV P (.lst es) e (.l ds) e1 := by
  unfold HV; rw [ev_lst, lstM_eq, ofVal_val, h, Option.bind_some]
  have : ds.length ≤ sizeLine := size_ok (by have := Nat.le_of_ble_eq_true hl; unfold capL; omega)
  simp only [this, if_true]
theorem HV.idx (ha : HO P A e x e1 e2) (hb : HO P B e1 y e2 e2) (h : idxD x y = some s) : HV P (.idx A B) e s e2 := by unfold HV; rw [ev_idx]; exact op2V ha hb h
theorem HV.slc {lo hi : List E} {i j : Option Int} (ha : HO P A e x e1 e3) (hl : HP P lo e1 i e2) (hh : HP P hi e2 j e3) (h : slcD x i j = some s) : HV P (.slc A lo hi) e s e3 := by
  obtain ⟨p, h1, h2⟩ := ha
  unfold HV; rw [ev_slc, slcM_eq, ofVal_val, h1, Option.bind_some]
  simp only [show partM (evs P lo) e1 = _ from hl, show partM (evs P hi) e2 = _ from hh, Option.bind_some, h2, h, Option.map_some]
theorem HV.call {f : Nat} {ds : List D} (ha : HAs P es e ds e1) (h : retOf P f (ds.map .v) = some s) : HV P (.call f es) e s e1 := by
  unfold HV; rw [ev_call, callM_eq, ofVal_val, ha, Option.bind_some]
  simp only [h, Option.map_some]
theorem HV.callB {f i : Nat} {ds : List D} {cs rs cs2 rs2 : List Int} (hb : isB e[i]? = true) (ha : HAs P es e ds e1) (hi : e1[i]? = some (.bx cs rs)) (h : retB P f (.bx cs rs :: ds.map .v) = some (s, .bx cs2 rs2)) (he : e1.set i (.bx cs2 rs2) = e2) : HV P (.callB f i es) e s e2 := by
  unfold HV; rw [ev_callB]
  show (callBM P f i (evs P es)).val e = _
  unfold callBM
  rw [ofVal_val, if_pos hb, show argsM (evs P es) e = _ from ha, Option.bind_some]
  simp only [hi, h, Option.bind_some, he]
theorem HV.callS {f i : Nat} {ns : List Int} (h : e[i]? = some (.sc ns)) (hr : retOf P f [.sc ns] = some s) : HV P (.callS f i) e s e := by
  unfold HV; rw [ev_callS, callSM_val _ _ _ _ _ h, hr]; rfl
theorem HV.blt {b : Bl} {ds : List D} (ho : HOs P es e ds e1) (h : bltD b ds = some s) : HV P (.blt b es) e s e1 := by
  obtain ⟨ps, h1, h2⟩ := ho
  unfold HV; rw [ev_blt, bltM_eq, ofVal_val, h1, Option.bind_some]
  simp only [h2, Option.bind_some, h, Option.map_some]
theorem HV.rgv {tup : Bool} {ds : List D} (ho : HOs P es e ds e1) (h : rgvD tup ds = some s) : HV P (.rgv tup es) e s e1 := by
  obtain ⟨ps, h1, h2⟩ := ho
  unfold HV; rw [ev_rgv, rgvM_eq, ofVal_val, h1, Option.bind_some]
  simp only [h2, Option.bind_some, h, Option.map_some]
theorem HV.pop {i : Nat} {xs : List D} (h : e[i]? = some (.l xs)) (hl : xs.getLast? = some d) (he : e.set i (.l xs.dropLast) = e1) : HV P (.pop i) e (.v d) e1 := by
  unfold HV; rw [ev_pop]; unfold popM; rw [ofVal_val, h]; simp only [hl, he]
theorem HV.rev (ha : HO P A e x e1 e1) (h : revD x = some s) : HV P (.rev A) e s e1 := by unfold HV; rw [ev_rev]; exact op1V ha h
theorem HV.lset (ha : HO P A e x e1 e1) (h : lsetD x = some s) : HV P (.lset A) e s e1 := by unfold HV; rw [ev_lset]; exact op1V ha h
theorem HV.sset (ha : HO P A e x e1 e1) (h : ssetD x = some s) : HV P (.sset A) e s e1 := by unfold HV; rw [ev_sset]; exact op1V ha h
theorem HV.upper {t : Str} (ha : HO P A e (.str t) e1 e1) (h : upperD (.str t) = some s) : HV P (.upper A) e s e1 := by
  obtain ⟨p, h1, h2⟩ := ha
  unfold HV; rw [ev_upper, upperM_eq, ofVal_val, h1, Option.bind_some]
  simp only [h2, Option.bind_some, isStr_s, if_true, h, Option.map_some]
theorem HV.mth {m : Mt} {xs : List D} (ha : HO P A e (.list xs) e1 e1) (ha2 : HO P A e (.list xs) e1 e2) (hb : HO P B e1 y e2 e2) (h : mthD m (.list xs) y = some s) (hd : isVar A = false ∨ e2 = e1) : HV P (.mth m A B) e s e2 := by
  obtain ⟨p, h1, h2⟩ := ha
  obtain ⟨p', h1', h2'⟩ := ha2
  obtain ⟨q, h3, h4⟩ := hb
  rw [h1] at h1'; cases h1'
  unfold HV; rw [ev_mth, mthM_eq, ofVal_val, h1, Option.bind_some]
  simp only [h2, Option.bind_some, isLst_l, if_true, h3, h2', h4, h, Option.map_some]
end
/-! facts about the operations on encoded values -/
section
variable {α β γ : Type}
theorem atI_map {e : α → D} (xs : List α) (i : Int) : atI (xs.map e) i = (gI xs i).map e := by
  unfold atI gI
  rw [List.length_map]
  cases ixN xs.length i with
  | none => rfl
  | some k => simp only [Option.bind_some, List.getElem?_map]
theorem idxT {e : α → D} {xs : List α} {i : Int} {x : α} (h : gI xs i = some x) : idxD (eT e xs) (.int i) = some (.v (e x)) := by
  show (atI (xs.map e) i).map _ = _; rw [atI_map, h]; rfl
theorem idxL {e : α → D} {xs : List α} {i : Int} {x : α} (h : gI xs i = some x) : idxD (eL e xs) (.int i) = some (.v (e x)) := by
  show (atI (xs.map e) i).map _ = _; rw [atI_map, h]; rfl
theorem idxQ {d : D} {xs : List D} {i : Int} {x : D} (hd : seqD d = some xs) (h : gI xs i = some x) : idxD d (.int i) = some (.v x) := by
  have e : atI xs i = some x := h
  cases d <;> first | cases hd; (show (atI _ i).map _ = _; rw [e]; rfl) | cases hd
theorem cut_map {e : α → D} (xs : List α) (lo hi : Option Int) : cutD (xs.map e) lo hi = (cutG xs lo hi).map e := by
  unfold cutD cutG
  rw [List.length_map, List.map_take, List.map_drop]
theorem slcT {e : α → D} (xs : List α) (lo hi : Option Int) : slcD (eT e xs) lo hi = some (.v (eT e (cutG xs lo hi))) := by rw [slc_t, cut_map]
theorem slcL {e : α → D} (xs : List α) (lo hi : Option Int) : slcD (eL e xs) lo hi = some (.l ((cutG xs lo hi).map e)) := by rw [slc_l, cut_map]
theorem revT {e : α → D} (xs : List α) : revD (eT e xs) = some (.v (eT e xs.reverse)) := by rw [revD_t]; show _ = some (Sl.v (.tuple (xs.reverse.map e))); rw [List.map_reverse]
theorem revL {e : α → D} (xs : List α) : revD (eL e xs) = some (.l (xs.reverse.map e)) := by rw [revD_l, List.map_reverse]
theorem lenT {e : α → D} (xs : List α) : bltD .len [eT e xs] = some (.v (.int xs.length)) := by show some (Sl.v (.int ((xs.map e).length : Nat))) = _; rw [List.length_map]
theorem lenL {e : α → D} (xs : List α) : bltD .len [eL e xs] = some (.v (.int xs.length)) := by show some (Sl.v (.int ((xs.map e).length : Nat))) = _; rw [List.length_map]
theorem lenQ {d : D} {xs : List D} (hd : seqD d = some xs) : bltD .len [d] = some (.v (.int xs.length)) := by
  cases d <;> first | cases hd; rfl | cases hd
theorem lenSt {s : Str} {i : Int} (h : lenS s = some i) : bltD .len [.str s] = some (.v (.int i)) := by
  unfold lenS at h; split at h
  · rename_i g; cases h; show (if _ then _ else _) = _; rw [if_pos g]
  · cases h
theorem allL (xs : List Bool) : bltD .all [eL eB xs] = some (.v (.bool (xs.all id))) := by
  show (boolsL (xs.map eB)).map _ = _
  rw [show boolsL (xs.map eB) = some (xs.map id) from boolsL_map id xs, List.map_id]; rfl
theorem anyL (xs : List Bool) : bltD .any [eL eB xs] = some (.v (.bool (xs.any id))) := by
  show (boolsL (xs.map eB)).map _ = _
  rw [show boolsL (xs.map eB) = some (xs.map id) from boolsL_map id xs, List.map_id]; rfl
theorem intsE (xs : List Int) : intsL (xs.map eI) = some xs := by
  rw [show intsL (xs.map eI) = some (xs.map id) from intsL_map id xs, List.map_id]
theorem sumL (xs : List Int) : bltD .sum [eL eI xs] = some (.v (.int xs.sum)) := by
  show (intsL (xs.map eI)).map _ = _; rw [intsE]; rfl
theorem sumT (xs : List Int) : bltD .sum [eT eI xs] = some (.v (.int xs.sum)) := by
  show (intsL (xs.map eI)).map _ = _; rw [intsE]; rfl
theorem maxLs {xs : List Int} {m : Int} (h : maxL xs = some m) : bltD .max [eL eI xs] = some (.v (.int m)) := by
  show bestOf maxL PySem.W.maxD (xs.map eI) = _; unfold bestOf; rw [intsE]; simp only [h, Option.map_some]
theorem minLs {xs : List Int} {m : Int} (h : minL xs = some m) : bltD .min [eL eI xs] = some (.v (.int m)) := by
  show bestOf minL PySem.W.minD (xs.map eI) = _; unfold bestOf; rw [intsE]; simp only [h, Option.map_some]
theorem maxTs {xs : List Int} {m : Int} (h : maxL xs = some m) : bltD .max [eT eI xs] = some (.v (.int m)) := by
  show bestOf maxL PySem.W.maxD (xs.map eI) = _; unfold bestOf; rw [intsE]; simp only [h, Option.map_some]
theorem minTs {xs : List Int} {m : Int} (h : minL xs = some m) : bltD .min [eT eI xs] = some (.v (.int m)) := by
  show bestOf minL PySem.W.minD (xs.map eI) = _; unfold bestOf; rw [intsE]; simp only [h, Option.map_some]
open Classical in
noncomputable def sortE {α : Type} (e : α → D) (xs : List α) : Option (List α) := if PySem.W.AllAlike (xs.map e) ∧ (PySem.W.Sortable (xs.map e) ∨ ((xs.map e).length ≤ 1 ∧ ∀ d ∈ xs.map e, d ≠ .none)) ∧ ∀ x ∈ xs, (e x).depth ≤ 60 then some (xs.mergeSort (PySem.W.dataLe false e)) else none
theorem sortEs {e : α → D} {xs ys : List α} (h : sortE e xs = some ys) : bltD .sorted [eL e xs] = some (.l (ys.map e)) := by
  unfold sortE at h
  split at h
  · rename_i c
    cases h
    show sortOf (xs.map e) = _
    unfold sortOf
    rw [if_pos ⟨c.1, c.2.1, fun x hx => by obtain ⟨a, ha, rfl⟩ := List.mem_map.mp hx; exact c.2.2 a ha⟩]
    have : (xs.map e).mergeSort (PySem.W.dataLe false fun x : D => x) = (xs.mergeSort (PySem.W.dataLe false e)).map e := (List.map_mergeSort (f := e) (r := PySem.W.dataLe false e) (s := PySem.W.dataLe false fun x : D => x) fun a _ b _ => rfl).symm
    rw [this]
  · cases h
open Classical in
noncomputable def minE {α : Type} (e : α → D) : List α → Option α
  | [] => none
  | x :: xs => if intsL ((x :: xs).map e) = none ∧ PySem.W.AlikeAll ((x :: xs).map e) ∧ PyData.depthAll ((x :: xs).map e) ≤ 60 then some (xs.foldl (fun a y => if PySem.W.dataLt (e y) (e a) then y else a) x) else none
open Classical in
noncomputable def maxE {α : Type} (e : α → D) : List α → Option α
  | [] => none
  | x :: xs => if intsL ((x :: xs).map e) = none ∧ PySem.W.AlikeAll ((x :: xs).map e) ∧ PyData.depthAll ((x :: xs).map e) ≤ 60 then some (xs.foldl (fun a y => if PySem.W.dataLt (e a) (e y) then y else a) x) else none
theorem minD_e (e : α → D) : ∀ (xs : List α) (x : α), PySem.W.minD (e x) (xs.map e) = e (xs.foldl (fun a y => if PySem.W.dataLt (e y) (e a) then y else a) x)
  | [], x => rfl
  | y :: ys, x => by
    have := minD_e e ys (if PySem.W.dataLt (e y) (e x) = true then y else x)
    rw [List.foldl_cons, ← this]
    unfold PySem.W.minD
    rw [List.map_cons, List.foldl_cons]
    split <;> rfl
theorem maxD_e (e : α → D) : ∀ (xs : List α) (x : α), PySem.W.maxD (e x) (xs.map e) = e (xs.foldl (fun a y => if PySem.W.dataLt (e a) (e y) then y else a) x)
  | [], x => rfl
  | y :: ys, x => by
    have := maxD_e e ys (if PySem.W.dataLt (e x) (e y) = true then y else x)
    rw [List.foldl_cons, ← this]
    unfold PySem.W.maxD
    rw [List.map_cons, List.foldl_cons]
    split <;> rfl
theorem minE_b {e : α → D} {xs : List α} {m : α} (h : minE e xs = some m) : bestOf minL PySem.W.minD (xs.map e) = some (.v (e m)) := by
  cases xs with
  | nil => cases h
  | cons x xs =>
    simp only [minE] at h
    split at h
    · rename_i c
      cases h
      unfold bestOf
      rw [c.1]
      simp only [List.map_cons] at c ⊢
      rw [if_pos ⟨c.2.1, c.2.2⟩, minD_e]
    · cases h
theorem maxE_b {e : α → D} {xs : List α} {m : α} (h : maxE e xs = some m) : bestOf maxL PySem.W.maxD (xs.map e) = some (.v (e m)) := by
  cases xs with
  | nil => cases h
  | cons x xs =>
    simp only [maxE] at h
    split at h
    · rename_i c
      cases h
      unfold bestOf
      rw [c.1]
      simp only [List.map_cons] at c ⊢
      rw [if_pos ⟨c.2.1, c.2.2⟩, maxD_e]
    · cases h
theorem minELs {e : α → D} {xs : List α} {m : α} (h : minE e xs = some m) : bltD .min [eL e xs] = some (.v (e m)) := minE_b h
theorem minETs {e : α → D} {xs : List α} {m : α} (h : minE e xs = some m) : bltD .min [eT e xs] = some (.v (e m)) := minE_b h
theorem maxELs {e : α → D} {xs : List α} {m : α} (h : maxE e xs = some m) : bltD .max [eL e xs] = some (.v (e m)) := maxE_b h
theorem maxETs {e : α → D} {xs : List α} {m : α} (h : maxE e xs = some m) : bltD .max [eT e xs] = some (.v (e m)) := maxE_b h
theorem andB (x y : Int) : binD .BitAnd (.int x) (.int y) = some (.v (.int (Builtin.bitAnd x y))) := rfl
def shlI (x y : Int) : Option Int := if x = 1 ∧ 0 ≤ y ∧ y ≤ 1000000 then some (2 ^ y.toNat) else none
def shrI (x y : Int) : Option Int := if 0 ≤ y then some (x / 2 ^ y.toNat) else none
theorem shlB {x y z : Int} (h : shlI x y = some z) : binD .LShift (.int x) (.int y) = some (.v (.int z)) := by
  unfold shlI at h; split at h
  · rename_i g; cases h; show (if _ then _ else _) = _; rw [if_pos g]
  · cases h
theorem shrB {x y z : Int} (h : shrI x y = some z) : binD .RShift (.int x) (.int y) = some (.v (.int z)) := by
  unfold shrI at h; split at h
  · rename_i g; cases h; show (if _ then _ else _) = _; rw [if_pos g]
  · cases h
theorem max2 (x y : Int) : bltD .max [.int x, .int y] = some (.v (.int (max x y))) := max_i x y
theorem min2 (x y : Int) : bltD .min [.int x, .int y] = some (.v (.int (min x y))) := min_i2 x y
theorem absI (x : Int) : bltD .abs [.int x] = some (.v (.int (if x < 0 then -x else x))) := rfl
theorem intI (x : Int) : bltD .int [.int x] = some (.v (.int x)) := rfl
theorem intB (x : Bool) : bltD .int [.bool x] = some (.v (.int (if x then 1 else 0))) := rfl
theorem strIs {i : Int} {s : Str} (h : strI i = some s) : bltD .str [.int i] = some (.v (.str s)) := by
  unfold strI at h; split at h
  · rename_i g; cases h; show (if _ then _ else _) = _; rw [if_pos g]
  · cases h
theorem tupL {e : α → D} (xs : List α) : bltD .tuple [eL e xs] = some (.v (eT e xs)) := rfl
theorem tupT {e : α → D} (xs : List α) : bltD .tuple [eT e xs] = some (.v (eT e xs)) := rfl
theorem lstL {e : α → D} (xs : List α) : bltD .list [eL e xs] = some (.l (xs.map e)) := rfl
theorem lstT {e : α → D} (xs : List α) : bltD .list [eT e xs] = some (.l (xs.map e)) := rfl
theorem lstQ {d : D} {xs : List D} (hd : seqD d = some xs) : bltD .list [d] = some (.l (xs.map eD)) := by
  cases d <;> first | cases hd; (rw [mapD]; rfl) | cases hd
theorem tupQ {d : D} {xs : List D} (hd : seqD d = some xs) : bltD .tuple [d] = some (.v (eT eD xs)) := by
  show _ = some (Sl.v (.tuple (xs.map eD)))
  cases d <;> first | cases hd; (rw [mapD]; rfl) | cases hd
theorem addT {e : α → D} {xs ys zs : List α} (h : catO xs ys = some zs) : binD .Add (eT e xs) (eT e ys) = some (.v (eT e zs)) := by
  unfold catO at h; split at h
  · rename_i g; cases h; show (if _ then _ else _) = _; rw [List.length_map, List.length_map, if_pos g, ← List.map_append]
  · cases h
theorem addL {e : α → D} {xs ys zs : List α} (h : catO xs ys = some zs) : binD .Add (eL e xs) (eL e ys) = some (.l (zs.map e)) := by
  unfold catO at h; split at h
  · rename_i g; cases h; show (if _ then _ else _) = _; rw [List.length_map, List.length_map, if_pos g, ← List.map_append]
  · cases h
theorem augT {e : α → D} {xs ys zs : List α} (h : catO xs ys = some zs) : augD .Add (eT e xs) (eT e ys) = some (.v (eT e zs)) := by
  unfold catO at h; split at h
  · rename_i g; cases h; show (if _ then _ else _) = _; rw [List.length_map, List.length_map, if_pos g, ← List.map_append]
  · cases h
theorem addS {x y z : Str} (h : catS x y = some z) : binD .Add (.str x) (.str y) = some (.v (.str z)) := by
  unfold catS at h; split at h
  · rename_i g; cases h; show (if _ then _ else _) = _; rw [if_pos g]
  · cases h
theorem mulB {x y z : Int} (h : mulI x y = some z) : binD .Mult (.int x) (.int y) = some (.v (.int z)) := by
  unfold mulI at h; split at h
  · rename_i g; cases h; show (if _ then _ else _) = _; rw [if_pos g]
  · cases h
theorem mulG {x y z : Int} (h : mulA x y = some z) : augD .Mult (.int x) (.int y) = some (.v (.int z)) := by
  unfold mulA at h; split at h
  · rename_i g; cases h; show (if _ then _ else _) = _; rw [if_pos g]
  · cases h
theorem divB {x y z : Int} (h : divI x y = some z) : binD .FloorDiv (.int x) (.int y) = some (.v (.int z)) := by
  unfold divI at h; split at h
  · rename_i g; cases h; show (if _ then _ else _) = _; rw [if_pos g]
  · cases h
theorem divG {x y z : Int} (h : divI x y = some z) : augD .FloorDiv (.int x) (.int y) = some (.v (.int z)) := by
  unfold divI at h; split at h
  · rename_i g; cases h; show (if _ then _ else _) = _; rw [if_pos g]
  · cases h
theorem modB {x y z : Int} (h : modI x y = some z) : binD .Mod (.int x) (.int y) = some (.v (.int z)) := by
  unfold modI at h; split at h
  · rename_i g; cases h; show (if _ then _ else _) = _; rw [if_pos g]
  · cases h
theorem modG {x y z : Int} (h : modI x y = some z) : augD .Mod (.int x) (.int y) = some (.v (.int z)) := by
  unfold modI at h; split at h
  · rename_i g; cases h; show (if _ then _ else _) = _; rw [if_pos g]
  · cases h
theorem powB {x y z : Int} (h : powI x y = some z) : binD .Pow (.int x) (.int y) = some (.v (.int z)) := by
  unfold powI at h; split at h
  · rename_i g; cases h; show (if _ then _ else _) = _; rw [if_pos g]
  · cases h
theorem rep_map {e : α → D} (xs : List α) : ∀ n : Nat, (List.replicate n (xs.map e)).flatten = (List.replicate n xs).flatten.map e
  | 0 => rfl
  | n + 1 => by rw [List.replicate_succ, List.replicate_succ, List.flatten_cons, List.flatten_cons, List.map_append, rep_map xs n]
theorem repLs {e : α → D} {xs ys : List α} {k : Int} (h : repL xs k = some ys) : binD .Mult (eL e xs) (.int k) = some (.l (ys.map e)) := by
  unfold repL at h; split at h
  · rename_i g; cases h; show (if _ then _ else _) = _; rw [List.length_map, if_pos g, rep_map]
  · cases h
theorem repTs {e : α → D} {xs ys : List α} {k : Int} (h : repT xs k = some ys) : binD .Mult (eT e xs) (.int k) = some (.v (eT e ys)) := by
  unfold repT at h; split at h
  · rename_i g
    cases h
    have hn : xs.map e ≠ [] := by intro z; exact g.1 (List.map_eq_nil_iff.mp z)
    show (if _ then _ else _) = _
    by_cases h2 : 2 ≤ k
    · rw [if_pos ⟨hn, h2, g.2.2.1, by rw [List.length_map]; exact g.2.2.2⟩, rep_map]
    · rw [if_neg (fun z => h2 z.2.1)]
      by_cases h1 : k = 1
      · subst h1; rw [if_pos rfl]; show _ = some (Sl.v (.tuple (List.map e (List.replicate 1 xs).flatten))); simp
      · have h0 : k = 0 := by omega
        subst h0; rw [if_neg h1, if_pos ⟨rfl, hn⟩]; rfl
  · cases h
theorem ltT (xs ys : List Int) : cmpD .Lt (eT eI xs) (eT eI ys) = some (.v (.bool (HT.lexLt xs ys))) := by
  show (intsL (xs.map eI)).bind _ = _; rw [intsE, Option.bind_some, intsE]; rfl
theorem ltI (x y : Int) : cmpD .Lt (.int x) (.int y) = some (.v (.bool (decide (x < y)))) := rfl
theorem leI (x y : Int) : cmpD .LtE (.int x) (.int y) = some (.v (.bool (decide (x ≤ y)))) := rfl
theorem gtI (x y : Int) : cmpD .Gt (.int x) (.int y) = some (.v (.bool (decide (y < x)))) := rfl
theorem geI (x y : Int) : cmpD .GtE (.int x) (.int y) = some (.v (.bool (decide (y ≤ x)))) := rfl
theorem isnO {e : α → D} (he : ∀ x, isnD false (e x) = some (.v (.bool false))) (x : Option α) : isnD false (eO e x) = some (.v (.bool x.isNone)) := by cases x with | none => rfl | some x => exact he x
theorem isnO' {e : α → D} (he : ∀ x, isnD true (e x) = some (.v (.bool true))) (x : Option α) : isnD true (eO e x) = some (.v (.bool x.isSome)) := by cases x with | none => rfl | some x => exact he x
def noneD : D → Bool
  | .none => true
  | _ => false
theorem isnQ (x : D) : isnD false x = some (.v (.bool (noneD x))) := by cases x <;> rfl
theorem isnQ' (x : D) : isnD true x = some (.v (.bool (!noneD x))) := by cases x <;> rfl
theorem tstSt {s : Str} {b : Bool} (h : tstS s = some b) : truth (.str s) = some b := by
  unfold tstS at h; split at h
  · rename_i g; cases h; show (if _ then _ else _) = _; rw [if_pos g]
  · cases h
theorem truthT {e : α → D} (xs : List α) : truth (eT e xs) = some (!xs.isEmpty) := by cases xs <;> rfl
theorem truthL {e : α → D} (xs : List α) : truth (eL e xs) = some (!xs.isEmpty) := by cases xs <;> rfl
theorem ssetTs {xs ys : List Int} (h : ssetO xs = some ys) : ssetD (eT eI xs) = some (.l (ys.map eI)) := by
  unfold ssetO at h; split at h
  · rename_i g; cases h; show (intsL (xs.map eI)).bind _ = _; rw [intsE, Option.bind_some, if_pos g]
  · cases h
theorem lsetTs {xs : List Int} {y : Int} (h : lsetO xs = some y) : lsetD (eT eI xs) = some (.v (.int y)) := by
  unfold lsetO at h; split at h
  · rename_i g; cases h; show (intsL (xs.map eI)).bind _ = _; rw [intsE, Option.bind_some, if_pos g]
  · cases h
theorem lsetLs {xs : List Int} {y : Int} (h : lsetO xs = some y) : lsetD (eL eI xs) = some (.v (.int y)) := by
  unfold lsetO at h; split at h
  · rename_i g; cases h; show (intsL (xs.map eI)).bind _ = _; rw [intsE, Option.bind_some, if_pos g]
  · cases h
theorem upperS {s t : Str} (h : upperO s = some t) : upperD (.str s) = some (.v (.str t)) := by
  unfold upperO at h; split at h
  · rename_i g; cases h; show (if _ then _ else _) = _; rw [if_pos g]
  · cases h
/-! items -/
theorem rngL_eq (a : Int) (n : Nat) : rngL a n = (rngI a n).map eI := by unfold rngL rngI; rw [List.map_map]; rfl
theorem it_r1 {n : Int} {xs : List Int} (h : rng1 n = some xs) : itemsOf .rng [.int n] = some (xs.map eI) := by
  unfold rng1 at h; split at h
  · rename_i g; cases h; show (if _ then _ else _) = _; rw [if_pos g, rngL_eq]
  · cases h
theorem it_r2 {a b : Int} {xs : List Int} (h : rng2 a b = some xs) : itemsOf .rng [.int a, .int b] = some (xs.map eI) := by
  unfold rng2 at h; split at h
  · rename_i g; cases h; show (if _ then _ else _) = _; rw [if_pos g, rngL_eq]
  · cases h
theorem rgvT1 {n : Int} {xs : List Int} (h : rgv1 n = some xs) : rgvD true [.int n] = some (.v (eT eI xs)) := by
  unfold rgv1 at h; split at h
  · rename_i g; cases h; show (if _ then _ else _) = _; rw [if_pos g, if_pos rfl, rngL_eq]
  · cases h
theorem rgvL1 {n : Int} {xs : List Int} (h : rgv1 n = some xs) : rgvD false [.int n] = some (.l (xs.map eI)) := by
  unfold rgv1 at h; split at h
  · rename_i g; cases h; show (if _ then _ else _) = _; rw [if_pos g, if_neg (by decide), rngL_eq]
  · cases h
theorem rgvT2 {a b : Int} {xs : List Int} (h : rgv2 a b = some xs) : rgvD true [.int a, .int b] = some (.v (eT eI xs)) := by
  unfold rgv2 at h; split at h
  · rename_i g; cases h; show (if _ then _ else _) = _; rw [if_pos g, if_pos rfl, rngL_eq]
  · cases h
theorem rgvL2 {a b : Int} {xs : List Int} (h : rgv2 a b = some xs) : rgvD false [.int a, .int b] = some (.l (xs.map eI)) := by
  unfold rgv2 at h; split at h
  · rename_i g; cases h; show (if _ then _ else _) = _; rw [if_pos g, if_neg (by decide), rngL_eq]
  · cases h
theorem it_t {e : α → D} (xs : List α) : itemsOf .seq [eT e xs] = some (xs.map e) := rfl
theorem it_l {e : α → D} (xs : List α) : itemsOf .seq [eL e xs] = some (xs.map e) := rfl
theorem it_q {d : D} {xs : List D} (hd : seqD d = some xs) : itemsOf .seq [d] = some (xs.map eD) := by
  rw [mapD]
  cases d <;> first | cases hd; rfl | cases hd
theorem enum_map {e : α → D} : ∀ (xs : List α) (k : Nat), enumL (xs.map e) k = (enumF xs k).map (eP2 eI e)
  | [], k => rfl
  | x :: xs, k => by rw [List.map_cons, enumL, enumF, List.map_cons, enum_map xs (k + 1)]
theorem it_et {e : α → D} (xs : List α) : itemsOf .enum [eT e xs] = some ((enumS xs).map (eP2 eI e)) := by rw [items_et, enum_map]; rfl
theorem it_el {e : α → D} (xs : List α) : itemsOf .enum [eL e xs] = some ((enumS xs).map (eP2 eI e)) := by rw [items_el, enum_map]; rfl
theorem zip_map {a : α → D} {b : β → D} : ∀ (xs : List α) (ys : List β), zipL (xs.map a) (ys.map b) = (xs.zip ys).map (eP2 a b)
  | [], ys => by simp [zipL]
  | x :: xs, [] => by simp [zipL]
  | x :: xs, y :: ys => by rw [List.map_cons, List.map_cons, zipL, List.zip_cons_cons, List.map_cons, zip_map xs ys]
theorem it_ztt {a : α → D} {b : β → D} (xs : List α) (ys : List β) : itemsOf .zip [eT a xs, eT b ys] = some ((xs.zip ys).map (eP2 a b)) := by show some (zipL (xs.map a) (ys.map b)) = _; rw [zip_map]
theorem it_ztl {a : α → D} {b : β → D} (xs : List α) (ys : List β) : itemsOf .zip [eT a xs, eL b ys] = some ((xs.zip ys).map (eP2 a b)) := by show some (zipL (xs.map a) (ys.map b)) = _; rw [zip_map]
theorem it_zlt {a : α → D} {b : β → D} (xs : List α) (ys : List β) : itemsOf .zip [eL a xs, eT b ys] = some ((xs.zip ys).map (eP2 a b)) := by show some (zipL (xs.map a) (ys.map b)) = _; rw [zip_map]
theorem it_zll {a : α → D} {b : β → D} (xs : List α) (ys : List β) : itemsOf .zip [eL a xs, eL b ys] = some ((xs.zip ys).map (eP2 a b)) := by show some (zipL (xs.map a) (ys.map b)) = _; rw [zip_map]
def zip3 : List α → List β → List γ → List (α × β × γ)
  | x :: xs, y :: ys, z :: zs => (x, y, z) :: zip3 xs ys zs
  | _, _, _ => []
theorem zip3_map {a : α → D} {b : β → D} {c : γ → D} : ∀ (xs : List α) (ys : List β) (zs : List γ), zipL3 (xs.map a) (ys.map b) (zs.map c) = (zip3 xs ys zs).map (eP3 a b c)
  | [], ys, zs => by simp [zipL3, zip3]
  | x :: xs, [], zs => by simp [zipL3, zip3]
  | x :: xs, y :: ys, [] => by simp [zipL3, zip3]
  | x :: xs, y :: ys, z :: zs => by rw [List.map_cons, List.map_cons, List.map_cons, zipL3, zip3, List.map_cons, zip3_map xs ys zs]
theorem seqT {e : α → D} (xs : List α) : seqD (eT e xs) = some (xs.map e) := rfl
theorem seqL {e : α → D} (xs : List α) : seqD (eL e xs) = some (xs.map e) := rfl
theorem it_z3 {a : α → D} {b : β → D} {c : γ → D} {x y z : D} {xs : List α} {ys : List β} {zs : List γ} (h1 : seqD x = some (xs.map a)) (h2 : seqD y = some (ys.map b)) (h3 : seqD z = some (zs.map c)) : itemsOf .zip [x, y, z] = some ((zip3 xs ys zs).map (eP3 a b c)) := by
  cases x <;> cases h1 <;> cases y <;> cases h2 <;> cases z <;> cases h3 <;> (show some (zipL3 (xs.map a) (ys.map b) (zs.map c)) = _; rw [zip3_map])
theorem it_rl {e : α → D} (xs : List α) : itemsOf .rev [eL e xs] = some (xs.reverse.map e) := by rw [List.map_reverse]; rfl
end
end Mini

namespace Mini
open PySem PySem.Spec L2
theorem lcl_t {t : T} {cond : List M} {elt : M} {own : List Nat} {ps : List Opd} {e0 e e1 e2 e3 e4 e5 : En} {x d : D} {xs rs : List D} (h1 : asgT t x e = some e1) (hc : condM cond e1 = some (true, e2)) (hf : frzM elt.val e2 = some (d, e3)) (hw : wipeE e3 own = e4) (hs : stillB e0 e4 ps) (r : lcLoop t cond elt own ps e0 xs e4 = some (rs, e5)) : lcLoop t cond elt own ps e0 (x :: xs) e = some (d :: rs, e5) := by
  subst hw
  rw [lcLoop_cons, h1]
  simp only [Option.bind_some, hc, if_true, hf, if_pos hs, r, Option.map_some]
theorem lcl_f {t : T} {cond : List M} {elt : M} {own : List Nat} {ps : List Opd} {e0 e e1 e2 e4 e5 : En} {x : D} {xs rs : List D} (h1 : asgT t x e = some e1) (hc : condM cond e1 = some (false, e2)) (hw : wipeE e2 own = e4) (hs : stillB e0 e4 ps) (r : lcLoop t cond elt own ps e0 xs e4 = some (rs, e5)) : lcLoop t cond elt own ps e0 (x :: xs) e = some (rs, e5) := by
  subst hw
  rw [lcLoop_cons, h1]
  simp only [Option.bind_some, hc, Bool.false_eq_true, if_false, if_pos hs, r]
/-! comprehensions -/
section
variable {α β S : Type} {P : Ph} {t : T} {k : IK} {its : List E} {cnd elt : E} {own : List Nat} {e e0 e1 e' : En} {ds : List D}
theorem hv_lc {cond : List E} {xs : List D} {rs : List D} {e2 : En} {W : En → Prop} (ho : HOw P its e ds e1 W) (hk : itemsOf k ds = some xs) (w0 : W (wipeE e1 own))
    (h5 : ∀ ps, (∀ e3, W e3 → stillB e1 e3 ps) → lcLoop t (evs P cond) (ev P elt) own ps e1 xs (wipeE e1 own) = some (rs, e2)) (hr : restE e1 e2 own = e') : HV P (.lc t k its cond elt own) e (.l rs) e' := by
  obtain ⟨ps, h1, h2, h3⟩ := ho
  unfold HV
  rw [ev_lc, lcM_of h1 h2 hk (h3 _ w0) (h5 ps h3), hr]
/-- pure -/
theorem HV.lcP (ei : α → D) (eo : β → D) (f : α → β) {xs : List α} (ho : HOw P its e ds e1 (· = e0)) (hk : itemsOf k ds = some (xs.map ei)) (hw : wipeE e1 own = e0) (hr : restE e1 e0 own = e')
    (hb : ∀ x, ∃ e2, asgT t (ei x) e0 = some e2 ∧ wipeE e2 own = e0 ∧ HF P elt e2 (eo (f x)) e2) : HV P (.lc t k its [] elt own) e (.l ((xs.map f).map eo)) e' := by
  refine hv_lc (e2 := e0) ho hk hw (fun ps hs => ?_) hr
  rw [hw, evs_nil]
  clear hk
  induction xs with
  | nil => rw [List.map_nil, lcLoop_nil]; rfl
  | cons x xs ih =>
    obtain ⟨e2, h1, h2, h3⟩ := hb x
    exact lcl_t h1 rfl h3 h2 (hs e0 rfl) ih
theorem HV.lcPF (ei : α → D) (eo : β → D) (f : α → β) (g : α → Bool) {xs : List α} (ho : HOw P its e ds e1 (· = e0)) (hk : itemsOf k ds = some (xs.map ei)) (hw : wipeE e1 own = e0) (hr : restE e1 e0 own = e')
    (hb : ∀ x, ∃ e2, asgT t (ei x) e0 = some e2 ∧ wipeE e2 own = e0 ∧ HT P cnd e2 (g x) e2 ∧ HF P elt e2 (eo (f x)) e2) : HV P (.lc t k its [cnd] elt own) e (.l (((xs.filter g).map f).map eo)) e' := by
  refine hv_lc (e2 := e0) ho hk hw (fun ps hs => ?_) hr
  rw [hw, evs_cons, evs_nil]
  clear hk
  induction xs with
  | nil => rw [List.map_nil, lcLoop_nil]; rfl
  | cons x xs ih =>
    obtain ⟨e2, h1, h2, h3, h4⟩ := hb x
    by_cases hg : g x = true
    · rw [List.filter_cons_of_pos hg]
      rw [hg] at h3
      exact lcl_t h1 h3 h4 h2 (hs e0 rfl) ih
    · rw [List.filter_cons_of_neg hg]
      have hg : g x = false := by simpa using hg
      rw [hg] at h3
      exact lcl_f h1 h3 h2 (hs e0 rfl) ih
/-- with parts that may lack -/
theorem HV.lcO (ei : α → D) (eo : β → D) (f : α → Option β) {xs : List α} {ys : List β} (hx : mapO f xs = some ys) (ho : HOw P its e ds e1 (· = e0)) (hk : itemsOf k ds = some (xs.map ei)) (hw : wipeE e1 own = e0) (hr : restE e1 e0 own = e')
    (hb : ∀ x y, f x = some y → ∃ e2, asgT t (ei x) e0 = some e2 ∧ wipeE e2 own = e0 ∧ HF P elt e2 (eo y) e2) : HV P (.lc t k its [] elt own) e (.l (ys.map eo)) e' := by
  refine hv_lc (e2 := e0) ho hk hw (fun ps hs => ?_) hr
  rw [hw, evs_nil]
  clear hk
  induction xs generalizing ys with
  | nil => cases hx; rw [List.map_nil, lcLoop_nil]; rfl
  | cons x xs ih =>
    refine ob hx fun y hy hx => ob hx fun zs hz hx => ?_
    cases hx
    obtain ⟨e2, h1, h2, h3⟩ := hb x y hy
    exact lcl_t h1 rfl h3 h2 (hs e0 rfl) (ih hz)
theorem HV.lcOF (ei : α → D) (eo : β → D) (f : α → Option (Option β)) {xs : List α} {ys : List β} (hx : fmapO f xs = some ys) (ho : HOw P its e ds e1 (· = e0)) (hk : itemsOf k ds = some (xs.map ei)) (hw : wipeE e1 own = e0) (hr : restE e1 e0 own = e')
    (hb : ∀ x y, f x = some y → ∃ e2, asgT t (ei x) e0 = some e2 ∧ wipeE e2 own = e0 ∧ HT P cnd e2 y.isSome e2 ∧ ∀ z, y = some z → HF P elt e2 (eo z) e2) : HV P (.lc t k its [cnd] elt own) e (.l (ys.map eo)) e' := by
  refine hv_lc (e2 := e0) ho hk hw (fun ps hs => ?_) hr
  rw [hw, evs_cons, evs_nil]
  clear hk
  induction xs generalizing ys with
  | nil => cases hx; rw [List.map_nil, lcLoop_nil]; rfl
  | cons x xs ih =>
    refine ob hx fun y hy hx => ob hx fun zs hz hx => ?_
    obtain ⟨e2, h1, h2, h3, h4⟩ := hb x y hy
    cases y with
    | none =>
      cases hx
      exact lcl_f h1 h3 h2 (hs e0 rfl) (ih hz)
    | some z =>
      cases hx
      exact lcl_t h1 h3 (h4 z rfl) h2 (hs e0 rfl) (ih hz)
/-- with a state -/
theorem HV.lcS (ei : α → D) (eo : β → D) (E0 : S → En) (f : α → S → Option (β × S)) {xs : List α} {ys : List β} {s s' : S} (hx : mapS f xs s = some (ys, s')) (ho : HOw P its e ds e1 (fun e2 => ∃ s, e2 = E0 s)) (hk : itemsOf k ds = some (xs.map ei)) (hw : wipeE e1 own = E0 s) (hr : restE e1 (E0 s') own = e')
    (hb : ∀ x s y s', f x s = some (y, s') → ∃ e2 e3, asgT t (ei x) (E0 s) = some e2 ∧ HF P elt e2 (eo y) e3 ∧ wipeE e3 own = E0 s') : HV P (.lc t k its [] elt own) e (.l (ys.map eo)) e' := by
  refine hv_lc (e2 := E0 s') ho hk ⟨s, hw⟩ (fun ps hs => ?_) hr
  rw [hw, evs_nil]
  clear hk hw ho
  induction xs generalizing ys s with
  | nil => cases hx; rw [List.map_nil, lcLoop_nil]; rfl
  | cons x xs ih =>
    refine ob hx fun y hy hx => ob hx fun zs hz hx => ?_
    obtain ⟨y, s2⟩ := y
    obtain ⟨zs, s3⟩ := zs
    cases hx
    obtain ⟨e2, e3, h1, h3, h4⟩ := hb x s y s2 hy
    exact lcl_t h1 rfl h3 h4 (hs (E0 s2) ⟨s2, rfl⟩) (ih hz)
theorem HV.lcSF (ei : α → D) (eo : β → D) (E0 : S → En) (f : α → S → Option (Option β × S)) {xs : List α} {ys : List β} {s s' : S} (hx : fmapS f xs s = some (ys, s')) (ho : HOw P its e ds e1 (fun e2 => ∃ s, e2 = E0 s)) (hk : itemsOf k ds = some (xs.map ei)) (hw : wipeE e1 own = E0 s) (hr : restE e1 (E0 s') own = e')
    (hb : ∀ x s y s', f x s = some (y, s') → ∃ e2 e3, asgT t (ei x) (E0 s) = some e2 ∧ HT P cnd e2 y.isSome e3 ∧ (y = none → wipeE e3 own = E0 s') ∧ ∀ z, y = some z → ∃ e4, HF P elt e3 (eo z) e4 ∧ wipeE e4 own = E0 s') : HV P (.lc t k its [cnd] elt own) e (.l (ys.map eo)) e' := by
  refine hv_lc (e2 := E0 s') ho hk ⟨s, hw⟩ (fun ps hs => ?_) hr
  rw [hw, evs_cons, evs_nil]
  clear hk hw ho
  induction xs generalizing ys s with
  | nil => cases hx; rw [List.map_nil, lcLoop_nil]; rfl
  | cons x xs ih =>
    refine ob hx fun y hy hx => ob hx fun zs hz hx => ?_
    obtain ⟨y, s2⟩ := y
    obtain ⟨zs, s3⟩ := zs
    obtain ⟨e2, e3, h1, h2, h3, h4⟩ := hb x s y s2 hy
    cases y with
    | none =>
      cases hx
      exact lcl_f h1 h2 (h3 rfl) (hs (E0 s2) ⟨s2, rfl⟩) (ih hz)
    | some z =>
      cases hx
      obtain ⟨e4, h5, h6⟩ := h4 z rfl
      exact lcl_t h1 h2 h5 h6 (hs (E0 s2) ⟨s2, rfl⟩) (ih hz)
end
/-! statements -/
def GoX (P : Ph) (cs : List C) (e : En) (Q : Oc → Prop) : Prop := ∃ q, Q q ∧ Go P cs e q
section
variable {P : Ph} {A C' : E} {cs ca cb : List C} {e e1 e2 e3 f : En} {s r : Sl} {d : D} {Q : Oc → Prop}
theorem GoX.le (h : GoX P cs e Q) (l : LE e f) : GoX P cs f Q := by
  obtain ⟨q, h1, h2⟩ := h
  exact ⟨q, h1, h2.le l⟩
theorem GoX.cons {c : C} (h : Go1 P c e (.nx f)) (g : GoX P cs f Q) : GoX P (c :: cs) e Q := by
  obtain ⟨q, h1, h2⟩ := g
  exact ⟨q, h1, .cons h h2⟩
theorem GoX.nil (q : Q (.nx f)) (l : LE f e) : GoX P [] e Q := ⟨_, q, .nil l⟩
theorem Go1.asg {i : Nat} (h : HV P A e s e1) (hs : setS i s e1 = some e2) : Go1 P (.asg (.nm i) A) e (.nx e2) :=
  Go1.of (by rw [ex_asg, h, Option.bind_some]; simp only [hs, Option.map_some])
theorem GoX.asg {i : Nat} (h : HV P A e s e1) (hs : setS i s e1 = some e2) (g : GoX P cs e2 Q) : GoX P (.asg (.nm i) A :: cs) e Q := .cons (Go1.asg h hs) g
theorem GoX.unp {ts : List T} (h : HF P A e d e1) (hs : asgT (.tp ts) d e1 = some e2) (g : GoX P cs e2 Q) : GoX P (.asg (.tp ts) A :: cs) e Q :=
  .cons (Go1.of (by rw [ex_unp, show frzM (ev P A).val e = _ from h, Option.bind_some]; simp only [hs, Option.map_some])) g
theorem GoX.seti {x : Nat} {I : E} {k : Int} {j : Nat} {xs : List D} (h : HF P A e d e1) (hx : e1[x]? = some (.l xs)) (hi : HO P I e1 (.int k) e2 e2) (hx2 : e2[x]? = some (.l xs)) (hj : ixN xs.length k = some j) (he : e2.set x (.l (xs.set j d)) = e3) (g : GoX P cs e3 Q) : GoX P (.seti x I A :: cs) e Q := by
  refine .cons (f := e3) (Go1.of ?_) g
  obtain ⟨p, h1, h2⟩ := hi
  rw [ex_seti, show frzM (ev P A).val e = _ from h, Option.bind_some]
  simp only [hx, isL, if_true, h1, Option.bind_some, h2, setiS, hx2, hj, Option.map_some, he]
theorem GoX.aug {i : Nat} {op : Operator} {a : D} (hi : e[i]? = some (.v a)) (h : HF P A e d e1) (ha : augD op a d = some r) (hs : setS i r e1 = some e2) (g : GoX P cs e2 Q) : GoX P (.aug i op A :: cs) e Q :=
  .cons (Go1.of (by rw [ex_aug _ _ _ _ _ a hi, show frzM (ev P A).val e = _ from h, Option.bind_some]; simp only [ha, Option.bind_some, hs, Option.map_some])) g
theorem GoX.app {x : Nat} {xs : List D} (hx : isL e[x]? = true) (h : HF P A e d e1) (hx1 : e1[x]? = some (.l xs)) (hl : xs.length < sizeLine) (he : e1.set x (.l (xs ++ [d])) = e2) (g : GoX P cs e2 Q) : GoX P (.app x A :: cs) e Q :=
  .cons (Go1.of (by rw [ex_app, if_pos hx, show frzM (ev P A).val e = _ from h, Option.bind_some]; simp only [appS, hx1, hl, if_true, he])) g
theorem GoX.ext {x : Nat} {xs ys : List D} (hx : isL e[x]? = true) (h : HF P A e (.list ys) e1) (hx1 : e1[x]? = some (.l xs)) (hl : xs.length + ys.length ≤ sizeLine) (he : e1.set x (.l (xs ++ ys)) = e2) (g : GoX P cs e2 Q) : GoX P (.ext x A :: cs) e Q :=
  .cons (Go1.of (by rw [ex_ext, if_pos hx, show frzM (ev P A).val e = _ from h, Option.bind_some]; simp only [extS, hx1, hl, if_true, he])) g
theorem GoX.expr (h : HV P A e s e1) (g : GoX P cs e1 Q) : GoX P (.expr A :: cs) e Q :=
  .cons (Go1.of (by rw [ex_expr, h]; rfl)) g
theorem GoX.pass (g : GoX P cs e Q) : GoX P (.pass :: cs) e Q := .cons (Go1.of (ex_pass P e)) g
theorem GoX.ret (h : HV P A e s e1) (q : Q (.rt s)) : GoX P (.ret A :: cs) e Q := ⟨_, q, Go.rt ⟨.rt s e1, by rw [ex_ret, h]; rfl, rfl⟩⟩
theorem GoX.retB {ds rs : List Int} {es : En} (h : HV P A e s (.bx ds rs :: es)) (q : Q (.rb s ds rs)) : GoX P (.ret A :: cs) e Q := ⟨_, q, Go.rb ⟨.rt s (.bx ds rs :: es), by rw [ex_ret, h]; rfl, rfl, rfl, rfl⟩⟩
theorem GoX.ct (q : Q (.ct f)) (l : LE f e) : GoX P (.cont :: cs) e Q := ⟨_, q, Go.ct ⟨_, ex_cont P e, l⟩⟩
theorem GoX.bk (q : Q (.bk f)) (l : LE f e) : GoX P (.brk :: cs) e Q := ⟨_, q, Go.bk ⟨_, ex_brk P e, l⟩⟩
theorem GoX.ife {b : Bool} (hc : HT P C' e b e1) (h1 : b = true → GoX P (ca ++ cs) e1 Q) (h2 : b = false → GoX P (cb ++ cs) e1 Q) : GoX P (.ife C' ca cb :: cs) e Q := by
  cases b with
  | true =>
    obtain ⟨q, g1, g2⟩ := h1 rfl
    exact ⟨q, g1, Go.ife hc (by rw [if_pos rfl]; exact g2)⟩
  | false =>
    obtain ⟨q, g1, g2⟩ := h2 rfl
    exact ⟨q, g1, Go.ife hc (by rw [if_neg (by decide)]; exact g2)⟩
theorem GoX.ifeS {α : Type} {c : Bool} {x y : Option α} {w : α} (h : (if c then x else y) = some w) (hc : HT P C' e c e1) (h1 : x = some w → GoX P (ca ++ cs) e1 Q) (h2 : y = some w → GoX P (cb ++ cs) e1 Q) : GoX P (.ife C' ca cb :: cs) e Q :=
  ifE h (fun hb hx => by subst hb; exact GoX.ife hc (fun _ => h1 hx) (fun z => by cases z)) (fun hb hx => by subst hb; exact GoX.ife hc (fun z => by cases z) (fun _ => h2 hx))
theorem Go1.ifeX {b : Bool} (hc : HT P C' e b e1) (h1 : b = true → GoX P ca e1 (· = .nx f)) (h2 : b = false → GoX P cb e1 (· = .nx f)) : Go1 P (.ife C' ca cb) e (.nx f) := by
  cases b with
  | true =>
    obtain ⟨q, rfl, o, g2, g3⟩ := h1 rfl
    exact ⟨o, by rw [ex_ife, hc, Option.bind_some]; exact g2, g3⟩
  | false =>
    obtain ⟨q, rfl, o, g2, g3⟩ := h2 rfl
    exact ⟨o, by rw [ex_ife, hc, Option.bind_some]; exact g2, g3⟩
theorem GoX.ifj {α : Type} {c : Bool} {x y : Option α} {w : α} (h : (if c then x else y) = some w) (hc : HT P C' e c e1) (h1 : x = some w → GoX P ca e1 (· = .nx f)) (h2 : y = some w → GoX P cb e1 (· = .nx f)) (g : GoX P cs f Q) : GoX P (.ife C' ca cb :: cs) e Q :=
  .cons (ifE h (fun hb hx => by subst hb; exact Go1.ifeX hc (fun _ => h1 hx) (fun z => by cases z)) (fun hb hx => by subst hb; exact Go1.ifeX hc (fun z => by cases z) (fun _ => h2 hx))) g
/-- a statement that may end in several ways, then others -/
def QF {S R : Type} (N : S → En) (K : R → Oc → Prop) (B : S → En) : Fl S R → Oc → Prop
  | .nx s, q => q = .nx (N s) ∨ q = .ct (N s)
  | .bk s, q => q = .bk (B s)
  | .rt r, q => K r q
/-- .. of an if within a block: what goes on goes on at the next statement -/
inductive Fj (N S R : Type) where
  | on (n : N) | nx (s : S) | bk (s : S) | rt (r : R)
def QJ {N S R : Type} (J : N → En) (M : S → Oc → Prop) (B : S → Oc → Prop) (K : R → Oc → Prop) : Fj N S R → Oc → Prop
  | .on n, q => q = .nx (J n)
  | .nx s, q => M s q
  | .bk s, q => B s q
  | .rt r, q => K r q
def notNx : Oc → Prop
  | .nx _ => False
  | _ => True
theorem GoX.seq {c : C} {Q1 : Oc → Prop} (h : GoX P [c] e Q1) (h1 : ∀ q, Q1 q → (Q q ∧ notNx q) ∨ ∃ f, q = .nx f ∧ GoX P cs f Q) : GoX P (c :: cs) e Q := by
  obtain ⟨q, g1, o, g2, g3⟩ := h
  rw [exs_cons] at g2
  obtain ⟨o1, g4, g5⟩ := Option.bind_eq_some_iff.mp g2
  rcases h1 q g1 with ⟨k, n⟩ | ⟨f, rfl, g⟩
  · refine ⟨q, k, o, ?_, g3⟩
    rw [exs_cons, g4, Option.bind_some]
    cases o1 with
    | nx e1 =>
      rw [thenO_nx, exs_nil] at g5
      cases g5
      cases q <;> first | exact n.elim | exact g3.elim
    | rt s e1 => cases g5; rfl
    | bk e1 => cases g5; rfl
    | ct e1 => cases g5; rfl
  · cases o1 with
    | nx e1 =>
      rw [thenO_nx, exs_nil] at g5
      cases g5
      exact GoX.cons ⟨_, g4, g3⟩ g
    | rt s e1 => cases g5; exact g3.elim
    | bk e1 => cases g5; exact g3.elim
    | ct e1 => cases g5; exact g3.elim
end
/-! loops -/
section
variable {α S R : Type} {P : Ph} {t : T} {k : IK} {its : List E} {b cs : List C} {e e1 : En} {ds : List D} {Q : Oc → Prop} {c : E}
theorem fr_run {q : Oc} {xs : List D} (h1 : HFs P its e ds e1) (h3 : itemsOf k ds = some xs) (h4 : GoF P t b xs e1 q) : Go1 P (.fr t k its b) e q :=
  Go1.fr h1 (by
    have : ∀ (e : En) (ds : List D), gets e (ds.map .d) = some ds := fun e ds => by
      induction ds with
      | nil => rfl
      | cons d ds ih => rw [List.map_cons, gets_cons, get_d, Option.bind_some, ih]; rfl
    exact this _ _) h3 h4
theorem GoX.forO (N : S → En) (ei : α → D) (f : α → S → Option S) {xs : List α} {s0 s1 : S} (h : Mini.forO f xs s0 = some s1) (hi : HFs P its e ds e1) (l : LE (N s0) e1) (hk : itemsOf k ds = some (xs.map ei))
    (hb : ∀ x s s', f x s = some s' → ∃ e2, asgT t (ei x) (N s) = some e2 ∧ GoX P b e2 (fun q => q = .nx (N s') ∨ q = .ct (N s'))) (g : GoX P cs (N s1) Q) : GoX P (.fr t k its b :: cs) e Q := by
  refine .cons (f := N s1) (fr_run hi hk (GoF.le ?_ l)) g
  clear hk hi g l
  induction xs generalizing s0 with
  | nil => cases h; exact .nil (.refl _)
  | cons x xs ih =>
    refine ob h fun s2 h2 h3 => ?_
    obtain ⟨e2, a1, q, a2, a3⟩ := hb x s0 s2 h2
    rw [List.map_cons]
    rcases a2 with rfl | rfl
    · exact .cons a1 (.inl a3) (ih h3)
    · exact .cons a1 (.inr a3) (ih h3)
/-- what a loop's end is to its block -/
def flK (K : R → Oc → Prop) (N : S → En) : Fl S R → Oc → Prop
  | .nx s, q => q = .nx (N s)
  | .bk _, _ => False
  | .rt r, q => K r q
theorem GoF.forF (N : S → En) (K : R → Oc → Prop) (hK : ∀ r q, K r q → (∃ s, q = .rt s) ∨ ∃ s cs rs, q = .rb s cs rs) (ei : α → D) (f : α → S → Option (Fl S R)) {xs : List α} {s0 : S} {r : Fl S R} (h : Mini.forF f xs s0 = some r)
    (hb : ∀ x s r, f x s = some r → ∃ e2, asgT t (ei x) (N s) = some e2 ∧ GoX P b e2 (QF N K N r)) : ∃ q, flK K N r q ∧ GoF P t b (xs.map ei) (N s0) q := by
  induction xs generalizing s0 with
  | nil => cases h; exact ⟨_, rfl, .nil (.refl _)⟩
  | cons x xs ih =>
    refine ob h fun s2 h2 h3 => ?_
    obtain ⟨e2, a1, q, a2, a3⟩ := hb x s0 s2 h2
    rw [List.map_cons]
    cases s2 with
    | nx s2 =>
      obtain ⟨q2, b1, b2⟩ := ih h3
      rcases a2 with rfl | rfl
      · exact ⟨q2, b1, .cons a1 (.inl a3) b2⟩
      · exact ⟨q2, b1, .cons a1 (.inr a3) b2⟩
    | bk s2 =>
      cases h3
      cases a2
      exact ⟨_, rfl, .bk a1 a3⟩
    | rt r2 =>
      cases h3
      have a2 : K r2 q := a2
      refine ⟨q, a2, ?_⟩
      rcases hK r2 q a2 with ⟨s, rfl⟩ | ⟨s, cs, rs, rfl⟩
      · exact .rt a1 a3
      · obtain ⟨o, h4, h5⟩ := a3
        cases o with
        | rt s2 e3 => exact ⟨_, by simp only [frL, a1, h4, Option.bind_some], h5⟩
        | _ => exact h5.elim
theorem GoX.forF (N : S → En) (K : R → Oc → Prop) (hK : ∀ r q, K r q → (∃ s, q = .rt s) ∨ ∃ s cs rs, q = .rb s cs rs) (ei : α → D) (f : α → S → Option (Fl S R)) {xs : List α} {s0 : S} {r : Fl S R} (h : Mini.forF f xs s0 = some r) (hi : HFs P its e ds e1) (l : LE (N s0) e1) (hk : itemsOf k ds = some (xs.map ei))
    (hb : ∀ x s r, f x s = some r → ∃ e2, asgT t (ei x) (N s) = some e2 ∧ GoX P b e2 (QF N K N r)) (g : ∀ s, r = .nx s → GoX P cs (N s) Q) (g2 : ∀ w q, r = .rt w → K w q → Q q) : GoX P (.fr t k its b :: cs) e Q := by
  obtain ⟨q, h1, h2⟩ := GoF.forF N K hK ei f h hb
  have h3 := fr_run hi hk (h2.le l)
  cases r with
  | nx s => cases h1; exact .cons h3 (g s rfl)
  | bk s => exact h1.elim
  | rt w =>
    refine ⟨q, g2 w q rfl h1, ?_⟩
    rcases hK w q h1 with ⟨s, rfl⟩ | ⟨s, cs, rs, rfl⟩
    · exact .rt h3
    · exact .rb h3
theorem wh_ct {e2 : En} {q : Oc} (h : (ev P c).tst e = some (true, e1)) (g : Go P b e1 (.ct e2)) (r : Go1 P (.wh c b) e2 q) : Go1 P (.wh c b) e q := by
  obtain ⟨o, g1, g2⟩ := g
  cases o with
  | ct e3 =>
    obtain ⟨o2, r1, r2⟩ := r.le g2
    rw [ex_wh] at r1
    refine ⟨o2, ?_, r2⟩
    rw [ex_wh]
    obtain ⟨n, hn⟩ := whC_some r1
    exact whC_of (n := n + 1) (by simp [whN, h, g1, hn])
  | _ => exact g2.elim
theorem wh_bk {e2 : En} (h : (ev P c).tst e = some (true, e1)) (g : Go P b e1 (.bk e2)) : Go1 P (.wh c b) e (.nx e2) := by
  obtain ⟨o, g1, g2⟩ := g
  cases o with
  | bk e3 => exact ⟨.nx e3, by rw [ex_wh]; exact whC_of (n := 1) (by simp [whN, h, g1]), g2⟩
  | _ => exact g2.elim
theorem wh_rb {s : Sl} {cs rs : List Int} (h : (ev P c).tst e = some (true, e1)) (g : Go P b e1 (.rb s cs rs)) : Go1 P (.wh c b) e (.rb s cs rs) := by
  obtain ⟨o, g1, g2⟩ := g
  cases o with
  | rt s2 e3 => exact ⟨.rt s2 e3, by rw [ex_wh]; exact whC_of (n := 1) (by simp [whN, h, g1]), g2⟩
  | _ => exact g2.elim
theorem GoX.whO (N : S → En) (cf : S → Option Bool) (f : S → Option S) {s0 s1 : S} (h : Mini.whO cf f s0 = some s1) (l : LE (N s0) e)
    (hc : ∀ s x, cf s = some x → HT P c (N s) x (N s)) (hb : ∀ s s', f s = some s' → GoX P b (N s) (fun q => q = .nx (N s') ∨ q = .ct (N s'))) (g : GoX P cs (N s1) Q) : GoX P (.wh c b :: cs) e Q := by
  refine .cons (f := N s1) (Go1.le ?_ l) g
  obtain ⟨n, hn⟩ := whO_some h
  clear h g l
  induction n generalizing s0 with
  | zero => cases hn
  | succ n ih =>
    unfold whNO at hn
    refine ob hn fun x h2 h3 => ?_
    have ht := hc s0 x h2
    cases x with
    | false => cases h3; exact .whEnd ht (.refl _)
    | true =>
      refine ob h3 fun s2 h4 h5 => ?_
      obtain ⟨q, a2, a3⟩ := hb s0 s2 h4
      rcases a2 with rfl | rfl
      · exact .wh ht a3 (ih h5)
      · exact wh_ct ht a3 (ih h5)
theorem GoX.whF (N : S → En) (K : R → Oc → Prop) (hK : ∀ r q, K r q → (∃ s, q = .rt s) ∨ ∃ s cs rs, q = .rb s cs rs) (cf : S → Option Bool) (f : S → Option (Fl S R)) {s0 : S} {r : Fl S R} (h : Mini.whF cf f s0 = some r) (l : LE (N s0) e)
    (hc : ∀ s x, cf s = some x → HT P c (N s) x (N s)) (hb : ∀ s r, f s = some r → GoX P b (N s) (QF N K N r)) (g : ∀ s, r = .nx s → GoX P cs (N s) Q) (g2 : ∀ w q, r = .rt w → K w q → Q q) : GoX P (.wh c b :: cs) e Q := by
  have key : ∃ q, flK K N r q ∧ Go1 P (.wh c b) (N s0) q := by
    obtain ⟨n, hn⟩ := whF_some h
    clear h g l g2
    induction n generalizing s0 with
    | zero => cases hn
    | succ n ih =>
      unfold whNF at hn
      refine ob hn fun x h2 h3 => ?_
      have ht := hc s0 x h2
      cases x with
      | false => cases h3; exact ⟨_, rfl, .whEnd ht (.refl _)⟩
      | true =>
        refine ob h3 fun s2 h4 h5 => ?_
        obtain ⟨q, a2, a3⟩ := hb s0 s2 h4
        cases s2 with
        | nx s2 =>
          obtain ⟨q2, b1, b2⟩ := ih h5
          rcases a2 with rfl | rfl
          · exact ⟨q2, b1, .wh ht a3 b2⟩
          · exact ⟨q2, b1, wh_ct ht a3 b2⟩
        | bk s2 =>
          cases h5
          cases a2
          exact ⟨_, rfl, wh_bk ht a3⟩
        | rt r2 =>
          cases h5
          have a2 : K r2 q := a2
          refine ⟨q, a2, ?_⟩
          rcases hK r2 q a2 with ⟨s, rfl⟩ | ⟨s, cs, rs, rfl⟩
          · exact .whRt ht a3
          · exact wh_rb ht a3
  obtain ⟨q, h1, h2⟩ := key
  have h3 := h2.le l
  cases r with
  | nx s => cases h1; exact .cons h3 (g s rfl)
  | bk s => exact h1.elim
  | rt w =>
    refine ⟨q, g2 w q rfl h1, ?_⟩
    rcases hK w q h1 with ⟨s, rfl⟩ | ⟨s, cs, rs, rfl⟩
    · exact .rt h3
    · exact .rb h3
end
/-! functions -/
theorem fnX {es : List Entry} {d j : Nat} {i : FnI} {as : List Sl} {s : Sl} (h : es[j]? = some (.user i)) (hl : as.length = i.ps.length) (hb : hasBx as = i.b) (hx : GoX (callN (tbOf es) d) i.body (as ++ List.replicate (i.N.length - i.ps.length) .no) (· = .rt s)) : retOf (callN (tbOf es) (d + 1)) j as = some s := by
  obtain ⟨q, rfl, h2⟩ := hx
  exact fn_go h hl hb h2
theorem fnXB {es : List Entry} {d j : Nat} {i : FnI} {as : List Sl} {s : Sl} {cs rs : List Int} (h : es[j]? = some (.user i)) (hl : as.length = i.ps.length) (hb : hasBx as = i.b) (hx : GoX (callN (tbOf es) d) i.body (as ++ List.replicate (i.N.length - i.ps.length) .no) (· = .rb s cs rs)) : retB (callN (tbOf es) (d + 1)) j as = some (s, .bx cs rs) := by
  obtain ⟨q, rfl, h2⟩ := hx
  exact fn_goB h hl hb h2
/-! the law's drawing -/
def drawS (st : Bx) (m : Int) : Option (Int × Bx) := match st with
  | (cs, [a, b]) => if divOk m then some ((boxTake cs a b m).1, (boxTake cs a b m).2.1, [(boxTake cs a b m).2.2.1, (boxTake cs a b m).2.2.2]) else none
  | _ => none
def takeS (st : Bx) (m : Int) : Option (Int × Bx) := match st with
  | (cs, [p, s, t]) => if divOk m ∧ 0 ≤ p then some ((tapeTake cs p s t m).1, cs, [(tapeTake cs p s t m).2.1, (tapeTake cs p s t m).2.2.1, (tapeTake cs p s t m).2.2.2]) else none
  | _ => none
def boxS (ns : List Int) : Option Bx := if ns.length ≤ 63 then some (ns, [0, 4711 + ns.length]) else none
def tapeS (ns : List Int) : Option Bx := if ns.length ≤ 63 then some (ns, [0, 0, 1 + ns.length]) else none
section
variable {es : List Entry} {j d : Nat}
theorem R_draw (h : es[j]? = some (.prim 1 primDraw)) (hd : 2 ≤ d) {st : Bx} {m : Int} {r : Int × Bx} (hx : drawS st m = some r) : retB (callN (tbOf es) d) j [.bx st.1 st.2, .v (.int m)] = some (.v (.int r.1), .bx r.2.1 r.2.2) := by
  obtain ⟨d, rfl⟩ : ∃ d', d = d' + 1 := ⟨d - 1, by omega⟩
  unfold drawS at hx
  split at hx
  · rename_i cs a b
    split at hx
    · rename_i g
      cases hx
      unfold retB
      rw [call_prim (m := 1) (g := primDraw) h (by omega)]
      simp [primDraw, g]
    · cases hx
  · cases hx
theorem R_take (h : es[j]? = some (.prim 1 primTake)) (hd : 2 ≤ d) {st : Bx} {m : Int} {r : Int × Bx} (hx : takeS st m = some r) : retB (callN (tbOf es) d) j [.bx st.1 st.2, .v (.int m)] = some (.v (.int r.1), .bx r.2.1 r.2.2) := by
  obtain ⟨d, rfl⟩ : ∃ d', d = d' + 1 := ⟨d - 1, by omega⟩
  unfold takeS at hx
  split at hx
  · rename_i cs a b
    split at hx
    · rename_i g
      cases hx
      unfold retB
      rw [call_prim (m := 1) (g := primTake) h (by omega)]
      simp [primTake, g]
    · cases hx
  · cases hx
theorem R_box (h : es[j]? = some (.prim 0 primBox)) (hd : 1 ≤ d) {ns : List Int} {st : Bx} (hx : boxS ns = some st) : retOf (callN (tbOf es) d) j [.sc ns] = some (.bx st.1 st.2) := by
  obtain ⟨d, rfl⟩ : ∃ d', d = d' + 1 := ⟨d - 1, by omega⟩
  unfold boxS at hx
  split at hx
  · rename_i g
    cases hx
    unfold retOf
    rw [call_prim (m := 0) (g := primBox) h (by omega)]
    simp [primBox, g]
  · cases hx
theorem R_tape (h : es[j]? = some (.prim 0 primTape)) (hd : 1 ≤ d) {ns : List Int} {st : Bx} (hx : tapeS ns = some st) : retOf (callN (tbOf es) d) j [.sc ns] = some (.bx st.1 st.2) := by
  obtain ⟨d, rfl⟩ : ∃ d', d = d' + 1 := ⟨d - 1, by omega⟩
  unfold tapeS at hx
  split at hx
  · rename_i g
    cases hx
    unfold retOf
    rw [call_prim (m := 0) (g := primTape) h (by omega)]
    simp [primTape, g]
  · cases hx
end
/-! values alike -/
def okS : Nat → D → Bool
  | _, .none => true
  | _, .bool _ => true
  | _, .int _ => true
  | _, .str s => SeqAt.shaped (.str s)
  | n + 1, .tuple xs => decide (xs.length ≤ cap) && xs.all (okS n)
  | n + 1, .list xs => decide (xs.length ≤ cap) && xs.all (okS n)
  | _, _ => false
theorem okS_ok : ∀ (n : Nat) (d : D), okS n d = true → OkS n d
  | n, .none, _ => .none n
  | n, .bool b, _ => .bool n b
  | n, .int b, _ => .int n b
  | n, .str s, h => .str n s (by cases n <;> exact h)
  | 0, .tuple xs, h => by cases h
  | 0, .list xs, h => by cases h
  | n + 1, .tuple xs, h => by
    simp only [okS, Bool.and_eq_true, decide_eq_true_eq, List.all_eq_true] at h
    exact .tuple n xs h.1 fun x hx => okS_ok n x (h.2 x hx)
  | n + 1, .list xs, h => by
    simp only [okS, Bool.and_eq_true, decide_eq_true_eq, List.all_eq_true] at h
    exact .list n xs h.1 fun x hx => okS_ok n x (h.2 x hx)
  | n, .dict _, h => by cases n <;> cases h
open Classical in
noncomputable def sameS (a b : D) : Option Bool := if a = b ∧ okS 8 a = true then some true else none
theorem R_same {es : List Entry} {j d : Nat} {i : FnI} (S : SameAt es j i) (hd : 10 ≤ d) {a b : D} {r : Bool} (h : sameS a b = some r) : retOf (callN (tbOf es) d) j [.v a, .v b] = some (.v (.bool r)) := by
  unfold sameS at h
  split at h
  · rename_i g
    cases h
    obtain ⟨rfl, g⟩ := g
    have := same_self S 8 (d - 9) a (okS_ok 8 a g)
    rw [show 8 + (d - 9) + 1 = d by omega] at this
    exact this
  · cases h
end Mini

namespace Mini
open PySem PySem.Spec L2
/-! rules that the printed proofs use -/
theorem pr2 {α β : Type} {C : α × β → Prop} (k : ∀ x0 x1, C (x0, x1)) : ∀ p, C p := fun p => k p.1 p.2
theorem pr3 {α β γ : Type} {C : α × β × γ → Prop} (k : ∀ x0 x1 x2, C (x0, x1, x2)) : ∀ p, C p := fun p => k p.1 p.2.1 p.2.2
theorem pr4 {α β γ δ : Type} {C : α × β × γ × δ → Prop} (k : ∀ x0 x1 x2 x3, C (x0, x1, x2, x3)) : ∀ p, C p := fun p => k p.1 p.2.1 p.2.2.1 p.2.2.2
theorem pr5 {α β γ δ ε : Type} {C : α × β × γ × δ × ε → Prop} (k : ∀ x0 x1 x2 x3 x4, C (x0, x1, x2, x3, x4)) : ∀ p, C p := fun p => k p.1 p.2.1 p.2.2.1 p.2.2.2.1 p.2.2.2.2
theorem pr6 {α β γ δ ε ζ : Type} {C : α × β × γ × δ × ε × ζ → Prop} (k : ∀ x0 x1 x2 x3 x4 x5, C (x0, x1, x2, x3, x4, x5)) : ∀ p, C p := fun p => k p.1 p.2.1 p.2.2.1 p.2.2.2.1 p.2.2.2.2.1 p.2.2.2.2.2
theorem pr7 {α β γ δ ε ζ η : Type} {C : α × β × γ × δ × ε × ζ × η → Prop} (k : ∀ x0 x1 x2 x3 x4 x5 x6, C (x0, x1, x2, x3, x4, x5, x6)) : ∀ p, C p := fun p => k p.1 p.2.1 p.2.2.1 p.2.2.2.1 p.2.2.2.2.1 p.2.2.2.2.2.1 p.2.2.2.2.2.2
theorem pr8 {α β γ δ ε ζ η θ : Type} {C : α × β × γ × δ × ε × ζ × η × θ → Prop} (k : ∀ x0 x1 x2 x3 x4 x5 x6 x7, C (x0, x1, x2, x3, x4, x5, x6, x7)) : ∀ p, C p := fun p => k p.1 p.2.1 p.2.2.1 p.2.2.2.1 p.2.2.2.2.1 p.2.2.2.2.2.1 p.2.2.2.2.2.2.1 p.2.2.2.2.2.2.2
theorem ltE2 {α β ρ : Type} {G : Prop} {z : α × β} {f : α × β → Option ρ} {r : ρ} (h : lt z f = some r) (k : ∀ x0 x1, (x0, x1) = z → f (x0, x1) = some r → G) : G := ltE h fun x hx h => k x.1 x.2 hx h
theorem ltE3 {α β γ ρ : Type} {G : Prop} {z : α × β × γ} {f : α × β × γ → Option ρ} {r : ρ} (h : lt z f = some r) (k : ∀ x0 x1 x2, (x0, x1, x2) = z → f (x0, x1, x2) = some r → G) : G := ltE h fun x hx h => k x.1 x.2.1 x.2.2 hx h
theorem ltE4 {α β γ δ ρ : Type} {G : Prop} {z : α × β × γ × δ} {f : α × β × γ × δ → Option ρ} {r : ρ} (h : lt z f = some r) (k : ∀ x0 x1 x2 x3, (x0, x1, x2, x3) = z → f (x0, x1, x2, x3) = some r → G) : G := ltE h fun x hx h => k x.1 x.2.1 x.2.2.1 x.2.2.2 hx h
theorem ltE5 {α β γ δ ε ρ : Type} {G : Prop} {z : α × β × γ × δ × ε} {f : α × β × γ × δ × ε → Option ρ} {r : ρ} (h : lt z f = some r) (k : ∀ x0 x1 x2 x3 x4, (x0, x1, x2, x3, x4) = z → f (x0, x1, x2, x3, x4) = some r → G) : G := ltE h fun x hx h => k x.1 x.2.1 x.2.2.1 x.2.2.2.1 x.2.2.2.2 hx h
theorem ltE6 {α β γ δ ε ζ ρ : Type} {G : Prop} {z : α × β × γ × δ × ε × ζ} {f : α × β × γ × δ × ε × ζ → Option ρ} {r : ρ} (h : lt z f = some r) (k : ∀ x0 x1 x2 x3 x4 x5, (x0, x1, x2, x3, x4, x5) = z → f (x0, x1, x2, x3, x4, x5) = some r → G) : G := ltE h fun x hx h => k x.1 x.2.1 x.2.2.1 x.2.2.2.1 x.2.2.2.2.1 x.2.2.2.2.2 hx h
theorem ltE7 {α β γ δ ε ζ η ρ : Type} {G : Prop} {z : α × β × γ × δ × ε × ζ × η} {f : α × β × γ × δ × ε × ζ × η → Option ρ} {r : ρ} (h : lt z f = some r) (k : ∀ x0 x1 x2 x3 x4 x5 x6, (x0, x1, x2, x3, x4, x5, x6) = z → f (x0, x1, x2, x3, x4, x5, x6) = some r → G) : G := ltE h fun x hx h => k x.1 x.2.1 x.2.2.1 x.2.2.2.1 x.2.2.2.2.1 x.2.2.2.2.2.1 x.2.2.2.2.2.2 hx h
theorem ltE8 {α β γ δ ε ζ η θ ρ : Type} {G : Prop} {z : α × β × γ × δ × ε × ζ × η × θ} {f : α × β × γ × δ × ε × ζ × η × θ → Option ρ} {r : ρ} (h : lt z f = some r) (k : ∀ x0 x1 x2 x3 x4 x5 x6 x7, (x0, x1, x2, x3, x4, x5, x6, x7) = z → f (x0, x1, x2, x3, x4, x5, x6, x7) = some r → G) : G := ltE h fun x hx h => k x.1 x.2.1 x.2.2.1 x.2.2.2.1 x.2.2.2.2.1 x.2.2.2.2.2.1 x.2.2.2.2.2.2.1 x.2.2.2.2.2.2.2 hx h
theorem lf3 {α β γ : Type} {x0 y0 : α} {x1 y1 : β} {x2 y2 : γ} (h : some (x0, x1, x2) = some (y0, y1, y2)) {C : α → β → γ → Prop} (k : C x0 x1 x2) : C y0 y1 y2 := by cases h; exact k
theorem lf4 {α β γ δ : Type} {x0 y0 : α} {x1 y1 : β} {x2 y2 : γ} {x3 y3 : δ} (h : some (x0, x1, x2, x3) = some (y0, y1, y2, y3)) {C : α → β → γ → δ → Prop} (k : C x0 x1 x2 x3) : C y0 y1 y2 y3 := by cases h; exact k
theorem lf5 {α β γ δ ε : Type} {x0 y0 : α} {x1 y1 : β} {x2 y2 : γ} {x3 y3 : δ} {x4 y4 : ε} (h : some (x0, x1, x2, x3, x4) = some (y0, y1, y2, y3, y4)) {C : α → β → γ → δ → ε → Prop} (k : C x0 x1 x2 x3 x4) : C y0 y1 y2 y3 y4 := by cases h; exact k
theorem lf6 {α β γ δ ε ζ : Type} {x0 y0 : α} {x1 y1 : β} {x2 y2 : γ} {x3 y3 : δ} {x4 y4 : ε} {x5 y5 : ζ} (h : some (x0, x1, x2, x3, x4, x5) = some (y0, y1, y2, y3, y4, y5)) {C : α → β → γ → δ → ε → ζ → Prop} (k : C x0 x1 x2 x3 x4 x5) : C y0 y1 y2 y3 y4 y5 := by cases h; exact k
theorem lf7 {α β γ δ ε ζ η : Type} {x0 y0 : α} {x1 y1 : β} {x2 y2 : γ} {x3 y3 : δ} {x4 y4 : ε} {x5 y5 : ζ} {x6 y6 : η} (h : some (x0, x1, x2, x3, x4, x5, x6) = some (y0, y1, y2, y3, y4, y5, y6)) {C : α → β → γ → δ → ε → ζ → η → Prop} (k : C x0 x1 x2 x3 x4 x5 x6) : C y0 y1 y2 y3 y4 y5 y6 := by cases h; exact k
theorem lf8 {α β γ δ ε ζ η θ : Type} {x0 y0 : α} {x1 y1 : β} {x2 y2 : γ} {x3 y3 : δ} {x4 y4 : ε} {x5 y5 : ζ} {x6 y6 : η} {x7 y7 : θ} (h : some (x0, x1, x2, x3, x4, x5, x6, x7) = some (y0, y1, y2, y3, y4, y5, y6, y7)) {C : α → β → γ → δ → ε → ζ → η → θ → Prop} (k : C x0 x1 x2 x3 x4 x5 x6 x7) : C y0 y1 y2 y3 y4 y5 y6 y7 := by cases h; exact k
theorem ob2 {α β ρ : Type} {G : Prop} {o : Option (α × β)} {f : α × β → Option ρ} {r : ρ} (h : o.bind f = some r) (k : ∀ x0 x1, o = some (x0, x1) → f (x0, x1) = some r → G) : G := ob h fun x hx h => k x.1 x.2 hx h
theorem ob3 {α β γ ρ : Type} {G : Prop} {o : Option (α × β × γ)} {f : α × β × γ → Option ρ} {r : ρ} (h : o.bind f = some r) (k : ∀ x0 x1 x2, o = some (x0, x1, x2) → f (x0, x1, x2) = some r → G) : G := ob h fun x hx h => k x.1 x.2.1 x.2.2 hx h
theorem ob4 {α β γ δ ρ : Type} {G : Prop} {o : Option (α × β × γ × δ)} {f : α × β × γ × δ → Option ρ} {r : ρ} (h : o.bind f = some r) (k : ∀ x0 x1 x2 x3, o = some (x0, x1, x2, x3) → f (x0, x1, x2, x3) = some r → G) : G := ob h fun x hx h => k x.1 x.2.1 x.2.2.1 x.2.2.2 hx h
theorem ob5 {α β γ δ ε ρ : Type} {G : Prop} {o : Option (α × β × γ × δ × ε)} {f : α × β × γ × δ × ε → Option ρ} {r : ρ} (h : o.bind f = some r) (k : ∀ x0 x1 x2 x3 x4, o = some (x0, x1, x2, x3, x4) → f (x0, x1, x2, x3, x4) = some r → G) : G := ob h fun x hx h => k x.1 x.2.1 x.2.2.1 x.2.2.2.1 x.2.2.2.2 hx h
theorem ob6 {α β γ δ ε ζ ρ : Type} {G : Prop} {o : Option (α × β × γ × δ × ε × ζ)} {f : α × β × γ × δ × ε × ζ → Option ρ} {r : ρ} (h : o.bind f = some r) (k : ∀ x0 x1 x2 x3 x4 x5, o = some (x0, x1, x2, x3, x4, x5) → f (x0, x1, x2, x3, x4, x5) = some r → G) : G := ob h fun x hx h => k x.1 x.2.1 x.2.2.1 x.2.2.2.1 x.2.2.2.2.1 x.2.2.2.2.2 hx h
theorem ob7 {α β γ δ ε ζ η ρ : Type} {G : Prop} {o : Option (α × β × γ × δ × ε × ζ × η)} {f : α × β × γ × δ × ε × ζ × η → Option ρ} {r : ρ} (h : o.bind f = some r) (k : ∀ x0 x1 x2 x3 x4 x5 x6, o = some (x0, x1, x2, x3, x4, x5, x6) → f (x0, x1, x2, x3, x4, x5, x6) = some r → G) : G := ob h fun x hx h => k x.1 x.2.1 x.2.2.1 x.2.2.2.1 x.2.2.2.2.1 x.2.2.2.2.2.1 x.2.2.2.2.2.2 hx h
theorem ob8 {α β γ δ ε ζ η θ ρ : Type} {G : Prop} {o : Option (α × β × γ × δ × ε × ζ × η × θ)} {f : α × β × γ × δ × ε × ζ × η × θ → Option ρ} {r : ρ} (h : o.bind f = some r) (k : ∀ x0 x1 x2 x3 x4 x5 x6 x7, o = some (x0, x1, x2, x3, x4, x5, x6, x7) → f (x0, x1, x2, x3, x4, x5, x6, x7) = some r → G) : G := ob h fun x hx h => k x.1 x.2.1 x.2.2.1 x.2.2.2.1 x.2.2.2.2.1 x.2.2.2.2.2.1 x.2.2.2.2.2.2.1 x.2.2.2.2.2.2.2 hx h
section
variable {α β γ δ : Type}
def un2 : List α → Option (α × α)
  | [a, b] => some (a, b)
  | _ => none
def un3 : List α → Option (α × α × α)
  | [a, b, c] => some (a, b, c)
  | _ => none
def un4 : List α → Option (α × α × α × α)
  | [a, b, c, d] => some (a, b, c, d)
  | _ => none
theorem un2_ok {xs : List α} {a b : α} (h : un2 xs = some (a, b)) : xs = [a, b] := by unfold un2 at h; split at h <;> cases h; rfl
theorem un3_ok {xs : List α} {a b c : α} (h : un3 xs = some (a, b, c)) : xs = [a, b, c] := by unfold un3 at h; split at h <;> cases h; rfl
theorem un4_ok {xs : List α} {a b c d : α} (h : un4 xs = some (a, b, c, d)) : xs = [a, b, c, d] := by unfold un4 at h; split at h <;> cases h; rfl
def flM {S R β : Type} (fl : Fl S R) (f : S → Option β) (g : R → Option β) : Option β := match fl with
  | .nx s => f s
  | .bk _ => none
  | .rt r => g r
theorem flN {S R β : Type} {fl : Fl S R} {s : S} {f : S → Option β} {g : R → Option β} {r : β} (hs : fl = .nx s) (h : flM fl f g = some r) : f s = some r := by subst hs; exact h
theorem flRt {S R β : Type} {fl : Fl S R} {s : R} {f : S → Option β} {g : R → Option β} {x y : β} (hs : fl = .rt s) (h : flM fl f g = some y) (e : g s = some x) {C : β → Prop} (k : C x) : C y := by
  have h2 : g s = some y := by subst hs; exact h
  rw [e] at h2; cases h2; exact k
theorem flRn {S R β : Type} {fl : Fl S R} {s : R} {f : S → Option β} {g : R → Option β} {y : β} (hs : fl = .rt s) (h : flM fl f g = some y) (e : g s = none) : False := by
  have h2 : g s = some y := by subst hs; exact h
  rw [e] at h2; cases h2
theorem flR {S R β : Type} {fl : Fl S R} {s : R} {f : S → Option β} {g : R → Option β} {r : Option β} (hs : fl = .rt s) (h : flM fl f g = r) : g s = r := by subst hs; exact h
def idxX [DecidableEq α] (x : α) (xs : List α) : Option Int := if x ∈ xs then some (xs.idxOf x : Nat) else none
theorem idxOf_map {k : Nat} {e : α → D} [DecidableEq α] (h : EqE k e) (x : α) : ∀ (xs : List α) (j : Nat), idxOf (e x) (xs.map e) j = if x ∈ xs then some (j + xs.idxOf x) else none
  | [], j => by simp [idxOf]
  | y :: ys, j => by
    rw [List.map_cons, idxOf, h.dec]
    by_cases q : y = x
    · subst q; simp
    · have q' : ¬ x = y := fun z => q z.symm
      rw [decide_eq_false q, if_neg (by decide), idxOf_map h x ys (j + 1)]
      by_cases m : x ∈ ys
      · rw [if_pos m, if_pos (List.mem_cons_of_mem _ m), List.idxOf_cons, show (y == x) = false from beq_eq_false_iff_ne.mpr q]; simp only [cond_false]; congr 1; omega
      · rw [if_neg m, if_neg]; simp [q', m]
theorem idxXs {k : Nat} {e : α → D} [DecidableEq α] (h : EqE k e) (hk : k ≤ 63) {x : α} {xs : List α} {i : Int} (hx : idxX x xs = some i) : mthD .index (eL e xs) (e x) = some (.v (.int i)) := by
  unfold idxX at hx
  split at hx
  · rename_i m
    cases hx
    show (if _ then _ else _) = _
    rw [if_pos ⟨h.L.sh (by omega) xs, h.sh (by omega) x⟩, idxOf_map h x xs 0, if_pos m]
    simp
  · cases hx
variable {P : Ph} {A C' I : E} {cs ca cb : List C} {e e0 e1 e2 e3 : En} {Q : Oc → Prop}
theorem HBV.andB {B : E} {es : List E} {b : Bool} {d : D} (h : HF P A e (.bool b) e1) (h1 : b = true → HBV P .And (B :: es) e1 d e2) (h0 : b = false → d = .bool false ∧ e2 = e1) : HBV P .And (A :: B :: es) e d e2 :=
  HBV.andO h rfl h1 fun hb => by obtain ⟨rfl, rfl⟩ := h0 hb; subst hb; exact ⟨rfl, rfl⟩
theorem HBV.orB {B : E} {es : List E} {b : Bool} {d : D} (h : HF P A e (.bool b) e1) (h1 : b = false → HBV P .Or (B :: es) e1 d e2) (h0 : b = true → d = .bool true ∧ e2 = e1) : HBV P .Or (A :: B :: es) e d e2 :=
  HBV.orO h rfl h1 fun hb => by obtain ⟨rfl, rfl⟩ := h0 hb; subst hb; exact ⟨rfl, rfl⟩
theorem HO.cst {d : D} : HO P (.cst d) e d e e2 := HO.of HV.cst rfl rfl
theorem HF.cst {d : D} : HF P (.cst d) e d e := HV.f HV.cst rfl
theorem HOw.cast1 {es : List E} {x y : D} {ds : List D} {W : En → Prop} (q : x = y) (h : HOw P es e (x :: ds) e1 W) : HOw P es e (y :: ds) e1 W := q ▸ h
theorem lf1 {x y : α} (h : some x = some y) {C : α → Prop} (k : C x) : C y := by cases h; exact k
theorem lf2 {x y : α} {a b : β} (h : some (x, a) = some (y, b)) {C : α → β → Prop} (k : C x a) : C y b := by cases h; exact k
theorem GoX.retB2 {s : Sl} {ds rs : List Int} {es : En} (h : HV P A e s e1) (he : e1 = .bx ds rs :: es) (q : Q (.rb s ds rs)) : GoX P (.ret A :: cs) e Q := GoX.retB (he ▸ h) q
theorem HV.bnd {x y : α} (f : α → Sl) (hx : y = x) (h : HV P A e (f x) e1) : HV P A e (f y) e1 := hx ▸ h
theorem HV.popS {i : Nat} (en : α → D) {xs ys : List α} {x : α} (h : e[i]? = some (.l (xs.map en))) (hs : popO xs = some (x, ys)) (he : e.set i (.l (ys.map en)) = e1) : HV P (.pop i) e (.v (en x)) e1 := by
  unfold popO at hs
  obtain ⟨z, h1, h2⟩ := Option.map_eq_some_iff.mp hs
  cases h2
  refine HV.pop h (by rw [List.getLast?_map, h1]; rfl) ?_
  rw [← he, List.map_dropLast]
theorem GoX.appS {x : Nat} (en : α → D) {xs ys : List α} {v : α} (hx : isL e[x]? = true) (h : HF P A e (en v) e1) (hx1 : e1[x]? = some (.l (xs.map en))) (hs : appX xs v = some ys) (he : e1.set x (.l (ys.map en)) = e2) (g : GoX P cs e2 Q) : GoX P (.app x A :: cs) e Q := by
  unfold appX at hs
  split at hs
  · rename_i hl
    cases hs
    refine GoX.app hx h hx1 (by rw [List.length_map]; exact hl) ?_ g
    rw [← he, List.map_append]; rfl
  · cases hs
theorem GoX.extS {x : Nat} (en : α → D) {xs ys zs : List α} (hx : isL e[x]? = true) (h : HF P A e (.list (ys.map en)) e1) (hx1 : e1[x]? = some (.l (xs.map en))) (hs : catO xs ys = some zs) (he : e1.set x (.l (zs.map en)) = e2) (g : GoX P cs e2 Q) : GoX P (.ext x A :: cs) e Q := by
  unfold catO at hs
  split at hs
  · rename_i hl
    cases hs
    refine GoX.ext hx h hx1 (by rw [List.length_map, List.length_map]; exact hl) ?_ g
    rw [← he, List.map_append]
  · cases hs
theorem GoX.setiS {x : Nat} (en : α → D) {xs ys : List α} {v : α} {k : Int} (h : HF P A e (en v) e1) (hi : HO P I e1 (.int k) e2 e2) (hx : e1[x]? = some (.l (xs.map en))) (hs : setI xs k v = some ys) (hx2 : e2[x]? = some (.l (xs.map en))) (he : e2.set x (.l (ys.map en)) = e3) (g : GoX P cs e3 Q) : GoX P (.seti x I A :: cs) e Q := by
  unfold setI at hs
  obtain ⟨j, h1, h2⟩ := Option.map_eq_some_iff.mp hs
  subst h2
  refine GoX.seti h hx hi hx2 (j := j) (e3 := e3) (by rw [List.length_map]; exact h1) ?_ g
  rw [← he, List.map_set]
theorem GoX.par {i j : Nat} {A B : E} {s t : Sl} {e4 : En} (ha : HV P A e s e1) (hb : HV P B e1 t e2) (h1 : setS i s e2 = some e3) (h2 : setS j t e3 = some e4) (g : GoX P cs e4 Q) : GoX P (.par i j A B :: cs) e Q := by
  refine .cons (f := e4) (Go1.of ?_) g
  rw [ex_par]
  unfold parM
  rw [ha, Option.bind_some]
  simp only [show (ev P B).val e1 = _ from hb, Option.map_some, Option.bind_some, h1, h2]
/-- so many values, new lists owned -/
inductive HVs (P : Ph) : List E → En → List Sl → En → Prop where
  | nil {e : En} : HVs P [] e [] e
  | cons {A : E} {es : List E} {e e1 e2 : En} {s : Sl} {ss : List Sl} (h : HV P A e s e1) (t : HVs P es e1 ss e2) : HVs P (A :: es) e (s :: ss) e2
theorem HVs.run {es : List E} {e e2 : En} {ss : List Sl} (h : HVs P es e ss e2) : parMs (evs P es) e = some (ss, e2) := by
  induction h with
  | nil => rfl
  | cons h t ih =>
    rw [evs]
    unfold parMs
    rw [h, Option.bind_some]
    dsimp only
    rw [ih]; rfl
theorem GoX.parn {is : List Nat} {es : List E} {ss : List Sl} {e4 : En} (h : HVs P es e ss e2) (hl : ss.length ≤ 1000) (hs : setSs is ss e2 = some e4) (g : GoX P cs e4 Q) : GoX P (.parn is es :: cs) e Q := by
  refine .cons (f := e4) (Go1.of ?_) g
  rw [ex_parn, h.run, Option.bind_some, if_pos (show ss.length ≤ sizeLine by unfold sizeLine; omega), hs]; rfl
theorem GoX.auglS {x : Nat} (en : α → D) {xs ys zs : List α} (hx : isL e[x]? = true) (h : HF P A e (.list (ys.map en)) e1) (hx1 : e1[x]? = some (.l (xs.map en))) (hs : catO xs ys = some zs) (he : e1.set x (.l (zs.map en)) = e2) (g : GoX P cs e2 Q) : GoX P (.augl x A :: cs) e Q := by
  unfold catO at hs
  split at hs
  · rename_i hl
    cases hs
    refine .cons (f := e2) (Go1.of ?_) g
    rw [ex_augl, if_pos hx, show frzM (ev P A).val e = _ from h, Option.bind_some]
    have hl2 : (xs.map en).length + (ys.map en).length ≤ sizeLine := by rw [List.length_map, List.length_map]; exact hl
    simp only [Mini.extS, hx1, hl2, if_true]
    rw [← he, List.map_append]
  · cases hs
def insX (xs : List α) (k : Int) (v : α) : Option (List α) := if xs.length < sizeLine ∧ 0 ≤ k ∧ k < 2 ^ 63 then some (xs.take k.toNat ++ [v] ++ xs.drop k.toNat) else none
theorem GoX.insS {x : Nat} (en : α → D) {xs ys : List α} {v : α} {k : Int} (hx : isL e[x]? = true) (h : HAs P [I, A] e [.int k, en v] e1) (hx1 : e1[x]? = some (.l (xs.map en))) (hs : insX xs k v = some ys) (he : e1.set x (.l (ys.map en)) = e2) (g : GoX P cs e2 Q) : GoX P (.ins x I A :: cs) e Q := by
  unfold insX at hs
  split at hs
  · rename_i hl
    cases hs
    refine .cons (f := e2) (Go1.of ?_) g
    have h' : argsM [ev P I, ev P A] e = some ([.int k, en v], e1) := by unfold HAs at h; rwa [evs_cons, evs_cons, evs_nil] at h
    rw [ex_ins, if_pos hx, h', Option.bind_some]
    have hl2 : (xs.map en).length < sizeLine ∧ 0 ≤ k ∧ k < 2 ^ 63 := by rw [List.length_map]; exact hl
    simp only [Mini.insS, hx1, hl2, and_self, if_true]
    rw [← he, List.map_append, List.map_append, List.map_take, List.map_drop]; rfl
  · cases hs
def remX (xs : List Int) (k : Int) : Option (List Int) := if k ∈ xs then some (xs.eraseIdx (xs.idxOf k)) else none
theorem GoX.remS {x : Nat} {xs ys : List Int} {k : Int} (hx : isL e[x]? = true) (h : HF P A e (.int k) e1) (hx1 : e1[x]? = some (.l (xs.map eI))) (hs : remX xs k = some ys) (he : e1.set x (.l (ys.map eI)) = e2) (g : GoX P cs e2 Q) : GoX P (.rem x A :: cs) e Q := by
  unfold remX at hs
  split at hs
  · rename_i hl
    cases hs
    refine .cons (f := e2) (Go1.of ?_) g
    rw [ex_rem, if_pos hx, show frzM (ev P A).val e = _ from h, Option.bind_some]
    simp only [Mini.remS, hx1, intsE, Option.bind_some, hl, if_true]
    rw [← he]
  · cases hs
/-- x[i] op= e -/
theorem GoX.augiS {x : Nat} {op : Operator} (en : α → D) {xs ys : List α} {old w : α} {k : Int} {d : D} (hx : isL e[x]? = true) (hi : HO P I e (.int k) e1 e1) (hx1 : e1[x]? = some (.l (xs.map en))) (ho : gI xs k = some old) (h : HF P A e1 d e2) (ha : augD op (en old) d = some (.v (en w))) (hx2 : e2[x]? = some (.l (xs.map en))) (hs : setI xs k w = some ys) (he : e2.set x (.l (ys.map en)) = e3) (g : GoX P cs e3 Q) : GoX P (.augi x I op A :: cs) e Q := by
  unfold setI at hs
  obtain ⟨j, h1, h2⟩ := Option.map_eq_some_iff.mp hs
  subst h2
  obtain ⟨p, p1, p2⟩ := hi
  refine .cons (f := e3) (Go1.of ?_) g
  have at_ : atI (xs.map en) k = some (en old) := by rw [atI_map, ho]; rfl
  have j1 : ixN (xs.map en).length k = some j := by rw [List.length_map]; exact h1
  rw [ex_augi, if_pos hx, p1, Option.bind_some]
  simp only [p2, Option.bind_some, hx1, at_, show frzM (ev P A).val e1 = _ from h, ha, frz_v, Mini.setiS, hx2, j1, Option.map_some]
  rw [← he, List.map_set]
theorem GoX.ifeP {R : Type} {b : Bool} (f : R → Sl) {u v : R} (hc : HT P C' e b e1) (h1 : GoX P (ca ++ cs) e1 (· = .rt (f u))) (h2 : GoX P (cb ++ cs) e1 (· = .rt (f v))) : GoX P (.ife C' ca cb :: cs) e (· = .rt (f (if b then u else v))) := by
  cases b with
  | true => exact GoX.ife hc (fun _ => h1) (fun z => by cases z)
  | false => exact GoX.ife hc (fun z => by cases z) (fun _ => h2)
end
end Mini

namespace Mini
open PySem PySem.Spec L2
/-! loops that only a break ends: what the break leaves is told by itself -/
section
variable {P : Ph} {c : E} {b cs : List C} {e : En} {S B R : Type} {Q : Oc → Prop}
def QT (N : S → En) (NB : B → En) (K : R → Oc → Prop) : Fl S (B ⊕ R) → Oc → Prop
  | .nx s, q => q = .nx (N s) ∨ q = .ct (N s)
  | .bk _, _ => False
  | .rt (.inl z), q => q = .bk (NB z)
  | .rt (.inr r), q => K r q
def flT (NB : B → En) (K : R → Oc → Prop) : Fl S (B ⊕ R) → Oc → Prop
  | .nx _, _ => False
  | .bk _, _ => False
  | .rt (.inl z), q => q = .nx (NB z)
  | .rt (.inr r), q => K r q
theorem GoX.whT (N : S → En) (NB : B → En) (K : R → Oc → Prop) (hK : ∀ r q, K r q → (∃ s, q = .rt s) ∨ ∃ s cs rs, q = .rb s cs rs) (f : S → Option (Fl S (B ⊕ R))) {s0 : S} {r : Fl S (B ⊕ R)} (h : Mini.whF (fun _ => some true) f s0 = some r) (l : LE (N s0) e)
    (hc : ∀ s, HT P c (N s) true (N s)) (hb : ∀ s r, f s = some r → GoX P b (N s) (QT N NB K r)) (g : ∀ z, r = .rt (.inl z) → GoX P cs (NB z) Q) (g2 : ∀ w q, r = .rt (.inr w) → K w q → Q q) : GoX P (.wh c b :: cs) e Q := by
  have key : ∃ q, flT NB K r q ∧ Go1 P (.wh c b) (N s0) q := by
    obtain ⟨n, hn⟩ := whF_some h
    clear h g l g2
    induction n generalizing s0 with
    | zero => cases hn
    | succ n ih =>
      unfold whNF at hn
      refine ob hn fun x h2 h3 => ?_
      cases h2
      have ht := hc s0
      refine ob h3 fun s2 h4 h5 => ?_
      obtain ⟨q, a2, a3⟩ := hb s0 s2 h4
      cases s2 with
      | nx s2 =>
        obtain ⟨q2, b1, b2⟩ := ih h5
        rcases a2 with rfl | rfl
        · exact ⟨q2, b1, .wh ht a3 b2⟩
        · exact ⟨q2, b1, wh_ct ht a3 b2⟩
      | bk s2 => exact a2.elim
      | rt r2 =>
        cases h5
        cases r2 with
        | inl z =>
          cases a2
          exact ⟨_, rfl, wh_bk ht a3⟩
        | inr w =>
          have a2 : K w q := a2
          refine ⟨q, a2, ?_⟩
          rcases hK w q a2 with ⟨s, rfl⟩ | ⟨s, cs, rs, rfl⟩
          · exact .whRt ht a3
          · exact wh_rb ht a3
  obtain ⟨q, h1, h2⟩ := key
  have h3 := h2.le l
  cases r with
  | nx s => exact h1.elim
  | bk s => exact h1.elim
  | rt w =>
    cases w with
    | inl z => cases h1; exact .cons h3 (g z rfl)
    | inr w =>
      refine ⟨q, g2 w q rfl h1, ?_⟩
      rcases hK w q h1 with ⟨s, rfl⟩ | ⟨s, cs, rs, rfl⟩
      · exact .rt h3
      · exact .rb h3
def flB {S B R β : Type} (fl : Fl S (B ⊕ R)) (f : B → Option β) (g : R → Option β) : Option β := match fl with
  | .nx _ => none
  | .bk _ => none
  | .rt (.inl z) => f z
  | .rt (.inr r) => g r
theorem flBN {S B R β : Type} {fl : Fl S (B ⊕ R)} {s : B} {f : B → Option β} {g : R → Option β} {r : β} (hs : fl = .rt (.inl s)) (h : flB fl f g = some r) : f s = some r := by subst hs; exact h
theorem flBRt {S B R β : Type} {fl : Fl S (B ⊕ R)} {s : R} {f : B → Option β} {g : R → Option β} {x y : β} (hs : fl = .rt (.inr s)) (h : flB fl f g = some y) (e : g s = some x) {C : β → Prop} (k : C x) : C y := by
  have h2 : g s = some y := by subst hs; exact h
  rw [e] at h2; cases h2; exact k
theorem flBRn {S B R β : Type} {fl : Fl S (B ⊕ R)} {s : R} {f : B → Option β} {g : R → Option β} {y : β} (hs : fl = .rt (.inr s)) (h : flB fl f g = some y) (e : g s = none) : False := by
  have h2 : g s = some y := by subst hs; exact h
  rw [e] at h2; cases h2
end
/-! loops whose names are owned at first and frozen from the first turn on -/
section
variable {α S R : Type} {P : Ph} {t : T} {k : IK} {its : List E} {b cs : List C} {e e1 : En} {ds : List D} {Q : Oc → Prop} {c : E}
theorem GoX.forO2 (N1 N : S → En) (ei : α → D) (f : α → S → Option S) {xs : List α} {s0 s1 : S} (h : Mini.forO f xs s0 = some s1) (hi : HFs P its e ds e1) (l : LE (N1 s0) e1) (hk : itemsOf k ds = some (xs.map ei))
    (hb1 : ∀ x s s', f x s = some s' → ∃ e2, asgT t (ei x) (N1 s) = some e2 ∧ GoX P b e2 (fun q => q = .nx (N s') ∨ q = .ct (N s')))
    (hb : ∀ x s s', f x s = some s' → ∃ e2, asgT t (ei x) (N s) = some e2 ∧ GoX P b e2 (fun q => q = .nx (N s') ∨ q = .ct (N s'))) (g1 : GoX P cs (N1 s1) Q) (g : GoX P cs (N s1) Q) : GoX P (.fr t k its b :: cs) e Q := by
  have key : ∀ (xs : List α) (s0 s1 : S), Mini.forO f xs s0 = some s1 → GoF P t b (xs.map ei) (N s0) (.nx (N s1)) := by
    intro xs
    induction xs with
    | nil => intro s0 s1 h; cases h; exact .nil (.refl _)
    | cons x xs ih =>
      intro s0 s1 h
      refine ob h fun s2 h2 h3 => ?_
      obtain ⟨e2, a1, q, a2, a3⟩ := hb x s0 s2 h2
      rw [List.map_cons]
      rcases a2 with rfl | rfl
      · exact .cons a1 (.inl a3) (ih _ _ h3)
      · exact .cons a1 (.inr a3) (ih _ _ h3)
  cases xs with
  | nil => cases h; exact .cons (f := N1 s0) (fr_run hi hk (GoF.le (.nil (.refl _)) l)) g1
  | cons x xs =>
    refine .cons (f := N s1) (fr_run hi hk (GoF.le ?_ l)) g
    refine ob h fun s2 h2 h3 => ?_
    obtain ⟨e2, a1, q, a2, a3⟩ := hb1 x s0 s2 h2
    rw [List.map_cons]
    rcases a2 with rfl | rfl
    · exact .cons a1 (.inl a3) (key _ _ _ h3)
    · exact .cons a1 (.inr a3) (key _ _ _ h3)
theorem GoX.forF2 (N1 N : S → En) (K : R → Oc → Prop) (hK : ∀ r q, K r q → (∃ s, q = .rt s) ∨ ∃ s cs rs, q = .rb s cs rs) (ei : α → D) (f : α → S → Option (Fl S R)) {xs : List α} {s0 : S} {r : Fl S R} (h : Mini.forF f xs s0 = some r) (hi : HFs P its e ds e1) (l : LE (N1 s0) e1) (hk : itemsOf k ds = some (xs.map ei))
    (hb1 : ∀ x s r, f x s = some r → ∃ e2, asgT t (ei x) (N1 s) = some e2 ∧ GoX P b e2 (QF N K N r))
    (hb : ∀ x s r, f x s = some r → ∃ e2, asgT t (ei x) (N s) = some e2 ∧ GoX P b e2 (QF N K N r)) (g1 : ∀ s, r = .nx s → GoX P cs (N1 s) Q) (g : ∀ s, r = .nx s → GoX P cs (N s) Q) (g2 : ∀ w q, r = .rt w → K w q → Q q) : GoX P (.fr t k its b :: cs) e Q := by
  cases xs with
  | nil => cases h; exact .cons (f := N1 s0) (fr_run hi hk (GoF.le (.nil (.refl _)) l)) (g1 s0 rfl)
  | cons x xs =>
    have key : ∃ q, flK K N r q ∧ GoF P t b ((x :: xs).map ei) (N1 s0) q := by
      refine ob h fun s2 h2 h3 => ?_
      obtain ⟨e2, a1, q, a2, a3⟩ := hb1 x s0 s2 h2
      rw [List.map_cons]
      cases s2 with
      | nx s2 =>
        obtain ⟨q2, b1, b2⟩ := GoF.forF N K hK ei f h3 hb
        rcases a2 with rfl | rfl
        · exact ⟨q2, b1, .cons a1 (.inl a3) b2⟩
        · exact ⟨q2, b1, .cons a1 (.inr a3) b2⟩
      | bk s2 =>
        cases h3
        cases a2
        exact ⟨_, rfl, .bk a1 a3⟩
      | rt r2 =>
        cases h3
        have a2 : K r2 q := a2
        refine ⟨q, a2, ?_⟩
        rcases hK r2 q a2 with ⟨s, rfl⟩ | ⟨s, cs, rs, rfl⟩
        · exact .rt a1 a3
        · obtain ⟨o, h4, h5⟩ := a3
          cases o with
          | rt s2 e3 => exact ⟨_, by simp only [frL, a1, h4, Option.bind_some], h5⟩
          | _ => exact h5.elim
    obtain ⟨q, h1, h2⟩ := key
    have h3 := fr_run hi hk (h2.le l)
    cases r with
    | nx s => cases h1; exact .cons h3 (g s rfl)
    | bk s => exact h1.elim
    | rt w =>
      refine ⟨q, g2 w q rfl h1, ?_⟩
      rcases hK w q h1 with ⟨s, rfl⟩ | ⟨s, cs, rs, rfl⟩
      · exact .rt h3
      · exact .rb h3
theorem GoX.whO2 (N1 N : S → En) (cf : S → Option Bool) (f : S → Option S) {s0 s1 : S} (h : Mini.whO cf f s0 = some s1) (l : LE (N1 s0) e)
    (hc1 : ∀ s x, cf s = some x → HT P c (N1 s) x (N1 s)) (hb1 : ∀ s s', f s = some s' → GoX P b (N1 s) (fun q => q = .nx (N s') ∨ q = .ct (N s')))
    (hc : ∀ s x, cf s = some x → HT P c (N s) x (N s)) (hb : ∀ s s', f s = some s' → GoX P b (N s) (fun q => q = .nx (N s') ∨ q = .ct (N s'))) (g1 : GoX P cs (N1 s1) Q) (g : GoX P cs (N s1) Q) : GoX P (.wh c b :: cs) e Q := by
  have key : ∀ (n : Nat) (s0 s1 : S), whNO cf f n s0 = some s1 → Go1 P (.wh c b) (N s0) (.nx (N s1)) := by
    intro n
    induction n with
    | zero => intro s0 s1 h; cases h
    | succ n ih =>
      intro s0 s1 h
      unfold whNO at h
      refine ob h fun x h2 h3 => ?_
      have ht := hc s0 x h2
      cases x with
      | false => cases h3; exact .whEnd ht (.refl _)
      | true =>
        refine ob h3 fun s2 h4 h5 => ?_
        obtain ⟨q, a2, a3⟩ := hb s0 s2 h4
        rcases a2 with rfl | rfl
        · exact .wh ht a3 (ih _ _ h5)
        · exact wh_ct ht a3 (ih _ _ h5)
  obtain ⟨n, hn⟩ := whO_some h
  cases n with
  | zero => cases hn
  | succ n =>
    unfold whNO at hn
    refine ob hn fun x h2 h3 => ?_
    have ht := hc1 s0 x h2
    cases x with
    | false => cases h3; exact .cons (f := N1 s0) (Go1.le (.whEnd ht (.refl _)) l) g1
    | true =>
      refine ob h3 fun s2 h4 h5 => ?_
      obtain ⟨q, a2, a3⟩ := hb1 s0 s2 h4
      refine .cons (f := N s1) (Go1.le ?_ l) g
      rcases a2 with rfl | rfl
      · exact .wh ht a3 (key _ _ _ h5)
      · exact wh_ct ht a3 (key _ _ _ h5)
end
/-! range with a step -/
def rng3 (a b c : Int) : Option (List Int) := if c ≠ 0 ∧ c.natAbs < 1073741824 ∧ Builtin.Range.small a b c = true ∧ 0 ≤ Builtin.Range.rangeSize a b c ∧ Builtin.Range.rangeSize a b c ≤ sizeLine then some ((List.range (Builtin.Range.rangeSize a b c).toNat).map fun (i : Nat) => a + i * c) else none
theorem it_r3 {a b c : Int} {xs : List Int} (h : rng3 a b c = some xs) : itemsOf .rng [.int a, .int b, .int c] = some (xs.map eI) := by
  unfold rng3 at h; split at h
  · rename_i g; cases h; show (if _ then _ else _) = _; rw [if_pos g]; unfold rngC; rw [List.map_map]; rfl
  · cases h
theorem ninD_t {a : D} {ds : List D} {r : Bool} (h : inD a ds = some r) : cmpD .NotIn a (.tuple ds) = some (.v (.bool (!r))) := by
  unfold inD at h
  split at h
  · rename_i g; cases h; show (if _ then _ else _) = _; rw [if_pos g]; rfl
  · cases h
theorem ninD_l {a : D} {ds : List D} {r : Bool} (h : inD a ds = some r) : cmpD .NotIn a (.list ds) = some (.v (.bool (!r))) := by
  unfold inD at h
  split at h
  · rename_i g; cases h; show (if _ then _ else _) = _; rw [if_pos ⟨g.1, shaped_list g.2⟩]; rfl
  · cases h
/-! dicts -/
section
variable {P : Ph} {A I : E} {Is : List E} {cs : List C} {e e1 e2 e3 : En} {Q : Oc → Prop} {α : Type}
def kvI (en : α → D) (p : Int × α) : Int × D := (p.1, en p.2)
def kvP (en : α → D) (p : (Int × Int) × α) : List Int × D := ([p.1.1, p.1.2], en p.2)
def putO {κ β : Type} [DecidableEq κ] (kvs : List (κ × β)) (k : κ) (v : β) : Option (List (κ × β)) := if kvs.length < sizeLine then some (putD kvs k v) else none
@[simp] theorem sle_nok (d : List (Int × D)) : sle .no (.dk d) := .inr ⟨rfl, rfl⟩
@[simp] theorem sle_nokt (d : List (List Int × D)) : sle .no (.dt d) := .inr ⟨rfl, rfl⟩
theorem putD_map {κ μ β γ : Type} [DecidableEq κ] [DecidableEq μ] (f : κ → μ) (hf : ∀ a b, f a = f b → a = b) (g : β → γ) (kvs : List (κ × β)) (k : κ) (v : β) : (putD kvs k v).map (fun p => (f p.1, g p.2)) = putD (kvs.map fun p => (f p.1, g p.2)) (f k) (g v) := by
  have ha : ((kvs.map fun p => (f p.1, g p.2)).any fun kv => decide (kv.1 = f k)) = kvs.any fun kv => decide (kv.1 = k) := by
    rw [List.any_map]
    refine List.any_congr rfl fun p => ?_
    show decide (f p.1 = f k) = decide (p.1 = k)
    by_cases h : p.1 = k
    · rw [decide_eq_true h, decide_eq_true (by rw [h])]
    · rw [decide_eq_false h, decide_eq_false (fun z => h (hf _ _ z))]
  unfold putD
  rw [ha]
  by_cases h : (kvs.any fun kv => decide (kv.1 = k)) = true
  · rw [if_pos h, if_pos h, List.map_map, List.map_map]
    refine List.map_congr_left fun p _ => ?_
    show (f (if p.1 = k then (p.1, v) else p).1, g (if p.1 = k then (p.1, v) else p).2) = if f p.1 = f k then (f p.1, g v) else (f p.1, g p.2)
    by_cases h2 : p.1 = k
    · rw [if_pos h2, if_pos (by rw [h2])]
    · rw [if_neg h2, if_neg (fun z => h2 (hf _ _ z))]
  · rw [if_neg h, if_neg h, List.map_append]; rfl
theorem putD_I (en : α → D) (kvs : List (Int × α)) (k : Int) (v : α) : (putD kvs k v).map (kvI en) = putD (kvs.map (kvI en)) k (en v) := putD_map id (fun _ _ h => h) en kvs k v
theorem putD_P (en : α → D) (kvs : List ((Int × Int) × α)) (k : Int × Int) (v : α) : (putD kvs k v).map (kvP en) = putD (kvs.map (kvP en)) [k.1, k.2] (en v) :=
  putD_map (fun k : Int × Int => [k.1, k.2]) (fun a b h => by
    injection h with h1 h2
    injection h2 with h2 _
    exact Prod.ext h1 h2) en kvs k v
theorem HV.dnewK : HV P (.dnew false) e (.dk []) e := by unfold HV; rw [ev_dnew]; rfl
theorem HV.dnewT : HV P (.dnew true) e (.dt []) e := by unfold HV; rw [ev_dnew]; rfl
theorem sortE_of {γ : Type} {en : γ → D} {xs ys : List γ} (h : sortE en xs = some ys) : sortOf (xs.map en) = some (.l (ys.map en)) := sortEs h
theorem HV.dsrtI {i : Nat} (en : α → D) {kvs : List (Int × α)} {ys : List Int} (hs : sortE eI (kvs.map Prod.fst) = some ys) (h : e[i]? = some (.dk (kvs.map (kvI en)))) : HV P (.dsrt i) e (.l (ys.map eI)) e := by
  unfold HV
  rw [ev_dsrt]
  unfold dsrtM
  rw [ofVal_val]
  have := sortE_of hs
  rw [List.map_map] at this
  simp only [h]
  rw [List.map_map, List.map_map, show ((PyData.int ∘ fun x : Int × D => x.1) ∘ kvI en) = (eI ∘ Prod.fst : Int × α → D) from rfl, this]; rfl
theorem HV.dsrtP {i : Nat} (en : α → D) {kvs : List ((Int × Int) × α)} {ys : List (Int × Int)} (hs : sortE (eP2 eI eI) (kvs.map Prod.fst) = some ys) (h : e[i]? = some (.dt (kvs.map (kvP en)))) : HV P (.dsrt i) e (.l (ys.map (eP2 eI eI))) e := by
  unfold HV
  rw [ev_dsrt]
  unfold dsrtM
  rw [ofVal_val]
  have := sortE_of hs
  rw [List.map_map] at this
  simp only [h]
  rw [List.map_map, List.map_map, show ((tupI ∘ fun x : List Int × D => x.1) ∘ kvP en) = (eP2 eI eI ∘ Prod.fst : (Int × Int) × α → D) from rfl, this]; rfl
theorem HV.ditm {i : Nat} (en : α → D) {kvs ys : List (Int × α)} (hs : sortE (eP2 eI en) kvs = some ys) (h : e[i]? = some (.dk (kvs.map (kvI en)))) : HV P (.ditm i) e (.l (ys.map (eP2 eI en))) e := by
  unfold HV
  rw [ev_ditm]
  unfold ditmM
  rw [ofVal_val]
  have := sortE_of hs
  simp only [h]
  rw [List.map_map, show ((fun p : Int × D => (PyData.tuple [.int p.1, p.2] : D)) ∘ kvI en) = eP2 eI en from rfl, this]; rfl
theorem GoX.dputI {x : Nat} (en : α → D) {kvs ys : List (Int × α)} {v : α} {k : Int} (hs : putO kvs k v = some ys) (h : HF P A e (en v) e1) (hi : HO P I e1 (.int k) e2 e2) (hx : isDk e1[x]? = true) (hx2 : e2[x]? = some (.dk (kvs.map (kvI en)))) (he : e2.set x (.dk (ys.map (kvI en))) = e3) (g : GoX P cs e3 Q) : GoX P (.dput x I A :: cs) e Q := by
  unfold putO at hs
  split at hs
  · rename_i hl
    cases hs
    obtain ⟨p, p1, p2⟩ := hi
    refine .cons (f := e3) (Go1.of ?_) g
    rw [ex_dput, show frzM (ev P A).val e = _ from h, Option.bind_some, if_pos hx, p1, Option.bind_some, p2, Option.bind_some]
    have hl2 : (kvs.map (kvI en)).length < sizeLine := by rw [List.length_map]; exact hl
    unfold dputS
    rw [hx2]
    simp only [hl2, if_true]
    rw [← he, putD_I]
  · cases hs
theorem GoX.dputP {x : Nat} (en : α → D) {kvs ys : List ((Int × Int) × α)} {v : α} {a b : Int} (hs : putO kvs (a, b) v = some ys) (h : HF P A e (en v) e1) (hi : HAs P Is e1 [.int a, .int b] e2) (hx : isDt e1[x]? = true) (hx2 : e2[x]? = some (.dt (kvs.map (kvP en)))) (he : e2.set x (.dt (ys.map (kvP en))) = e3) (g : GoX P cs e3 Q) : GoX P (.dputT x Is A :: cs) e Q := by
  unfold putO at hs
  split at hs
  · rename_i hl
    cases hs
    refine .cons (f := e3) (Go1.of ?_) g
    rw [ex_dputT, show frzM (ev P A).val e = _ from h, Option.bind_some, if_pos hx, show argsM (evs P Is) e1 = _ from hi, Option.bind_some]
    have hl2 : (kvs.map (kvP en)).length < sizeLine ∧ ([a, b] : List Int).length ≤ sizeLine := by
      rw [List.length_map]; exact ⟨hl, by show 2 ≤ sizeLine; unfold sizeLine; omega⟩
    unfold dputTS
    rw [hx2, show intsL [PyData.int a, .int b] = some [a, b] from rfl]
    simp only [hl2, and_self, if_true]
    rw [← he, putD_P]
  · cases hs
end
end Mini

namespace Mini
open PySem PySem.Spec L2
/-! for proofs about typed functions -/
section
variable {α β S R : Type}
@[simp] theorem lt_eqU {α β : Type} (x : α) (f : α → β) : lt x f = f x := rfl
theorem mapO_some {f : α → Option β} {g : α → β} {xs : List α} (h : ∀ x ∈ xs, f x = some (g x)) : mapO f xs = some (xs.map g) := by
  induction xs with
  | nil => rfl
  | cons x xs ih =>
    rw [mapO, h x List.mem_cons_self, Option.bind_some, ih fun y hy => h y (List.mem_cons_of_mem _ hy)]
    rfl
@[simp] theorem mapO_pure (g : α → β) (xs : List α) : mapO (fun x => some (g x)) xs = some (xs.map g) := mapO_some fun _ _ => rfl
theorem mapO_congr {f g : α → Option β} {xs : List α} (h : ∀ x ∈ xs, f x = g x) : mapO f xs = mapO g xs := by
  induction xs with
  | nil => rfl
  | cons x xs ih => rw [mapO, mapO, h x List.mem_cons_self, ih fun y hy => h y (List.mem_cons_of_mem _ hy)]
theorem fmapO_some {f : α → Option (Option β)} {g : α → Option β} {xs : List α} (h : ∀ x ∈ xs, f x = some (g x)) : fmapO f xs = some (xs.filterMap g) := by
  induction xs with
  | nil => rfl
  | cons x xs ih =>
    rw [fmapO, h x List.mem_cons_self, Option.bind_some, ih fun y hy => h y (List.mem_cons_of_mem _ hy), Option.bind_some, List.filterMap_cons]
    cases g x <;> rfl
theorem fmapO_filter {f : α → Option (Option α)} {p : α → Bool} {xs : List α} (h : ∀ x ∈ xs, f x = some (if p x then some x else none)) : fmapO f xs = some (xs.filter p) := by
  rw [fmapO_some h]
  congr 1
  clear h
  induction xs with
  | nil => rfl
  | cons x xs ih =>
    rw [List.filterMap_cons, List.filter_cons]
    cases p x <;> simp [ih]
theorem fmapO_fm {f : α → Option (Option β)} {p : α → Bool} {g : α → β} {xs : List α} (h : ∀ x ∈ xs, f x = some (if p x then some (g x) else none)) : fmapO f xs = some ((xs.filter p).map g) := by
  rw [fmapO_some h]
  congr 1
  clear h
  induction xs with
  | nil => rfl
  | cons x xs ih =>
    rw [List.filterMap_cons, List.filter_cons]
    cases p x <;> simp [ih]
/-- a loop by an invariant over the place -/
theorem forO_inv {f : α → S → Option S} (J : Nat → S → Prop) {xs : List α} {s : S} (h0 : J 0 s) (step : ∀ (i : Nat) (x : α) (s : S), xs[i]? = some x → J i s → ∃ s', f x s = some s' ∧ J (i + 1) s') : ∃ s', forO f xs s = some s' ∧ J xs.length s' := by
  induction xs generalizing s J with
  | nil => exact ⟨s, rfl, h0⟩
  | cons x xs ih =>
    obtain ⟨s1, e1, j1⟩ := step 0 x s rfl h0
    obtain ⟨s2, e2, j2⟩ := ih (fun i => J (i + 1)) j1 fun i y t hy ht => step (i + 1) y t (by simpa using hy) ht
    exact ⟨s2, by rw [forO, e1, Option.bind_some, e2], j2⟩
theorem forO_fold {f : α → S → Option S} {g : S → α → S} {xs : List α} {s : S} (h : ∀ x ∈ xs, ∀ s, f x s = some (g s x)) : forO f xs s = some (xs.foldl g s) := by
  induction xs generalizing s with
  | nil => rfl
  | cons x xs ih => rw [forO, h x List.mem_cons_self, Option.bind_some, ih fun y hy => h y (List.mem_cons_of_mem _ hy)]; rfl
theorem forF_inv {f : α → S → Option (Fl S R)} (J : Nat → S → Prop) {xs : List α} {s : S} (h0 : J 0 s) (step : ∀ (i : Nat) (x : α) (s : S), xs[i]? = some x → J i s → ∃ s', f x s = some (.nx s') ∧ J (i + 1) s') : ∃ s', forF f xs s = some (.nx s') ∧ J xs.length s' := by
  induction xs generalizing s J with
  | nil => exact ⟨s, rfl, h0⟩
  | cons x xs ih =>
    obtain ⟨s1, e1, j1⟩ := step 0 x s rfl h0
    obtain ⟨s2, e2, j2⟩ := ih (fun i => J (i + 1)) j1 fun i y t hy ht => step (i + 1) y t (by simpa using hy) ht
    exact ⟨s2, by rw [forF, e1]; exact e2, j2⟩
/-- a loop all of whose turns go on, with a property of the state -/
theorem forF_all {f : α → S → Option (Fl S R)} (V : S → Prop) {xs : List α} {s : S} (h0 : V s) (step : ∀ x ∈ xs, ∀ s, V s → ∃ s', f x s = some (.nx s') ∧ V s') : ∃ s', forF f xs s = some (.nx s') ∧ V s' := by
  induction xs generalizing s with
  | nil => exact ⟨s, rfl, h0⟩
  | cons x xs ih =>
    obtain ⟨s1, e1, j1⟩ := step x List.mem_cons_self s h0
    obtain ⟨s2, e2, j2⟩ := ih j1 fun y hy => step y (List.mem_cons_of_mem _ hy)
    exact ⟨s2, by rw [forF, e1]; exact e2, j2⟩
theorem forF_unit {f : α → Unit → Option (Fl Unit R)} {xs : List α} {s : Unit} (step : ∀ x ∈ xs, f x () = some (.nx ())) : forF f xs s = some (.nx ()) := by
  obtain ⟨s', h, _⟩ := forF_all (V := fun _ => True) (s := s) trivial fun x hx t _ => ⟨(), step x hx, trivial⟩
  exact h
/-- the first item that ends the loop -/
theorem forF_at {f : α → S → Option (Fl S R)} (J : Nat → S → Prop) {xs : List α} {s : S} {r : Fl S R} (k : Nat) (h0 : J 0 s) (hk : k < xs.length) (step : ∀ (i : Nat) (x : α) (s : S), i < k → xs[i]? = some x → J i s → ∃ s', f x s = some (.nx s') ∧ J (i + 1) s')
    (last : ∀ (x : α) (s : S), xs[k]? = some x → J k s → (∃ t, f x s = some (.bk t) ∧ r = .nx t) ∨ ∃ w, f x s = some (.rt w) ∧ r = .rt w) : forF f xs s = some r := by
  induction xs generalizing s J k with
  | nil => simp at hk
  | cons x xs ih =>
    cases k with
    | zero =>
      rcases last x s rfl h0 with ⟨t, e, rfl⟩ | ⟨w, e, rfl⟩
      · rw [forF, e]; rfl
      · rw [forF, e]; rfl
    | succ k =>
      obtain ⟨s1, e1, j1⟩ := step 0 x s (by omega) rfl h0
      rw [forF, e1]
      exact ih (fun i => J (i + 1)) k j1 (by simpa using hk) (fun i y t hi hy ht => step (i + 1) y t (by omega) (by simpa using hy) ht) fun y t hy ht => last y t (by simpa using hy) ht
theorem mapS_inv {f : α → S → Option (β × S)} (V : S → Prop) (Q : α → β → Prop) {xs : List α} {s : S} (h0 : V s) (step : ∀ x ∈ xs, ∀ s, V s → ∃ y s', f x s = some (y, s') ∧ Q x y ∧ V s') :
    ∃ ys s', mapS f xs s = some (ys, s') ∧ V s' ∧ ys.length = xs.length ∧ ∀ (i : Nat) (x : α) (y : β), xs[i]? = some x → ys[i]? = some y → Q x y := by
  induction xs generalizing s with
  | nil => exact ⟨[], s, rfl, h0, rfl, fun i x y h => by simp at h⟩
  | cons x xs ih =>
    obtain ⟨y, s1, e1, q1, v1⟩ := step x List.mem_cons_self s h0
    obtain ⟨ys, s2, e2, v2, l2, q2⟩ := ih v1 fun z hz => step z (List.mem_cons_of_mem _ hz)
    refine ⟨y :: ys, s2, by rw [mapS, e1, Option.bind_some]; simp only [e2, Option.bind_some], v2, by simp [l2], fun i a b ha hb => ?_⟩
    cases i with
    | zero => simp at ha hb; subst ha hb; exact q1
    | succ i => exact q2 i a b (by simpa using ha) (by simpa using hb)
theorem mapS_all {f : α → S → Option (β × S)} (V : S → Prop) (Q : β → Prop) {xs : List α} {s : S} (h0 : V s) (step : ∀ x ∈ xs, ∀ s, V s → ∃ y s', f x s = some (y, s') ∧ Q y ∧ V s') :
    ∃ ys s', mapS f xs s = some (ys, s') ∧ V s' ∧ ys.length = xs.length ∧ ∀ y ∈ ys, Q y := by
  obtain ⟨ys, s', h, v, l, q⟩ := mapS_inv V (fun _ y => Q y) h0 step
  refine ⟨ys, s', h, v, l, fun y hy => ?_⟩
  obtain ⟨i, hi, rfl⟩ := List.mem_iff_getElem.mp hy
  exact q i xs[i] ys[i] (List.getElem?_eq_getElem (by omega)) (List.getElem?_eq_getElem hi)
theorem fmapS_all {f : α → S → Option (Option β × S)} (V : S → Prop) (Q : α → β → Prop) {xs : List α} {s : S} (h0 : V s) (step : ∀ x ∈ xs, ∀ s, V s → ∃ y s', f x s = some (y, s') ∧ (∀ z, y = some z → Q x z) ∧ V s') :
    ∃ ys s', fmapS f xs s = some (ys, s') ∧ V s' ∧ ys.length ≤ xs.length ∧ (∀ y ∈ ys, ∃ x ∈ xs, Q x y) := by
  induction xs generalizing s with
  | nil => exact ⟨[], s, rfl, h0, Nat.le_refl _, by simp⟩
  | cons x xs ih =>
    obtain ⟨y, s1, e1, q1, v1⟩ := step x List.mem_cons_self s h0
    obtain ⟨ys, s2, e2, v2, l2, q2⟩ := ih v1 fun z hz => step z (List.mem_cons_of_mem _ hz)
    cases y with
    | none => exact ⟨ys, s2, by rw [fmapS, e1, Option.bind_some]; simp only [e2, Option.bind_some], v2, by simp; omega, fun z hz => by obtain ⟨a, ha, q⟩ := q2 z hz; exact ⟨a, List.mem_cons_of_mem _ ha, q⟩⟩
    | some w =>
      refine ⟨w :: ys, s2, by rw [fmapS, e1, Option.bind_some]; simp only [e2, Option.bind_some], v2, by simp; omega, fun z hz => ?_⟩
      rcases List.mem_cons.mp hz with rfl | hz
      · exact ⟨x, List.mem_cons_self, q1 z rfl⟩
      · obtain ⟨a, ha, q⟩ := q2 z hz; exact ⟨a, List.mem_cons_of_mem _ ha, q⟩
/-- a while by a measure and an invariant -/
theorem whO_inv {c : S → Option Bool} {f : S → Option S} (J : S → Prop) (m : S → Nat) (step : ∀ s, J s → c s = some false ∨ (c s = some true ∧ ∃ t, f s = some t ∧ J t ∧ m t < m s)) : ∀ s, J s → ∃ t, whO c f s = some t ∧ J t ∧ c t = some false := by
  intro s
  induction h : m s using Nat.strongRecOn generalizing s with
  | _ n ih =>
    intro j
    rcases step s j with e | ⟨e, t, ht, jt, l⟩
    · exact ⟨s, whO_end e, j, e⟩
    · obtain ⟨u, hu, ju, cu⟩ := ih (m t) (by omega) t rfl jt
      exact ⟨u, whO_step e ht hu, ju, cu⟩
theorem whF_inv {c : S → Option Bool} {f : S → Option (Fl S R)} (J : S → Prop) (m : S → Nat) (Q : Fl S R → Prop) (step : ∀ s, J s → (c s = some false ∧ Q (.nx s)) ∨ (c s = some true ∧ ((∃ t, f s = some (.nx t) ∧ J t ∧ m t < m s) ∨ (∃ t, f s = some (.bk t) ∧ Q (.nx t)) ∨ ∃ r, f s = some (.rt r) ∧ Q (.rt r)))) : ∀ s, J s → ∃ t, whF c f s = some t ∧ Q t := by
  intro s
  induction h : m s using Nat.strongRecOn generalizing s with
  | _ n ih =>
    intro j
    rcases step s j with ⟨e, q⟩ | ⟨e, ⟨t, ht, jt, l⟩ | ⟨t, ht, q⟩ | ⟨r, hr, q⟩⟩
    · exact ⟨_, whF_end e, q⟩
    · obtain ⟨u, hu, ju⟩ := ih (m t) (by omega) t rfl jt
      exact ⟨u, whF_step e ht hu, ju⟩
    · exact ⟨_, whF_bk e ht, q⟩
    · exact ⟨_, whF_rt e hr, q⟩
/-! sizes, ranges, places -/
theorem sz {n : Nat} (h : n ≤ 1000000) : n ≤ sizeLine := size_ok h
theorem szl {n : Nat} (h : n ≤ 1000000) : n < sizeLine := by unfold sizeLine; omega
theorem catO_ok {xs ys : List α} (h : xs.length + ys.length ≤ 1000000) : catO xs ys = some (xs ++ ys) := if_pos (sz h)
theorem appX_ok {xs : List α} {x : α} (h : xs.length ≤ 1000000) : appX xs x = some (xs ++ [x]) := if_pos (szl h)
theorem rngI_nat (n : Nat) : rngI 0 n = (List.range n).map fun (i : Nat) => (i : Int) := by unfold rngI; simp
theorem rng1_nat {n : Nat} (h : n ≤ 1000000) : rng1 (n : Int) = some ((List.range n).map fun (i : Nat) => (i : Int)) := by
  have h1 : rngOk (n : Int) := by unfold rngOk; omega
  have h2 : (n : Int) ≤ (sizeLine : Nat) := by have := sz h; omega
  unfold rng1
  rw [if_pos ⟨h1, h2⟩, Int.toNat_natCast, rngI_nat]
theorem rng1_neg {i : Int} (h : i ≤ 0) (h2 : -1000000 ≤ i) : rng1 i = some [] := by
  have h1 : rngOk i := by unfold rngOk; omega
  have h3 : i ≤ (sizeLine : Nat) := by omega
  unfold rng1
  rw [if_pos ⟨h1, h3⟩, Int.toNat_of_nonpos h]; rfl
theorem rng1_int {i : Int} (h : i ≤ 1000000) (h2 : -1000000 ≤ i) : rng1 i = some ((List.range i.toNat).map fun (i : Nat) => (i : Int)) := by
  by_cases h0 : i ≤ 0
  · rw [rng1_neg h0 h2, Int.toNat_of_nonpos h0]; rfl
  · have := rng1_nat (n := i.toNat) (by omega)
    rwa [Int.toNat_of_nonneg (by omega)] at this
theorem rng2_int {a b : Int} (h1 : -1000000 ≤ a) (h2 : a ≤ 1000000) (h3 : -1000000 ≤ b) (h4 : b ≤ 1000000) : rng2 a b = some ((List.range (b - a).toNat).map fun (i : Nat) => a + (i : Int)) := by
  have g1 : rngOk a := by unfold rngOk; omega
  have g2 : rngOk b := by unfold rngOk; omega
  have g3 : b - a ≤ (sizeLine : Nat) := by unfold sizeLine; omega
  unfold rng2
  rw [if_pos ⟨g1, g2, g3⟩]; rfl
theorem gI_nat {xs : List α} {i : Nat} {x : α} (h : xs[i]? = some x) : gI xs (i : Int) = some x := by
  have hi : i < xs.length := by
    rcases Nat.lt_or_ge i xs.length with q | q
    · exact q
    · rw [List.getElem?_eq_none q] at h; cases h
  unfold gI ixN
  rw [if_pos (by omega), if_pos (by omega)]
  simpa using h
theorem gI_at {xs : List α} {i : Nat} (h : i < xs.length) : gI xs (i : Int) = some xs[i] := gI_nat (List.getElem?_eq_getElem h)
theorem gI_0 {xs : List α} {x : α} : gI (x :: xs) 0 = some x := gI_nat (i := 0) rfl
theorem gI_int {xs : List α} {i : Int} (h0 : 0 ≤ i) (h : i < xs.length) : ∃ x, gI xs i = some x ∧ x ∈ xs ∧ xs[i.toNat]? = some x := by
  have h1 : i.toNat < xs.length := by omega
  have := gI_at h1
  rw [Int.toNat_of_nonneg h0] at this
  exact ⟨_, this, List.getElem_mem h1, List.getElem?_eq_getElem h1⟩
theorem gI_neg1 {xs : List α} {x : α} : gI (xs ++ [x]) (-1) = some x := by
  unfold gI ixN
  have h1 : ¬ (0 : Int) ≤ -1 := by decide
  have h2 : -(((xs ++ [x]).length : Nat) : Int) ≤ -1 := by simp; omega
  rw [if_neg h1, if_pos h2, Option.bind_some]
  have h3 : ((-1 : Int) + ((xs ++ [x]).length : Nat)).toNat = xs.length := by simp; omega
  rw [h3]; simp
theorem gI_last {xs : List α} (h : xs ≠ []) : gI xs (-1) = some (xs.getLast h) := by
  have e := List.dropLast_concat_getLast h
  have := gI_neg1 (xs := xs.dropLast) (x := xs.getLast h)
  rwa [e] at this
theorem cutG_map (xs : List α) (lo hi : Option Int) : (cutG xs lo hi).length ≤ xs.length := by
  unfold cutG; rw [List.length_take, List.length_drop]; omega
theorem cutG_nat (xs : List α) (i j : Nat) : cutG xs (some (i : Int)) (some (j : Int)) = (xs.take j).drop i := by
  unfold cutG
  rw [HT.sIx_nat, HT.sIx_nat, List.drop_take]
  by_cases h : i ≤ xs.length
  · rw [Nat.min_eq_left h]
    by_cases h2 : j ≤ xs.length
    · rw [Nat.min_eq_left h2]
    · rw [Nat.min_eq_right (by omega), List.take_of_length_le (by simp), List.take_of_length_le (by simp; omega)]
  · rw [Nat.min_eq_right (show xs.length ≤ i by omega)]
    simp only [List.drop_length, List.take_nil]
    rw [List.drop_of_length_le (by omega)]; simp
theorem cutG_from (xs : List α) (i : Nat) : cutG xs (some (i : Int)) none = xs.drop i := by
  unfold cutG
  rw [HT.sIx_nat, HT.sIx_none]
  by_cases h : i ≤ xs.length
  · rw [Nat.min_eq_left h, List.take_of_length_le (by simp)]
  · rw [Nat.min_eq_right (by omega)]
    simp only [List.drop_length, List.take_nil]
    rw [List.drop_of_length_le (by omega)]
theorem cutG_to (xs : List α) (j : Nat) : cutG xs none (some (j : Int)) = xs.take j := by
  unfold cutG
  rw [HT.sIx_nat, HT.sIx_none, List.drop_zero, Nat.sub_zero]
  by_cases h2 : j ≤ xs.length
  · rw [Nat.min_eq_left h2]
  · rw [Nat.min_eq_right (by omega), List.take_length, List.take_of_length_le (by omega)]
theorem cutG_1 (xs : List α) : cutG xs (some 1) none = xs.drop 1 := cutG_from xs 1
theorem enumF_eq : ∀ (xs : List α) (k : Nat), enumF xs k = (List.range xs.length).zipWith (fun i x => (((k + i : Nat) : Int), x)) xs
  | [], k => rfl
  | x :: xs, k => by
    rw [enumF, List.length_cons, List.range_succ_eq_map, List.zipWith_cons_cons, enumF_eq xs (k + 1)]
    congr 1
    rw [List.zipWith_map_left]
    congr 1
    funext i y
    show (((k + 1 + i : Nat) : Int), y) = (((k + (i + 1) : Nat) : Int), y)
    rw [Nat.add_assoc, Nat.add_comm 1 i]
theorem enumF_get {xs : List α} {k i : Nat} {p : Int × α} (h : (enumF xs k)[i]? = some p) : ∃ x, xs[i]? = some x ∧ p = (((k + i : Nat) : Int), x) := by
  induction xs generalizing k i with
  | nil => simp [enumF] at h
  | cons y ys ih =>
    rw [enumF] at h
    cases i with
    | zero => simp at h; exact ⟨y, by simp, by rw [← h]; rfl⟩
    | succ i =>
      obtain ⟨x, h1, h2⟩ := ih (by simpa using h)
      exact ⟨x, by simpa using h1, by rw [h2, Nat.add_assoc, Nat.add_comm 1 i]⟩
theorem enumS_get {xs : List α} {i : Nat} {p : Int × α} (h : (enumS xs)[i]? = some p) : ∃ x, xs[i]? = some x ∧ p = ((i : Int), x) := by
  obtain ⟨x, h1, h2⟩ := enumF_get h
  exact ⟨x, h1, by rw [h2, Nat.zero_add]⟩
theorem enumF_len : ∀ (xs : List α) (k : Nat), (enumF xs k).length = xs.length
  | [], _ => rfl
  | x :: xs, k => by rw [enumF, List.length_cons, List.length_cons, enumF_len]
theorem enumS_len (xs : List α) : (enumS xs).length = xs.length := enumF_len xs 0
end
/-! the law's drawing -/
def Tp (st : Bx) : Prop := ∃ cs p s t, st = (cs, [p, s, t]) ∧ 0 ≤ p
def Bp (st : Bx) : Prop := ∃ cs a b, st = (cs, [a, b])
theorem divOk_of {m : Int} (hm : 0 < m) (h2 : m ≤ 1000000000000000000) : divOk m := by
  refine ⟨hm, ?_⟩
  have h0 : m.natAbs ≠ 0 := by omega
  have : m.natAbs < 2 ^ 64 := by omega
  have := (Nat.log2_lt h0).mpr this
  omega
theorem tapeS_ok {ns : List Int} (h : ns.length ≤ 63) : ∃ st, tapeS ns = some st ∧ Tp st := ⟨_, if_pos h, _, _, _, _, rfl, by decide⟩
theorem boxS_ok {ns : List Int} (h : ns.length ≤ 63) : ∃ st, boxS ns = some st ∧ Bp st := ⟨_, if_pos h, _, _, _, rfl⟩
theorem take_ok {st : Bx} (v : Tp st) {m : Int} (hm : 0 < m) (h2 : m ≤ 1000000000000000000) : ∃ x st', takeS st m = some (x, st') ∧ 0 ≤ x ∧ x < m ∧ Tp st' := by
  obtain ⟨cs, p, s, t, rfl, hp⟩ := v
  have hd := divOk_of hm h2
  unfold takeS
  simp only [hd, hp, and_self, if_true]
  refine ⟨_, _, rfl, ?_, ?_, _, _, _, _, rfl, tapeTake_p hp⟩
  · unfold tapeTake; split <;> exact Int.emod_nonneg _ (by omega)
  · unfold tapeTake; split <;> exact Int.emod_lt_of_pos _ hm
theorem draw_okS {st : Bx} (v : Bp st) {m : Int} (hm : 0 < m) (h2 : m ≤ 1000000000000000000) : ∃ x st', drawS st m = some (x, st') ∧ 0 ≤ x ∧ x < m ∧ Bp st' := by
  obtain ⟨cs, a, b, rfl⟩ := v
  have hd := divOk_of hm h2
  unfold drawS
  simp only [hd, if_true]
  refine ⟨_, _, rfl, ?_, ?_, _, _, _, rfl⟩
  · unfold boxTake; split <;> exact Int.emod_nonneg _ (by omega)
  · unfold boxTake; split <;> exact Int.emod_lt_of_pos _ hm
/-! values alike -/
theorem same_ok {a : D} (h : okS 8 a = true) : sameS a a = some true := if_pos ⟨rfl, h⟩
theorem okS_I (n : Nat) (i : Int) : okS n (eI i) = true := by cases n <;> rfl
theorem okS_B (n : Nat) (i : Bool) : okS n (eB i) = true := by cases n <;> rfl
theorem okS_T {α : Type} {e : α → D} {n : Nat} {xs : List α} (hl : xs.length ≤ 1000000) (h : ∀ x ∈ xs, okS n (e x) = true) : okS (n + 1) (eT e xs) = true := by
  simp only [okS, List.length_map, Bool.and_eq_true, decide_eq_true_eq, List.all_eq_true]
  exact ⟨hl, fun y hy => by obtain ⟨x, hx, rfl⟩ := List.mem_map.mp hy; exact h x hx⟩
theorem okS_L {α : Type} {e : α → D} {n : Nat} {xs : List α} (hl : xs.length ≤ 1000000) (h : ∀ x ∈ xs, okS n (e x) = true) : okS (n + 1) (eL e xs) = true := by
  simp only [okS, List.length_map, Bool.and_eq_true, decide_eq_true_eq, List.all_eq_true]
  exact ⟨hl, fun y hy => by obtain ⟨x, hx, rfl⟩ := List.mem_map.mp hy; exact h x hx⟩
theorem okS_P2 {α β : Type} {a : α → D} {b : β → D} {n : Nat} {p : α × β} (h1 : okS n (a p.1) = true) (h2 : okS n (b p.2) = true) : okS (n + 1) (eP2 a b p) = true := by
  simp [okS, cap, h1, h2]
theorem okS_P3 {α β γ : Type} {a : α → D} {b : β → D} {c : γ → D} {n : Nat} {p : α × β × γ} (h1 : okS n (a p.1) = true) (h2 : okS n (b p.2.1) = true) (h3 : okS n (c p.2.2) = true) : okS (n + 1) (eP3 a b c p) = true := by
  simp [okS, cap, h1, h2, h3]
theorem okS_TI {n : Nat} {xs : List Int} (hl : xs.length ≤ 1000000) : okS (n + 1) (eT eI xs) = true := okS_T hl fun x _ => okS_I n x
theorem same_B (b : Bool) : sameS (eB b) (eB b) = some true := same_ok (okS_B _ _)
theorem same_I (b : Int) : sameS (eI b) (eI b) = some true := same_ok (okS_I _ _)
theorem same_TI {xs : List Int} (hl : xs.length ≤ 1000000) : sameS (eT eI xs) (eT eI xs) = some true := same_ok (okS_TI hl)
theorem same_BB (p : Bool × Bool) : sameS (eP2 eB eB p) (eP2 eB eB p) = some true := same_ok (okS_P2 (okS_B _ _) (okS_B _ _))
/-! reading back -/
@[simp] theorem decI_i (i : Int) : decI (.int i) = some i := rfl
@[simp] theorem decTD_t (xs : List D) : decTD (.tuple xs) = some xs := rfl
@[simp] theorem seqD_t (xs : List D) : seqD (.tuple xs) = some xs := rfl
@[simp] theorem seqD_l (xs : List D) : seqD (.list xs) = some xs := rfl
theorem mapO_map {α β γ : Type} {f : β → Option γ} {g : α → β} (xs : List α) : mapO f (xs.map g) = mapO (fun x => f (g x)) xs := by
  induction xs with
  | nil => rfl
  | cons x xs ih => rw [List.map_cons, mapO, mapO, ih]
theorem decT_ints (xs : List Int) : decT decI (.tuple (xs.map eI)) = some xs := by
  show mapO decI (xs.map eI) = _
  rw [mapO_map]
  have := mapO_some (f := fun x => decI (eI x)) (g := id) (xs := xs) fun x _ => rfl
  rwa [List.map_id] at this
/-! lexicographic order of rows of ints -/
theorem isi_int_cases (v : D) : (isiD v .int = true ∧ isiD v .bool = false) ↔ ∃ i, v = .int i := by
  cases v <;> simp [isiD]
/-- the judges' look at one value -/
def isNumD (lo hi : Int) (v : D) : Bool := match v with
  | .int i => decide (lo ≤ i) && decide (i ≤ hi)
  | _ => false
theorem isNumD_int {lo hi : Int} {v : D} (h : isNumD lo hi v = true) : ∃ i, v = .int i ∧ lo ≤ i ∧ i ≤ hi := by
  cases v <;> simp_all [isNumD]
theorem allNum {lo hi : Int} : ∀ {xs : List D}, xs.all (isNumD lo hi) = true → ∃ is : List Int, xs = is.map eI ∧ ∀ i ∈ is, lo ≤ i ∧ i ≤ hi
  | [], _ => ⟨[], rfl, by simp⟩
  | x :: xs, h => by
    rw [List.all_cons, Bool.and_eq_true] at h
    obtain ⟨i, rfl, h1⟩ := isNumD_int h.1
    obtain ⟨is, rfl, h2⟩ := allNum h.2
    refine ⟨i :: is, rfl, fun j hj => ?_⟩
    rcases List.mem_cons.mp hj with rfl | hj
    · exact h1
    · exact h2 j hj
end Mini

namespace Mini
open PySem PySem.Spec L2
section
variable {α β : Type}
/-- neighbours -/
def Ch (R : α → α → Prop) (l : List α) : Prop := ∀ (k : Nat) (a b : α), l[k]? = some a → l[k + 1]? = some b → R a b
theorem Ch.nil {R : α → α → Prop} : Ch R ([] : List α) := fun k a b h => by simp at h
theorem Ch.one {R : α → α → Prop} {x : α} : Ch R [x] := fun k a b _ h => by simp at h
theorem Ch.cons {R : α → α → Prop} {x y : α} {l : List α} : Ch R (x :: y :: l) ↔ R x y ∧ Ch R (y :: l) := by
  refine ⟨fun h => ⟨h 0 x y rfl rfl, fun k a b ha hb => h (k + 1) a b (by simpa using ha) (by simpa using hb)⟩, fun ⟨h1, h2⟩ k a b ha hb => ?_⟩
  cases k with
  | zero => simp at ha hb; subst ha hb; exact h1
  | succ k => exact h2 k a b (by simpa using ha) (by simpa using hb)
theorem ch_pairwise {R : α → α → Prop} (tr : ∀ a b c, R a b → R b c → R a c) : ∀ l : List α, Ch R l ↔ l.Pairwise R
  | [] => by simp [Ch.nil]
  | [x] => by simp [Ch.one]
  | x :: y :: l => by
    rw [Ch.cons, ch_pairwise tr (y :: l), List.pairwise_cons (l := y :: l)]
    refine ⟨fun ⟨h1, h2⟩ => ⟨fun z hz => ?_, h2⟩, fun ⟨h1, h2⟩ => ⟨h1 y List.mem_cons_self, h2⟩⟩
    rcases List.mem_cons.mp hz with rfl | hz
    · exact h1
    · exact tr _ _ _ h1 ((List.pairwise_cons.mp h2).1 z hz)
/-- a look at all neighbours by their places -/
theorem pairs_all {R : α → α → Prop} [∀ a b, Decidable (R a b)] {f : Int → Option Bool} {l : List α} (h : ∀ (k : Nat) (a b : α), l[k]? = some a → l[k + 1]? = some b → f (k : Int) = some (decide (R a b))) :
    ∃ bs, mapO f ((List.range (l.length - 1)).map fun (i : Nat) => (i : Int)) = some bs ∧ (bs.all id = true ↔ Ch R l) := by
  have g : ∀ k, k + 1 < l.length → ∃ a b, l[k]? = some a ∧ l[k + 1]? = some b := fun k hk => ⟨_, _, List.getElem?_eq_getElem (by omega), List.getElem?_eq_getElem hk⟩
  rw [mapO_map]
  let G : Nat → Bool := fun k => match l[k]?, l[k + 1]? with
    | some a, some b => decide (R a b)
    | _, _ => true
  refine ⟨_, mapO_some (g := G) fun k hk => ?_, ?_⟩
  · rw [List.mem_range] at hk
    obtain ⟨a, b, ha, hb⟩ := g k (by omega)
    rw [h k a b ha hb]
    simp only [G, ha, hb]
  · rw [List.all_map, List.all_eq_true]
    refine ⟨fun q k a b ha hb => ?_, fun q k hk => ?_⟩
    · have hk : k + 1 < l.length := by
        rcases Nat.lt_or_ge (k + 1) l.length with z | z
        · exact z
        · rw [List.getElem?_eq_none z] at hb; cases hb
      have := q k (List.mem_range.mpr (by omega))
      simp only [Function.comp, G, ha, hb, id] at this
      exact of_decide_eq_true this
    · rw [List.mem_range] at hk
      obtain ⟨a, b, ha, hb⟩ := g k (by omega)
      simp only [Function.comp, G, ha, hb, id]
      exact decide_eq_true (q k a b ha hb)
/-! greatest and least -/
theorem foldl_max_iff (u : Int) : ∀ (xs : List Int) (x : Int), xs.foldl max x ≤ u ↔ x ≤ u ∧ ∀ y ∈ xs, y ≤ u
  | [], x => by simp
  | y :: ys, x => by
    rw [List.foldl_cons, foldl_max_iff u ys]
    simp only [List.mem_cons, forall_eq_or_imp]
    exact ⟨fun ⟨a, b⟩ => ⟨by omega, by omega, b⟩, fun ⟨a, b, c⟩ => ⟨by omega, c⟩⟩
theorem foldl_min_iff (u : Int) : ∀ (xs : List Int) (x : Int), u ≤ xs.foldl min x ↔ u ≤ x ∧ ∀ y ∈ xs, u ≤ y
  | [], x => by simp
  | y :: ys, x => by
    rw [List.foldl_cons, foldl_min_iff u ys]
    simp only [List.mem_cons, forall_eq_or_imp]
    exact ⟨fun ⟨a, b⟩ => ⟨by omega, by omega, b⟩, fun ⟨a, b, c⟩ => ⟨by omega, c⟩⟩
theorem foldl_max_in : ∀ (xs : List Int) (x : Int), xs.foldl max x = x ∨ xs.foldl max x ∈ xs
  | [], x => .inl rfl
  | y :: ys, x => by
    rw [List.foldl_cons]
    rcases foldl_max_in ys (max x y) with h | h
    · rw [h]
      rcases Int.le_total x y with g | g
      · right; rw [Int.max_eq_right g]; exact List.mem_cons_self
      · left; rw [Int.max_eq_left g]
    · right; exact List.mem_cons_of_mem _ h
theorem foldl_min_in : ∀ (xs : List Int) (x : Int), xs.foldl min x = x ∨ xs.foldl min x ∈ xs
  | [], x => .inl rfl
  | y :: ys, x => by
    rw [List.foldl_cons]
    rcases foldl_min_in ys (min x y) with h | h
    · rw [h]
      rcases Int.le_total x y with g | g
      · left; rw [Int.min_eq_left g]
      · right; rw [Int.min_eq_right g]; exact List.mem_cons_self
    · right; exact List.mem_cons_of_mem _ h
theorem maxL_ok {xs : List Int} (h : xs ≠ []) : ∃ m, maxL xs = some m ∧ m ∈ xs ∧ ∀ u, m ≤ u ↔ ∀ y ∈ xs, y ≤ u := by
  cases xs with
  | nil => exact absurd rfl h
  | cons x xs =>
    refine ⟨_, rfl, ?_, fun u => ?_⟩
    · rcases foldl_max_in xs x with e | e
      · rw [e]; exact List.mem_cons_self
      · exact List.mem_cons_of_mem _ e
    · rw [foldl_max_iff, List.forall_mem_cons]
theorem minL_ok {xs : List Int} (h : xs ≠ []) : ∃ m, minL xs = some m ∧ m ∈ xs ∧ ∀ u, u ≤ m ↔ ∀ y ∈ xs, u ≤ y := by
  cases xs with
  | nil => exact absurd rfl h
  | cons x xs =>
    refine ⟨_, rfl, ?_, fun u => ?_⟩
    · rcases foldl_min_in xs x with e | e
      · rw [e]; exact List.mem_cons_self
      · exact List.mem_cons_of_mem _ e
    · rw [foldl_min_iff, List.forall_mem_cons]
theorem minL_is {xs : List Int} {m : Int} (h : m ∈ xs) (h2 : ∀ y ∈ xs, m ≤ y) : minL xs = some m := by
  obtain ⟨k, e, hk, hu⟩ := minL_ok (List.ne_nil_of_mem h)
  have h1 := (hu k).mp (Int.le_refl _) m h
  have h3 := h2 k hk
  rw [e]; congr 1; omega
theorem maxL_is {xs : List Int} {m : Int} (h : m ∈ xs) (h2 : ∀ y ∈ xs, y ≤ m) : maxL xs = some m := by
  obtain ⟨k, e, hk, hu⟩ := maxL_ok (List.ne_nil_of_mem h)
  have h1 := (hu k).mp (Int.le_refl _) m h
  have h3 := h2 k hk
  rw [e]; congr 1; omega
/-! sorted(set(..)) -/
theorem insU_mem (x y : Int) : ∀ l : List Int, y ∈ insU x l ↔ y = x ∨ y ∈ l
  | [] => by simp [insU]
  | z :: l => by
    simp only [insU]
    split
    · simp
    · split
      · rename_i h; subst h; simp
      · simp only [List.mem_cons, insU_mem x y l]
        constructor
        · rintro (h | h | h) <;> simp [h]
        · rintro (h | h | h) <;> simp [h]
theorem insU_sorted (x : Int) : ∀ {l : List Int}, l.Pairwise (· < ·) → (insU x l).Pairwise (· < ·)
  | [], _ => by simp [insU]
  | z :: l, h => by
    obtain ⟨h1, h2⟩ := List.pairwise_cons.mp h
    simp only [insU]
    split
    · rename_i c
      refine List.pairwise_cons.mpr ⟨fun y hy => ?_, h⟩
      rcases List.mem_cons.mp hy with rfl | hy
      · exact c
      · have := h1 y hy; omega
    · split
      · exact h
      · rename_i c1 c2
        refine List.pairwise_cons.mpr ⟨fun y hy => ?_, insU_sorted x h2⟩
        rcases (insU_mem x y l).mp hy with rfl | hy
        · omega
        · exact h1 y hy
theorem sset_sorted : ∀ l : List Int, (sset l).Pairwise (· < ·)
  | [] => by simp [sset]
  | x :: l => insU_sorted x (sset_sorted l)
theorem sset_memU (y : Int) : ∀ l : List Int, y ∈ sset l ↔ y ∈ l
  | [] => by simp [sset]
  | x :: l => by rw [sset, insU_mem, sset_memU y l, List.mem_cons]
theorem sset_self : ∀ {l : List Int}, l.Pairwise (· < ·) → sset l = l
  | [], _ => rfl
  | x :: l, h => by
    obtain ⟨h1, h2⟩ := List.pairwise_cons.mp h
    rw [sset, sset_self h2]
    cases l with
    | nil => rfl
    | cons y l => simp only [insU, if_pos (h1 y List.mem_cons_self)]
theorem sset_iff {l : List Int} : l = sset l ↔ l.Pairwise (· < ·) := ⟨fun h => by rw [h]; exact sset_sorted l, fun h => (sset_self h).symm⟩
/-! sorted -/
theorem alike_I (xs : List Int) : PySem.W.AllAlike (xs.map eI) := fun d hd e he => by
  obtain ⟨a, _, rfl⟩ := List.mem_map.mp hd
  obtain ⟨b, _, rfl⟩ := List.mem_map.mp he
  rfl
theorem alike_TI (xs : List (List Int)) : PySem.W.AllAlike (xs.map (eT eI)) := fun d hd e he => by
  obtain ⟨a, _, rfl⟩ := List.mem_map.mp hd
  obtain ⟨b, _, rfl⟩ := List.mem_map.mp he
  show PySem.W.alikeAll (a.map PyData.int) (b.map PyData.int) = true
  exact PySem.W.alike_ints a b
theorem dataLe_I : PySem.W.dataLe false eI = fun a b => decide (a ≤ b) := by
  funext a b
  show (!PySem.W.dataLt (.int b) (.int a)) = _
  rw [PySem.W.dataLt_int]
  by_cases h : b < a
  · have : ¬ a ≤ b := by omega
    simp [h, this]
  · have : a ≤ b := by omega
    simp [h, this]
theorem dataLe_TI : PySem.W.dataLe false (eT eI) = fun p q => decide (p ≤ q) := by
  funext p q
  show (!PySem.W.dataLt (.tuple (q.map .int)) (.tuple (p.map .int))) = _
  rw [PySem.W.dataLt_tuple]
  show (!PySem.W.rowLt (q.map .int) (p.map .int)) = _
  rw [PySem.W.dataLt_ints]
  by_cases h : q < p
  · have h' : ¬ p ≤ q := fun r => List.not_lt.mpr r h
    simp [h, h']
  · have h' : p ≤ q := List.not_lt.mp h
    simp [h, h']
theorem depth_TI (xs : List Int) : (eT eI xs).depth ≤ 60 := by
  have := (EqE.I.T).dep xs
  omega
theorem sort_I (xs : List Int) : sortE eI xs = some (xs.mergeSort fun a b => decide (a ≤ b)) := by
  unfold sortE
  rw [if_pos ⟨alike_I xs, .inl (.inr fun d hd => by obtain ⟨a, _, rfl⟩ := List.mem_map.mp hd; exact ⟨nofun, nofun⟩), fun x _ => by simp [PyData.depth]⟩, dataLe_I]
theorem sort_TI {xs : List (List Int)} (h : (∀ x ∈ xs, x ≠ []) ∨ xs.length ≤ 1) : sortE (eT eI) xs = some (xs.mergeSort fun a b => decide (a ≤ b)) := by
  have c : PySem.W.Sortable (xs.map (eT eI)) ∨ ((xs.map (eT eI)).length ≤ 1 ∧ ∀ d ∈ xs.map (eT eI), d ≠ .none) := by
    rcases h with h | h
    · refine .inl (.inl fun d hd => ?_)
      obtain ⟨a, ha, rfl⟩ := List.mem_map.mp hd
      cases a with
      | nil => exact absurd rfl (h _ ha)
      | cons x r => exact ⟨_, _, rfl⟩
    · refine .inr ⟨by simpa using h, fun d hd => ?_⟩
      obtain ⟨a, _, rfl⟩ := List.mem_map.mp hd
      exact nofun
  unfold sortE
  rw [if_pos ⟨alike_TI xs, c, fun x _ => depth_TI x⟩, dataLe_TI]
theorem sorted_TI (xs : List (List Int)) : (xs.mergeSort fun a b => decide (a ≤ b)).Pairwise (· ≤ ·) := by
  have := List.pairwise_mergeSort (le := fun a b : List Int => decide (a ≤ b)) (fun a b c h1 h2 => by
    simp only [decide_eq_true_eq] at h1 h2 ⊢; exact List.le_trans h1 h2) (fun a b => by
    simp only [Bool.or_eq_true, decide_eq_true_eq]; exact List.le_total a b) xs
  exact this.imp fun h => of_decide_eq_true h
/-- the first of the sorted is the least -/
theorem sort_first {xs : List (List Int)} {m : List Int} (h : m ∈ xs) (h2 : ∀ y ∈ xs, m ≤ y) : ∃ r, (xs.mergeSort fun a b => decide (a ≤ b)) = m :: r := by
  have hs := sorted_TI xs
  have hm : m ∈ xs.mergeSort fun a b => decide (a ≤ b) := List.mem_mergeSort.mpr h
  cases e : xs.mergeSort fun a b => decide (a ≤ b) with
  | nil => rw [e] at hm; cases hm
  | cons y r =>
    rw [e] at hm hs
    have h3 : m ≤ y := h2 y (List.mem_mergeSort.mp (by rw [e]; exact List.mem_cons_self))
    rcases List.mem_cons.mp hm with rfl | hm
    · exact ⟨r, rfl⟩
    · have h4 : y ≤ m := (List.pairwise_cons.mp hs).1 m hm
      have := List.le_antisymm h3 h4
      exact ⟨r, by rw [this]⟩
/-! rows of numbers from nought on -/
abbrev nl (r : List Nat) : List Int := r.map fun (n : Nat) => (n : Int)
theorem nl_of : ∀ {is : List Int}, (∀ i ∈ is, 0 ≤ i) → ∃ r, is = nl r
  | [], _ => ⟨[], rfl⟩
  | i :: is, h => by
    obtain ⟨r, rfl⟩ := nl_of fun j hj => h j (List.mem_cons_of_mem _ hj)
    exact ⟨i.toNat :: r, by simp [Int.toNat_of_nonneg (h i List.mem_cons_self)]⟩
theorem nl_inj {a b : List Nat} (h : nl a = nl b) : a = b := (List.map_inj_right fun x y e => by have : (x : Int) = y := e; omega).mp h
theorem nl_pw {r : List Nat} : (nl r).Pairwise (· < ·) ↔ r.Pairwise (· < ·) := by
  rw [List.pairwise_map]
  exact ⟨fun h => h.imp fun h => by omega, fun h => h.imp fun h => by omega⟩
theorem nl_le : ∀ {a b : List Nat}, a ≤ b → nl a ≤ nl b
  | [], b, _ => List.nil_le _
  | x :: a, [], h => by
    exact absurd h (by simp)
  | x :: a, y :: b, h => by
    rcases List.cons_le_cons_iff.mp h with h2 | ⟨h2, h3⟩
    · exact List.cons_le_cons_iff.mpr (.inl (by show (x : Int) < (y : Int); omega))
    · exact List.cons_le_cons_iff.mpr (.inr ⟨by rw [h2], nl_le h3⟩)
/-! values that are rows of numbers -/
def RowP (many : Int) (v : D) (is : List Int) : Prop := v = .tuple (is.map eI) ∧ (∀ i ∈ is, 0 ≤ i ∧ i ≤ many - 1) ∧ is.Pairwise (· < ·)
theorem RowP.uniq {m : Int} {v : D} {a b : List Int} (h : RowP m v a) (g : RowP m v b) : a = b := by
  have e : PyData.tuple (a.map eI) = PyData.tuple (b.map eI) := h.1.symm.trans g.1
  have e2 : a.map eI = b.map eI := by injection e
  exact (List.map_inj_right fun x y e => by injection e).mp e2
end
end Mini

namespace Mini
open PySem PySem.Spec L2
/-! what a typed function answers: rules from the front -/
section
variable {α β γ S R : Type}
def Ok (o : Option α) (Q : α → Prop) : Prop := ∃ a, o = some a ∧ Q a
theorem Ok.ret {a : α} {Q : α → Prop} (h : Q a) : Ok (some a) Q := ⟨a, rfl, h⟩
theorem Ok.of {o : Option α} {Q : α → Prop} {a : α} (e : o = some a) (h : Q a) : Ok o Q := ⟨a, e, h⟩
theorem Ok.get {o : Option α} {b : α} (h : Ok o (fun a => a = b)) : o = some b := by obtain ⟨a, e, rfl⟩ := h; exact e
theorem Ok.mono {o : Option α} {P Q : α → Prop} (h : Ok o P) (k : ∀ a, P a → Q a) : Ok o Q := by obtain ⟨a, e, h⟩ := h; exact ⟨a, e, k a h⟩
theorem Ok.bind {o : Option α} {K : α → Option β} {P : α → Prop} {Q : β → Prop} (h : Ok o P) (k : ∀ a, P a → Ok (K a) Q) : Ok (o.bind K) Q := by
  obtain ⟨a, rfl, h⟩ := h; exact k a h
theorem Ok.eq {o : Option α} {K : α → Option β} {a : α} {Q : β → Prop} (e : o = some a) (k : Ok (K a) Q) : Ok (o.bind K) Q := by subst e; exact k
theorem Ok.lt {a : α} {K : α → Option β} {Q : β → Prop} (k : Ok (K a) Q) : Ok (lt a K) Q := k
theorem Ok.iteT {c : Bool} {a b : Option α} {Q : α → Prop} (hc : c = true) (k : Ok a Q) : Ok (if c then a else b) Q := by subst hc; exact k
theorem Ok.iteF {c : Bool} {a b : Option α} {Q : α → Prop} (hc : c = false) (k : Ok b Q) : Ok (if c then a else b) Q := by subst hc; exact k
theorem Ok.ite {c : Bool} {a b : Option α} {Q : α → Prop} (h1 : c = true → Ok a Q) (h2 : c = false → Ok b Q) : Ok (if c then a else b) Q := by
  cases c with
  | true => exact h1 rfl
  | false => exact h2 rfl
theorem Ok.take {st : Bx} {m : Int} {K : Int × Bx → Option β} {Q : β → Prop} (v : Tp st) (hm : 0 < m) (h2 : m ≤ 1000000000000000000) (k : ∀ x st', 0 ≤ x → x < m → Tp st' → Ok (K (x, st')) Q) : Ok ((takeS st m).bind K) Q := by
  obtain ⟨x, st', e, a, b, c⟩ := take_ok v hm h2
  exact Ok.eq e (k x st' a b c)
theorem Ok.draw {st : Bx} {m : Int} {K : Int × Bx → Option β} {Q : β → Prop} (v : Bp st) (hm : 0 < m) (h2 : m ≤ 1000000000000000000) (k : ∀ x st', 0 ≤ x → x < m → Bp st' → Ok (K (x, st')) Q) : Ok ((drawS st m).bind K) Q := by
  obtain ⟨x, st', e, a, b, c⟩ := draw_okS v hm h2
  exact Ok.eq e (k x st' a b c)
/-- a loop's turn goes on -/
def Nx (V : S → Prop) : Fl S R → Prop := fun r => ∃ s, r = .nx s ∧ V s
theorem Ok.nx {s : S} {V : S → Prop} (h : V s) : Ok (some (.nx s : Fl S R)) (Nx V) := ⟨_, rfl, s, rfl, h⟩
theorem Ok.forF {f : α → S → Option (Fl S R)} {xs : List α} {s : S} {K : Fl S R → Option β} {Q : β → Prop} (V : S → Prop) (h0 : V s) (step : ∀ x ∈ xs, ∀ s, V s → Ok (f x s) (Nx V)) (k : ∀ s', V s' → Ok (K (.nx s')) Q) : Ok ((forF f xs s).bind K) Q := by
  obtain ⟨s', e, h⟩ := forF_all (f := f) V h0 fun x hx s hs => by
    obtain ⟨_, e, s', rfl, h⟩ := step x hx s hs
    exact ⟨s', e, h⟩
  exact Ok.eq e (k s' h)
theorem Ok.forFi {f : α → S → Option (Fl S R)} {xs : List α} {s : S} {K : Fl S R → Option β} {Q : β → Prop} (J : Nat → S → Prop) (h0 : J 0 s) (step : ∀ (i : Nat) (x : α) (s : S), xs[i]? = some x → J i s → Ok (f x s) (Nx (J (i + 1)))) (k : ∀ s', J xs.length s' → Ok (K (.nx s')) Q) : Ok ((Mini.forF f xs s).bind K) Q := by
  obtain ⟨s', e, h⟩ := forF_inv (f := f) J h0 fun i x s hx hs => by
    obtain ⟨_, e, s', rfl, h⟩ := step i x s hx hs
    exact ⟨s', e, h⟩
  exact Ok.eq e (k s' h)
theorem Ok.forO {f : α → S → Option S} {xs : List α} {s : S} {K : S → Option β} {Q : β → Prop} (J : Nat → S → Prop) (h0 : J 0 s) (step : ∀ (i : Nat) (x : α) (s : S), xs[i]? = some x → J i s → Ok (f x s) (J (i + 1))) (k : ∀ s', J xs.length s' → Ok (K s') Q) : Ok ((Mini.forO f xs s).bind K) Q := by
  obtain ⟨s', e, h⟩ := forO_inv (f := f) J h0 step
  exact Ok.eq e (k s' h)
theorem Ok.mapS {f : α → S → Option (γ × S)} {xs : List α} {s : S} {K : List γ × S → Option β} {Q : β → Prop} (V : S → Prop) (P : γ → Prop) (h0 : V s) (step : ∀ x ∈ xs, ∀ s, V s → Ok (f x s) (fun p => P p.1 ∧ V p.2)) (k : ∀ ys s', V s' → ys.length = xs.length → (∀ y ∈ ys, P y) → Ok (K (ys, s')) Q) : Ok ((Mini.mapS f xs s).bind K) Q := by
  obtain ⟨ys, s', e, h1, h2, h3⟩ := mapS_all (f := f) V P h0 fun x hx s hs => by
    obtain ⟨⟨y, s'⟩, e, h⟩ := step x hx s hs
    exact ⟨y, s', e, h⟩
  exact Ok.eq e (k ys s' h1 h2 h3)
theorem Ok.flM {s : S} {A : S → Option β} {B : R → Option β} {Q : β → Prop} (k : Ok (A s) Q) : Ok (flM (.nx s) A B) Q := k
/-! lists by a look at each item -/
theorem mapO_by {f : α → Option β} {xs : List α} (h : ∀ x ∈ xs, ∃ u, f x = some u) : ∃ us, mapO f xs = some us ∧ us.length = xs.length ∧ ∀ u, u ∈ us ↔ ∃ x ∈ xs, f x = some u := by
  induction xs with
  | nil => exact ⟨[], rfl, rfl, by simp⟩
  | cons x xs ih =>
    obtain ⟨us, e, l, m⟩ := ih fun y hy => h y (List.mem_cons_of_mem _ hy)
    obtain ⟨u, hu⟩ := h x List.mem_cons_self
    refine ⟨u :: us, by rw [mapO, hu, Option.bind_some, e]; rfl, by simp [l], fun z => ?_⟩
    rw [List.mem_cons, m]
    constructor
    · rintro (rfl | ⟨y, hy, e⟩)
      · exact ⟨x, List.mem_cons_self, hu⟩
      · exact ⟨y, List.mem_cons_of_mem _ hy, e⟩
    · rintro ⟨y, hy, e⟩
      rcases List.mem_cons.mp hy with rfl | hy
      · rw [hu] at e; exact .inl (Option.some.inj e).symm
      · exact .inr ⟨y, hy, e⟩
theorem fmapO_by {f : α → Option (Option α)} {xs : List α} (P : α → Prop) (h : ∀ x ∈ xs, (f x = some (some x) ∧ P x) ∨ (f x = some none ∧ ¬ P x)) : ∃ ys, fmapO f xs = some ys ∧ ys.length ≤ xs.length ∧ ∀ y, y ∈ ys ↔ y ∈ xs ∧ P y := by
  induction xs with
  | nil => exact ⟨[], rfl, Nat.le_refl _, by simp⟩
  | cons x xs ih =>
    obtain ⟨ys, e, l, m⟩ := ih fun y hy => h y (List.mem_cons_of_mem _ hy)
    rcases h x List.mem_cons_self with ⟨hx, hp⟩ | ⟨hx, hp⟩
    · refine ⟨x :: ys, by rw [fmapO, hx, Option.bind_some, e]; rfl, by simp [l], fun y => ?_⟩
      rw [List.mem_cons, List.mem_cons, m]
      constructor
      · rintro (rfl | ⟨a, b⟩)
        · exact ⟨.inl rfl, hp⟩
        · exact ⟨.inr a, b⟩
      · rintro ⟨rfl | a, b⟩
        · exact .inl rfl
        · exact .inr ⟨a, b⟩
    · refine ⟨ys, by rw [fmapO, hx, Option.bind_some, e]; rfl, by simp; omega, fun y => ?_⟩
      rw [List.mem_cons, m]
      constructor
      · rintro ⟨a, b⟩; exact ⟨.inr a, b⟩
      · rintro ⟨rfl | a, b⟩
        · exact absurd b hp
        · exact ⟨a, b⟩
end
end Mini

namespace Mini
open PySem PySem.Spec L2
/-! the least of a row of data -/
section
variable {α : Type}
theorem dlt_trans {a b c : D} (h1 : PySem.W.dataLt a b = true) (h2 : PySem.W.dataLt b c = true) : PySem.W.dataLt a c = true := PyProof.Rows.lex_trans _ _ _ h1 h2
theorem dlt_irr (a : D) : PySem.W.dataLt a a = false := PyProof.Rows.lex_irrefl _
theorem min_fold (e : α → D) : ∀ (xs : List α) (x : α), (xs.foldl (fun a y => if PySem.W.dataLt (e y) (e a) then y else a) x = x ∨ xs.foldl (fun a y => if PySem.W.dataLt (e y) (e a) then y else a) x ∈ xs) ∧
    ∀ y ∈ x :: xs, PySem.W.dataLt (e y) (e (xs.foldl (fun a y => if PySem.W.dataLt (e y) (e a) then y else a) x)) = false
  | [], x => ⟨.inl rfl, fun y hy => by rw [List.mem_singleton] at hy; subst hy; exact dlt_irr _⟩
  | z :: xs, x => by
    rw [List.foldl_cons]
    have ih := min_fold e xs (if PySem.W.dataLt (e z) (e x) then z else x)
    by_cases hz : PySem.W.dataLt (e z) (e x) = true
    · rw [if_pos hz] at ih ⊢
      refine ⟨.inr (ih.1.elim (fun q => by rw [q]; exact List.mem_cons_self) (List.mem_cons_of_mem _)), fun y hy => ?_⟩
      rcases List.mem_cons.mp hy with rfl | hy
      · cases q : PySem.W.dataLt (e y) (e (xs.foldl (fun a y => if PySem.W.dataLt (e y) (e a) then y else a) z)) with
        | false => rfl
        | true =>
          have := dlt_trans hz q
          rw [ih.2 z List.mem_cons_self] at this; cases this
      · exact ih.2 y hy
    · rw [if_neg hz] at ih ⊢
      refine ⟨ih.1.imp id (List.mem_cons_of_mem _), fun y hy => ?_⟩
      rcases List.mem_cons.mp hy with rfl | hy
      · exact ih.2 _ List.mem_cons_self
      · rcases List.mem_cons.mp hy with rfl | hy
        · cases q : PySem.W.dataLt (e y) (e (xs.foldl (fun a y => if PySem.W.dataLt (e y) (e a) then y else a) x)) with
          | false => rfl
          | true =>
            -- y below the least so far, which is x or below x
            rcases ih.1 with e1 | e1
            · rw [e1] at q; exact absurd q hz
            · exfalso
              have h2 := ih.2 x List.mem_cons_self
              -- total: x is not below m, so m is at most x
              cases q3 : PySem.W.dataLt (e (xs.foldl (fun a y => if PySem.W.dataLt (e y) (e a) then y else a) x)) (e x) with
              | true => exact hz (dlt_trans q q3)
              | false =>
                have tot := PyProof.Rows.lex_total _ _ q3 h2
                have : PySem.W.dataLt (e y) (e x) = true := by
                  unfold PySem.W.dataLt at q ⊢
                  rw [← tot]; exact q
                exact hz this
        · exact ih.2 y (List.mem_cons_of_mem _ hy)
theorem minE_spec {e : α → D} {xs : List α} (ne : xs ≠ []) (ni : ∀ x, ∀ i, e x ≠ .int i) (al : ∀ x ∈ xs, ∀ y ∈ xs, PySem.W.alike (e x) (e y) = true) (nn : ∀ x, e x ≠ .none) (dp : PyData.depthAll (xs.map e) ≤ 60) :
    ∃ m, minE e xs = some m ∧ m ∈ xs ∧ ∀ y ∈ xs, PySem.W.dataLt (e y) (e m) = false := by
  cases xs with
  | nil => exact absurd rfl ne
  | cons x xs =>
    have h1 : intsL ((x :: xs).map e) = none := by
      rw [List.map_cons]
      cases q : e x with
      | int i => exact absurd q (ni x i)
      | _ => rfl
    refine ⟨_, if_pos ⟨h1, ⟨fun a ha b hb => ?_, fun a ha => ?_⟩, dp⟩, (min_fold e xs x).1.elim (fun q => by rw [q]; exact List.mem_cons_self) (List.mem_cons_of_mem _), (min_fold e xs x).2⟩
    · obtain ⟨u, hu, rfl⟩ := List.mem_map.mp ha
      obtain ⟨v, hv, rfl⟩ := List.mem_map.mp hb
      exact al u hu v hv
    · obtain ⟨u, hu, rfl⟩ := List.mem_map.mp ha
      exact nn u
theorem depthAll_le {ds : List D} {n : Nat} (h : ∀ d ∈ ds, d.depth ≤ n) : PyData.depthAll ds ≤ n := by
  induction ds with
  | nil => exact Nat.zero_le _
  | cons d ds ih => exact Nat.max_le.mpr ⟨h d List.mem_cons_self, ih fun d hd => h d (List.mem_cons_of_mem _ hd)⟩
/-- rows (number, number, tuple of numbers) -/
abbrev e3 : Int × Int × List Int → D := eP3 eI eI (eT eI)
theorem e3_alike (x y : Int × Int × List Int) : PySem.W.alike (e3 x) (e3 y) = true := by
  show PySem.W.alikeAll [.int x.1, .int x.2.1, .tuple (x.2.2.map PyData.int)] [.int y.1, .int y.2.1, .tuple (y.2.2.map PyData.int)] = true
  have : PySem.W.alike (.tuple (x.2.2.map PyData.int)) (.tuple (y.2.2.map PyData.int)) = true := PySem.W.alike_ints x.2.2 y.2.2
  simp only [PySem.W.alikeAll, PySem.W.alike, Bool.and_true, Bool.true_and]
  exact PySem.W.alike_ints x.2.2 y.2.2
theorem e3_dep (x : Int × Int × List Int) : (e3 x).depth ≤ 60 := by
  have h := depth_TI x.2.2
  have h2 : (eT eI x.2.2).depth ≤ 2 := by
    show PyData.depthAll (x.2.2.map PyData.int) + 1 ≤ 2
    have := depthAll_le (ds := x.2.2.map PyData.int) (n := 1) fun d hd => by
      obtain ⟨i, _, rfl⟩ := List.mem_map.mp hd
      simp [PyData.depth]
    omega
  show PyData.depthAll [.int x.1, .int x.2.1, eT eI x.2.2] + 1 ≤ 60
  have := depthAll_le (ds := [.int x.1, .int x.2.1, eT eI x.2.2]) (n := 2) fun d hd => by
    simp only [List.mem_cons, List.not_mem_nil, or_false] at hd
    rcases hd with rfl | rfl | rfl
    · simp [PyData.depth]
    · simp [PyData.depth]
    · exact h2
  omega
theorem e3_lt {x y : Int × Int × List Int} (h : x.1 < y.1) : PySem.W.dataLt (e3 x) (e3 y) = true := by
  show PySem.W.dataLt (.tuple [.int x.1, .int x.2.1, eT eI x.2.2]) (.tuple [.int y.1, .int y.2.1, eT eI y.2.2]) = true
  rw [PySem.W.dataLt_tuple]
  have e := PySem.W.dataLt_all_no (x := .int x.1) (y := .int y.1) (xs := [.int x.2.1, eT eI x.2.2]) (ys := [.int y.2.1, eT eI y.2.2]) (by rfl) (by
    show decide (x.1 = y.1) = false
    exact decide_eq_false (by omega))
  rw [e, PySem.W.dataLt_int]
  exact decide_eq_true h
theorem min3 {xs : List (Int × Int × List Int)} (ne : xs ≠ []) : ∃ m, minE e3 xs = some m ∧ m ∈ xs ∧ ∀ y ∈ xs, m.1 ≤ y.1 := by
  obtain ⟨m, e, h1, h2⟩ := minE_spec (e := e3) ne (fun _ _ => nofun) (fun x _ y _ => e3_alike x y) (fun _ => nofun) (depthAll_le fun d hd => by obtain ⟨x, _, rfl⟩ := List.mem_map.mp hd; exact e3_dep x)
  refine ⟨m, e, h1, fun y hy => ?_⟩
  rcases Int.lt_or_le y.1 m.1 with h | h
  · have := e3_lt h
    rw [h2 y hy] at this; cases this
  · exact h
/-! strings -/
theorem sh_S {s : Str} (h : PyData.canLay0 (.str s) = true) : SeqAt.shaped (eS s) = true := by
  show (PyData.canLay0 (.str s) && decide ((PyData.str s).depth ≤ 64)) = true
  rw [h]; simp [PyData.depth]
theorem eqS {a b : Str} (ha : PyData.canLay0 (.str a) = true) (hb : PyData.canLay0 (.str b) = true) : eqD (eS a) (eS b) = some (decide (a = b)) := by
  unfold eqD
  rw [if_pos ⟨sh_S ha, sh_S hb⟩]
  have : PyData.eqv (eS a) (eS b) = decide (a = b) := by
    show (PyData.eqv (.str a) (.str b)) = _
    rw [Bool.eq_iff_iff]; simp [PyData.eqv]
  rw [this]
theorem inS {a : Str} {bs : List Str} (ha : PyData.canLay0 (.str a) = true) (hb : ∀ b ∈ bs, PyData.canLay0 (.str b) = true) : inD (eS a) (bs.map eS) = some (decide (a ∈ bs)) := by
  unfold inD
  have h1 : SeqAt.shaped (.tuple (bs.map eS)) = true := by
    show (PyData.canLayAll0 (bs.map eS) && decide ((PyData.tuple (bs.map eS)).depth ≤ 64)) = true
    have a1 : PyData.canLayAll0 (bs.map eS) = true := by
      clear ha
      induction bs with
      | nil => rfl
      | cons b bs ih =>
        show (PyData.canLay0 (.str b) && PyData.canLayAll0 (bs.map eS)) = true
        rw [hb b List.mem_cons_self, ih fun c hc => hb c (List.mem_cons_of_mem _ hc)]; rfl
    have a2 : (PyData.tuple (bs.map eS)).depth ≤ 64 := by
      show PyData.depthAll (bs.map eS) + 1 ≤ 64
      have := depthAll_le (ds := bs.map eS) (n := 1) fun d hd => by
        obtain ⟨i, _, rfl⟩ := List.mem_map.mp hd
        simp [PyData.depth]
      omega
    rw [a1, decide_eq_true a2]; rfl
  rw [if_pos ⟨sh_S ha, h1⟩]
  congr 1
  induction bs with
  | nil => simp
  | cons b bs ih =>
    have ih := ih (fun c hc => hb c (List.mem_cons_of_mem _ hc))
    have h2 : SeqAt.shaped (.tuple (bs.map eS)) = true := by
      have h1' : (PyData.canLayAll0 ((b :: bs).map eS) && decide ((PyData.tuple ((b :: bs).map eS)).depth ≤ 64)) = true := h1
      rw [Bool.and_eq_true, decide_eq_true_eq] at h1'
      have c1 : (PyData.canLay0 (.str b) && PyData.canLayAll0 (bs.map eS)) = true := h1'.1
      rw [Bool.and_eq_true] at c1
      have c2 : max (PyData.str b).depth (PyData.depthAll (bs.map eS)) + 1 ≤ 64 := h1'.2
      show (PyData.canLayAll0 (bs.map eS) && decide (PyData.depthAll (bs.map eS) + 1 ≤ 64)) = true
      rw [c1.2, decide_eq_true (by omega)]; rfl
    rw [List.map_cons, List.any_cons, ih h2]
    have : PyData.eqv (eS b) (eS a) = decide (b = a) := by
      show (PyData.eqv (.str b) (.str a)) = _
      rw [Bool.eq_iff_iff]; simp [PyData.eqv]
    rw [this]
    by_cases h : b = a
    · subst h; simp
    · have h' : ¬ a = b := fun z => h z.symm
      simp [h, h']
end
/-- a loop that only lengthens a list -/
theorem forO_ext {α β : Type} {f : α → List β → Option (List β)} {g : α → List β} : ∀ {L : List α} {acc : List β}, (∀ x ∈ L, ∀ acc, acc.length + (g x).length ≤ 1000000 → f x acc = some (acc ++ g x)) → acc.length + (L.flatMap g).length ≤ 1000000 → forO f L acc = some (acc ++ L.flatMap g)
  | [], acc, _, _ => by simp [forO]
  | x :: L, acc, h, hl => by
    rw [List.flatMap_cons, List.length_append] at hl
    rw [forO, h x List.mem_cons_self acc (by omega), Option.bind_some, forO_ext (fun y hy => h y (List.mem_cons_of_mem _ hy)) (by rw [List.length_append]; omega), List.flatMap_cons, List.append_assoc]
end Mini

namespace Mini
open PySem PySem.Spec L2
/-! ratios as rational numbers -/
abbrev QP := Int × Int
def enR (r : Rat) : QP := (r.num, (r.den : Int))
theorem enR_inj {a b : Rat} (h : enR a = enR b) : a = b := by
  injection h with h1 h2
  exact Rat.ext h1 (by omega)
/-- numbers of at most so many bits -/
def Rb (n : Nat) (r : Rat) : Prop := r.num.natAbs < 2 ^ n ∧ r.den < 2 ^ n
theorem Rb.mono {m n : Nat} {r : Rat} (h : Rb m r) (l : m ≤ n) : Rb n r := ⟨Nat.lt_of_lt_of_le h.1 (Nat.pow_le_pow_right (by omega) l), Nat.lt_of_lt_of_le h.2 (Nat.pow_le_pow_right (by omega) l)⟩
theorem log_lt {x n : Nat} (h : x < 2 ^ n) : x.log2 ≤ n := by
  rcases Nat.eq_zero_or_pos x with z | z
  · rw [z, Nat.log2_zero]; exact Nat.zero_le _
  · exact Nat.le_of_lt ((Nat.log2_lt (by omega)).mpr h)
theorem mulI_b {x y : Int} {m n : Nat} (hx : x.natAbs < 2 ^ m) (hy : y.natAbs < 2 ^ n) (l : m + n < 1000000) : mulI x y = some (x * y) := if_pos (.inl (by
  have := log_lt hx
  have := log_lt hy
  omega))
theorem divI_b {x : Int} {g : Nat} {n : Nat} (h0 : 0 < g) (h : g < 2 ^ n) (l : n < 9000) : divI x (g : Int) = some (x / (g : Int)) := if_pos ⟨by omega, by
  have := log_lt h
  rw [Int.natAbs_natCast]; omega⟩
theorem gcd_st (a b : Nat) : Nat.gcd b (a % b) = Nat.gcd a b := by
  rw [Nat.gcd_comm b, ← Nat.gcd_rec b a, Nat.gcd_comm]
/-- the loop by remainders -/
theorem gcd_loop {c : Int × Int → Option Bool} (hc : ∀ a b, c (a, b) = some (b != 0)) {f : Int × Int → Option (Int × Int)} (hf : ∀ a b, f (a, b) = (modI a b).bind fun x => some (b, x)) : ∀ (b a : Nat), whO c f ((a : Int), (b : Int)) = some ((Nat.gcd a b : Int), 0) := by
  intro b
  induction b using Nat.strongRecOn with
  | _ b ih =>
    intro a
    rcases Nat.eq_zero_or_pos b with z | z
    · subst z
      rw [Nat.gcd_zero_right]
      exact whO_end (by rw [hc]; rfl)
    · refine whO_step (t := ((b : Int), ((a % b : Nat) : Int))) (by rw [hc]; congr 1; simp; omega) ?_ ?_
      · rw [hf]
        unfold modI
        rw [if_pos (by omega)]; rfl
      · rw [ih (a % b) (Nat.mod_lt a z) b, gcd_st]
/-- .. by taking away so many times -/
theorem gcd_loop2 {n : Nat} (hn : n < 4000) {c : Int × Int → Option Bool} (hc : ∀ a b, c (a, b) = some (decide (b ≠ 0))) {f : Int × Int → Option (Int × Int)} (hf : ∀ a b, f (a, b) = (divI a b).bind fun x => (mulI x b).bind fun x1 => lt (a - x1) fun b2 => some (b, b2)) :
    ∀ (b a : Nat), a < 2 ^ n → b < 2 ^ n → whO c f ((a : Int), (b : Int)) = some ((Nat.gcd a b : Int), 0) := by
  intro b
  induction b using Nat.strongRecOn with
  | _ b ih =>
    intro a ha hb
    rcases Nat.eq_zero_or_pos b with z | z
    · subst z
      rw [Nat.gcd_zero_right]
      exact whO_end (by rw [hc]; rfl)
    · refine whO_step (t := ((b : Int), ((a % b : Nat) : Int))) (by rw [hc, decide_eq_true (by omega)]) ?_ ?_
      · have hd : a / b ≤ a := Nat.div_le_self a b
        rw [hf, divI_b z hb (by omega), Option.bind_some, mulI_b (m := n) (n := n) (by rw [← Int.natCast_ediv, Int.natAbs_natCast]; omega) (by rw [Int.natAbs_natCast]; exact hb) (by omega), Option.bind_some]
        show some ((b : Int), (a : Int) - (a : Int) / (b : Int) * (b : Int)) = _
        have := Int.emod_def (a : Int) (b : Int)
        rw [Int.mul_comm] at this
        rw [← this]; rfl
      · rw [ih (a % b) (Nat.mod_lt a z) b hb (Nat.lt_of_le_of_lt (Nat.mod_le a b) ha), gcd_st]
/-- a quotient made least -/
theorem quot_eq {p q : Int} (hq : 0 < q) : (p / (Int.gcd p q : Int), q / (Int.gcd p q : Int)) = enR (Rat.divInt p q) := by
  unfold enR
  rw [Rat.num_divInt, Rat.den_divInt, if_neg (by omega), Int.sign_eq_one_of_pos hq, Int.one_mul, Int.gcd_comm q p]
  congr 1
  have : ((q.natAbs / Int.gcd p q : Nat) : Int) = (q.natAbs : Int) / (Int.gcd p q : Int) := Int.natCast_ediv _ _
  rw [this]
  have : (q.natAbs : Int) = q := by omega
  rw [this]
theorem gcd_le {p q : Int} (hq : 0 < q) : 0 < Int.gcd p q ∧ Int.gcd p q ≤ q.natAbs := by
  have h := Int.gcd_pos_of_ne_zero_right p (show q ≠ 0 by omega)
  exact ⟨h, Nat.le_of_dvd (by omega) (Int.gcd_dvd_natAbs_right p q)⟩
theorem Rb.quot {p q : Int} {n : Nat} (hp : p.natAbs < 2 ^ n) (hq : 0 < q) (hq2 : q.natAbs < 2 ^ n) : Rb n (Rat.divInt p q) := by
  have e := quot_eq (p := p) hq
  obtain ⟨g0, g1⟩ := gcd_le (p := p) hq
  unfold enR at e
  injection e with e1 e2
  constructor
  · rw [← e1]
    refine Nat.lt_of_le_of_lt ?_ hp
    exact Int.natAbs_ediv_le_natAbs p _
  · have : (Rat.divInt p q).den = q.natAbs / Int.gcd p q := by
      rw [Rat.den_divInt, if_neg (by omega), Int.gcd_comm]
    rw [this]
    exact Nat.lt_of_le_of_lt (Nat.div_le_self _ _) hq2
theorem den_pos (r : Rat) : 0 < (r.den : Int) := by have := r.den_pos; omega
theorem mul_lt {x y : Int} {m n : Nat} (hx : x.natAbs < 2 ^ m) (hy : y.natAbs < 2 ^ n) : (x * y).natAbs < 2 ^ (m + n) := by
  rw [Int.natAbs_mul, Nat.pow_add]
  exact Nat.mul_lt_mul_of_lt_of_lt hx hy
theorem den_lt {r : Rat} {n : Nat} (h : Rb n r) : ((r.den : Int)).natAbs < 2 ^ n := by rw [Int.natAbs_natCast]; exact h.2
theorem add_q (a b : Rat) : a + b = Rat.divInt (a.num * b.den + b.num * a.den) (a.den * b.den) := by
  have := Rat.divInt_add_divInt a.num b.num (d₁ := (a.den : Int)) (d₂ := (b.den : Int)) (by have := den_pos a; omega) (by have := den_pos b; omega)
  rwa [Rat.num_divInt_den, Rat.num_divInt_den] at this
theorem sub_q (a b : Rat) : a - b = Rat.divInt (a.num * b.den - b.num * a.den) (a.den * b.den) := by
  have := Rat.divInt_sub_divInt a.num b.num (d₁ := (a.den : Int)) (d₂ := (b.den : Int)) (by have := den_pos a; omega) (by have := den_pos b; omega)
  rwa [Rat.num_divInt_den, Rat.num_divInt_den] at this
theorem mul_q (a b : Rat) : a * b = Rat.divInt (a.num * b.num) (a.den * b.den) := by
  have := Rat.divInt_mul_divInt a.num b.num (d₁ := (a.den : Int)) (d₂ := (b.den : Int))
  rwa [Rat.num_divInt_den, Rat.num_divInt_den] at this
theorem div_q {a b : Rat} : a / b = Rat.divInt (a.num * b.den) (a.den * b.num) := by
  rw [Rat.div_def, Rat.inv_def]
  have := Rat.divInt_mul_divInt a.num (b.den : Int) (d₁ := (a.den : Int)) (d₂ := b.num)
  rwa [Rat.num_divInt_den] at this
theorem num_pos {r : Rat} (h : 0 < r) : 0 < r.num := by
  have := (Rat.lt_iff 0 r).mp h
  simpa using this
theorem num_pos' {r : Rat} : 0 < r.num ↔ 0 < r := by
  refine ⟨fun h => (Rat.lt_iff 0 r).mpr (by simpa using h), num_pos⟩
theorem pow_le2 {a b : Nat} (h : a ≤ b) : 2 ^ a ≤ 2 ^ b := Nat.pow_le_pow_right (by omega) h
theorem dd_pos (a b : Rat) : 0 < (a.den : Int) * (b.den : Int) := Int.mul_pos (den_pos a) (den_pos b)
theorem add_lt {x y : Int} {n : Nat} (hx : x.natAbs < 2 ^ n) (hy : y.natAbs < 2 ^ n) : (x + y).natAbs < 2 ^ (n + 1) := by
  rw [Nat.pow_succ]; omega
theorem sub_lt {x y : Int} {n : Nat} (hx : x.natAbs < 2 ^ n) (hy : y.natAbs < 2 ^ n) : (x - y).natAbs < 2 ^ (n + 1) := by
  rw [Nat.pow_succ]; omega
theorem Rb.add {m n : Nat} {a b : Rat} (h : Rb m a) (g : Rb n b) : Rb (m + n + 1) (a + b) := by
  rw [add_q]
  refine Rb.quot (add_lt (mul_lt h.1 (den_lt g)) ?_) (dd_pos a b) (Nat.lt_of_lt_of_le (mul_lt (den_lt h) (den_lt g)) (pow_le2 (by omega)))
  rw [Nat.add_comm m n]; exact mul_lt g.1 (den_lt h)
theorem Rb.sub {m n : Nat} {a b : Rat} (h : Rb m a) (g : Rb n b) : Rb (m + n + 1) (a - b) := by
  rw [sub_q]
  refine Rb.quot (sub_lt (mul_lt h.1 (den_lt g)) ?_) (dd_pos a b) (Nat.lt_of_lt_of_le (mul_lt (den_lt h) (den_lt g)) (pow_le2 (by omega)))
  rw [Nat.add_comm m n]; exact mul_lt g.1 (den_lt h)
theorem Rb.mul {m n : Nat} {a b : Rat} (h : Rb m a) (g : Rb n b) : Rb (m + n) (a * b) := by
  rw [mul_q]
  exact Rb.quot (mul_lt h.1 g.1) (dd_pos a b) (mul_lt (den_lt h) (den_lt g))
theorem Rb.div {m n : Nat} {a b : Rat} (h : Rb m a) (g : Rb n b) (hb : 0 < b) : Rb (m + n) (a / b) := by
  rw [div_q]
  exact Rb.quot (mul_lt h.1 (den_lt g)) (Int.mul_pos (den_pos a) (num_pos hb)) (mul_lt (den_lt h) g.1)
theorem Rb.int {i : Int} {n : Nat} (h : i.natAbs < 2 ^ n) (hn : 1 ≤ n) : Rb n (i : Rat) := by
  refine ⟨by rw [Rat.num_intCast]; exact h, ?_⟩
  rw [Rat.den_intCast]
  calc 1 < 2 ^ 1 := by decide
    _ ≤ 2 ^ n := pow_le2 hn
theorem enR_int (i : Int) : enR (i : Rat) = (i, 1) := by unfold enR; rw [Rat.num_intCast, Rat.den_intCast]; rfl
theorem lt_q (a b : Rat) : decide (a.num * (b.den : Int) < b.num * (a.den : Int)) = decide (a < b) := by
  rw [Bool.eq_iff_iff, decide_eq_true_eq, decide_eq_true_eq, Rat.lt_iff]
/-- a pair that is a ratio -/
def IsQ (p : QP) : Prop := 0 < p.2 ∧ Int.gcd p.1 p.2 = 1
theorem isQ_en (r : Rat) : IsQ (enR r) := ⟨den_pos r, by
  have := r.reduced
  exact this⟩
theorem isQ_of {p : QP} (h : IsQ p) : p = enR (Rat.divInt p.1 p.2) := by
  rw [← quot_eq h.1, h.2]
  obtain ⟨a, b⟩ := p
  simp
theorem isQ_iff {p : QP} : IsQ p ↔ ∃ r, p = enR r := ⟨fun h => ⟨_, isQ_of h⟩, fun ⟨r, e⟩ => e ▸ isQ_en r⟩
/-! rationals whose denominators divide a number -/
def Zn (N : Nat) (r : Rat) : Prop := r.den ∣ N
theorem zn_iff {N : Nat} (hN : 0 < N) {r : Rat} : Zn N r ↔ ∃ z : Int, r = Rat.divInt z N := by
  constructor
  · rintro ⟨k, rfl⟩
    have hk : 0 < k := by
      rcases Nat.eq_zero_or_pos k with z | z
      · subst z; simp at hN
      · exact z
    refine ⟨r.num * k, ?_⟩
    have := Rat.divInt_mul_divInt r.num (k : Int) (d₁ := (r.den : Int)) (d₂ := (k : Int))
    rw [Rat.divInt_self' (by omega), Rat.num_divInt_den, Rat.mul_one] at this
    rw [Int.natCast_mul]; exact this
  · rintro ⟨z, rfl⟩
    unfold Zn
    rw [Rat.den_divInt, if_neg (by omega), Int.natAbs_natCast]
    refine Nat.div_dvd_of_dvd ?_
    have := Int.gcd_dvd_natAbs_left (N : Int) z
    simpa using this
theorem Zn.add {N : Nat} (hN : 0 < N) {a b : Rat} (h : Zn N a) (g : Zn N b) : Zn N (a + b) := by
  obtain ⟨x, rfl⟩ := (zn_iff hN).mp h
  obtain ⟨y, rfl⟩ := (zn_iff hN).mp g
  refine (zn_iff hN).mpr ⟨x + y, ?_⟩
  rw [Rat.divInt_eq_div, Rat.divInt_eq_div, Rat.divInt_eq_div, Rat.intCast_add]
  grind
theorem Zn.int {N : Nat} (i : Int) : Zn N (i : Rat) := by unfold Zn; rw [Rat.den_intCast]; exact Nat.one_dvd N
theorem Zn.mul {M N : Nat} (hM : 0 < M) (hN : 0 < N) {a b : Rat} (h : Zn M a) (g : Zn N b) : Zn (M * N) (a * b) := by
  obtain ⟨x, rfl⟩ := (zn_iff hM).mp h
  obtain ⟨y, rfl⟩ := (zn_iff hN).mp g
  refine (zn_iff (Nat.mul_pos hM hN)).mpr ⟨x * y, ?_⟩
  rw [Rat.divInt_mul_divInt, Int.natCast_mul]
theorem Zn.mono {M N : Nat} {a : Rat} (h : Zn M a) (d : M ∣ N) : Zn N a := Nat.dvd_trans h d
/-- few bits by a small size and a small denominator -/
theorem Rb.zn {N n : Nat} {r : Rat} {V : Nat} (hN : 0 < N) (h : Zn N r) (h0 : 0 ≤ r) (hV : r ≤ (V : Int)) (hb : V * N < 2 ^ n) (hb2 : N < 2 ^ n) : Rb n r := by
  have d := Nat.le_of_dvd hN h
  refine ⟨?_, by omega⟩
  have h1 : 0 ≤ r.num := Rat.num_nonneg.mpr h0
  have h2 := (Rat.le_iff r ((V : Int) : Rat)).mp hV
  rw [Rat.num_intCast, Rat.den_intCast] at h2
  have h3 : (V : Int) * (r.den : Int) ≤ (V : Int) * (N : Int) := Int.mul_le_mul_of_nonneg_left (by omega) (by omega)
  have h4 : (V : Int) * (N : Int) = ((V * N : Nat) : Int) := by rw [Int.natCast_mul]
  omega
end Mini

namespace Law
open PySem PySem.Spec L2 Mini
def top (i : Nat) : Stmt := PySem.Challenge.pw_pantrykept_k10_whole_costs_and_floors.main.body.getD i (.Pass ⟨0, 0, 0, 0⟩)
/- [n * size for n, (size, _ -/
def amount_of_c1 : E := (.lc (.tp [(.nm 2), (.tp [(.nm 3), (.nm 4)])]) .zip [(.var 1), (.var 0)] [] (.bin .Mult (.var 2) (.var 3)) [2, 3, 4])
@[simp] theorem amount_of_c1_o (P : Ph) (env : En) : (ev P amount_of_c1).opd env = (frzM (ev P amount_of_c1).val env).map fun r => (.d r.1, r.2) := by simp only [amount_of_c1, ev_lc, lcM_opd]
abbrev E_amount_of (packs purchase n size u : Sl := .no) : En := [packs, purchase, n, size, u]
def b_amount_of : List C := [(.ret (.blt .sum [amount_of_c1]))]
def i_amount_of : FnI := ⟨"amount_of", top 1, ["packs", "purchase"], ["packs", "purchase", "n", "size", "_"], b_amount_of, false⟩
/- [n * price for n, (_, pri -/
def price_of_c1 : E := (.lc (.tp [(.nm 2), (.tp [(.nm 3), (.nm 4)])]) .zip [(.var 1), (.var 0)] [] (.bin .Mult (.var 2) (.var 4)) [2, 3, 4])
@[simp] theorem price_of_c1_o (P : Ph) (env : En) : (ev P price_of_c1).opd env = (frzM (ev P price_of_c1).val env).map fun r => (.d r.1, r.2) := by simp only [price_of_c1, ev_lc, lcM_opd]
abbrev E_price_of (packs purchase n u price : Sl := .no) : En := [packs, purchase, n, u, price]
def b_price_of : List C := [(.ret (.blt .sum [price_of_c1]))]
def i_price_of : FnI := ⟨"price_of", top 2, ["packs", "purchase"], ["packs", "purchase", "n", "_", "price"], b_price_of, false⟩
/- [found[max(0, t - size)]  -/
def cost_ladder_c1 : E := (.lc (.tp [(.nm 4), (.nm 5)]) .seq [(.var 0)] [] (.bin .Add (.idx (.var 2) (.blt .max [(.cst (.int 0)), (.bin .Sub (.var 3) (.var 4))])) (.var 5)) [4, 5])
@[simp] theorem cost_ladder_c1_o (P : Ph) (env : En) : (ev P cost_ladder_c1).opd env = (frzM (ev P cost_ladder_c1).val env).map fun r => (.d r.1, r.2) := by simp only [cost_ladder_c1, ev_lc, lcM_opd]
def cost_ladder_l1 : List C := [(.app 2 (.blt .min [cost_ladder_c1]))]
abbrev E_cost_ladder (packs s found t size price : Sl := .no) : En := [packs, s, found, t, size, price]
def b_cost_ladder : List C := [(.asg (.nm 2) (.lst [(.cst (.int 0))])),
    (.fr (.nm 3) .rng [(.cst (.int 1)), (.bin .Add (.var 1) (.cst (.int 1)))] cost_ladder_l1),
    (.ret (.blt .tuple [(.var 2)]))]
def i_cost_ladder : FnI := ⟨"cost_ladder", top 3, ["packs", "s"], ["packs", "s", "found", "t", "size", "price"], b_cost_ladder, false⟩
/- [i for i, (size, price) i -/
def cheapest_c1 : E := (.lc (.tp [(.nm 5), (.tp [(.nm 6), (.nm 7)])]) .enum [(.var 0)] [(.cmp .Eq (.bin .Add (.idx (.var 2) (.blt .max [(.cst (.int 0)), (.bin .Sub (.var 1) (.var 6))])) (.var 7)) (.idx (.var 2) (.var 1)))] (.var 5) [5, 6, 7])
@[simp] theorem cheapest_c1_o (P : Ph) (env : En) : (ev P cheapest_c1).opd env = (frzM (ev P cheapest_c1).val env).map fun r => (.d r.1, r.2) := by simp only [cheapest_c1, ev_lc, lcM_opd]
def cheapest_l1 : List C := [(.asg (.nm 4) (.idx cheapest_c1 (.cst (.int 0)))),
    (.augi 3 (.var 4) .Add (.cst (.int 1))),
    (.asg (.nm 1) (.blt .max [(.cst (.int 0)), (.bin .Sub (.var 1) (.idx (.idx (.var 0) (.var 4)) (.cst (.int 0))))]))]
abbrev E_cheapest (packs s costs found k i size price : Sl := .no) : En := [packs, s, costs, found, k, i, size, price]
def b_cheapest : List C := [(.asg (.nm 2) (.call 2 [(.var 0), (.var 1)])),
    (.asg (.nm 3) (.bin .Mult (.lst [(.cst (.int 0))]) (.blt .len [(.var 0)]))),
    (.wh (.cmp .Gt (.var 1) (.cst (.int 0))) cheapest_l1),
    (.ret (.blt .tuple [(.var 3)]))]
def i_cheapest : FnI := ⟨"cheapest", top 4, ["packs", "s"], ["packs", "s", "costs", "found", "k", "i", "size", "price"], b_cheapest, false⟩
def best_pack_l1 : List C := [(.ife (.cmp .Lt (.bin .Mult (.var 3) (.idx (.var 1) (.cst (.int 0)))) (.bin .Mult (.idx (.var 1) (.cst (.int 1))) (.var 2))) [(.asg (.nm 1) (.tup [(.var 2), (.var 3)]))] [])]
abbrev E_best_pack (packs best size price : Sl := .no) : En := [packs, best, size, price]
def b_best_pack : List C := [(.asg (.nm 1) (.idx (.var 0) (.cst (.int 0)))),
    (.fr (.tp [(.nm 2), (.nm 3)]) .seq [(.slc (.var 0) [(.cst (.int 1))] [])] best_pack_l1),
    (.ret (.var 1))]
def i_best_pack : FnI := ⟨"best_pack", top 6, ["packs"], ["packs", "best", "size", "price"], b_best_pack, false⟩
abbrev E_turning_point (packs : Sl := .no) : En := [packs]
def b_turning_point : List C := [(.ret (.bin .Mult (.bin .Sub (.idx (.call 4 [(.var 0)]) (.cst (.int 0))) (.cst (.int 1))) (.idx (.idx (.var 0) (.neg (.cst (.int 1)))) (.cst (.int 0)))))]
def i_turning_point : FnI := ⟨"turning_point", top 7, ["packs"], ["packs"], b_turning_point, false⟩
abbrev E_cost_far (packs s size price more edge : Sl := .no) : En := [packs, s, size, price, more, edge]
def b_cost_far : List C := [(.asg (.tp [(.nm 2), (.nm 3)]) (.call 4 [(.var 0)])),
    (.asg (.nm 4) (.cst (.int 0))),
    (.asg (.nm 5) (.bin .Add (.call 5 [(.var 0)]) (.var 2))),
    (.ife (.cmp .Gt (.var 1) (.var 5)) [(.asg (.nm 4) (.bin .FloorDiv (.bin .Sub (.bin .Add (.bin .Sub (.var 1) (.var 5)) (.var 2)) (.cst (.int 1))) (.var 2)))] []),
    (.ret (.bin .Add (.idx (.call 2 [(.var 0), (.bin .Sub (.var 1) (.bin .Mult (.var 4) (.var 2)))]) (.neg (.cst (.int 1)))) (.bin .Mult (.var 4) (.var 3))))]
def i_cost_far : FnI := ⟨"cost_far", top 8, ["packs", "s"], ["packs", "s", "size", "price", "more", "edge"], b_cost_far, false⟩
def floor_l1 : List C := [(.ife (.isn true (.idx (.var 2) (.var 6))) [(.asg (.nm 7) (.bin .Add (.idx (.var 2) (.var 6)) (.var 3))),
    (.ife (.bop .Or [(.isn false (.idx (.var 2) (.bin .Mod (.var 7) (.var 1)))), (.cmp .Gt (.idx (.var 2) (.bin .Mod (.var 7) (.var 1))) (.var 7))]) [(.seti 2 (.bin .Mod (.var 7) (.var 1)) (.var 7)),
    (.asg (.nm 5) (.cst (.bool true)))] [])] [])]
def floor_l2 : List C := [(.asg (.nm 5) (.cst (.bool false))),
    (.fr (.nm 6) .rng [(.var 1)] floor_l1)]
def floor_l3 : List C := [(.asg (.nm 5) (.cst (.bool true))),
    (.wh (.var 5) floor_l2)]
abbrev E_floor (packs m found size u changed rest amount : Sl := .no) : En := [packs, m, found, size, u, changed, rest, amount]
def b_floor : List C := [(.asg (.nm 1) (.idx (.idx (.var 0) (.cst (.int 0))) (.cst (.int 0)))),
    (.asg (.nm 2) (.bin .Mult (.lst [(.cst .none)]) (.var 1))),
    (.seti 2 (.cst (.int 0)) (.cst (.int 0))),
    (.fr (.tp [(.nm 3), (.nm 4)]) .seq [(.slc (.var 0) [(.cst (.int 1))] [])] floor_l3),
    (.ret (.blt .tuple [(.var 2)]))]
def i_floor : FnI := ⟨"floor", top 10, ["packs"], ["packs", "m", "found", "size", "_", "changed", "rest", "amount"], b_floor, false⟩
def least_over_l1 : List C := [(.ife (.isn true (.var 4)) [(.app 3 (.ite (.cmp .GtE (.var 4) (.var 1)) (.bin .Sub (.var 4) (.var 1)) (.bin .Mod (.bin .Sub (.var 4) (.var 1)) (.var 2))))] [])]
abbrev E_least_over (packs s m rows entry : Sl := .no) : En := [packs, s, m, rows, entry]
def b_least_over : List C := [(.asg (.nm 2) (.idx (.idx (.var 0) (.cst (.int 0))) (.cst (.int 0)))),
    (.asg (.nm 3) (.lst [])),
    (.fr (.nm 4) .seq [(.call 7 [(.var 0)])] least_over_l1),
    (.ret (.blt .min [(.var 3)]))]
def i_least_over : FnI := ⟨"least_over", top 11, ["packs", "s"], ["packs", "s", "m", "rows", "entry"], b_least_over, false⟩
/- [_law_same(a[k], b[k]) fo -/
def law_same_c1 : E := (.lc (.nm 2) .rng [(.blt .len [(.var 0)])] [] (.call 11 [(.idx (.var 0) (.var 2)), (.idx (.var 1) (.var 2))]) [2])
@[simp] theorem law_same_c1_o (P : Ph) (env : En) : (ev P law_same_c1).opd env = (frzM (ev P law_same_c1).val env).map fun r => (.d r.1, r.2) := by simp only [law_same_c1, ev_lc, lcM_opd]
abbrev E_law_same (a b k : Sl := .no) : En := [a, b, k]
def b__law_same : List C := [(.ife (.bop .Or [(.bop .And [(.isi (.var 0) .tuple), (.isi (.var 1) .tuple)]), (.bop .And [(.isi (.var 0) .list), (.isi (.var 1) .list)])]) [(.ret (.bop .And [(.cmp .Eq (.blt .len [(.var 0)]) (.blt .len [(.var 1)])), (.blt .all [law_same_c1])]))] []),
    (.ife (.bop .Or [(.isi (.var 0) .bool), (.isi (.var 1) .bool)]) [(.ret (.bop .And [(.isi (.var 0) .bool), (.isi (.var 1) .bool), (.cmp .Eq (.var 0) (.var 1))]))] []),
    (.ife (.bop .Or [(.bop .And [(.isi (.var 0) .int), (.isi (.var 1) .int)]), (.bop .And [(.isi (.var 0) .str), (.isi (.var 1) .str)])]) [(.ret (.cmp .Eq (.var 0) (.var 1)))] []),
    (.ret (.bop .And [(.isn false (.var 0)), (.isn false (.var 1))]))]
def i__law_same : FnI := ⟨"_law_same", top 16, ["a", "b"], ["a", "b", "k"], b__law_same, false⟩
def law_packs_l1 : List C := [(.dput 3 (.bin .Add (.cst (.int 1)) (.callB 10 0 [(.var 2)])) (.callB 10 0 [(.idx (.lst [(.cst (.int 4)), (.cst (.int 30)), (.cst (.int 1001))]) (.callB 10 0 [(.cst (.int 3))]))]))]
abbrev E_law_packs (tape many most found k : Sl := .no) : En := [tape, many, most, found, k]
def b__law_packs : List C := [(.asg (.nm 3) (.dnew false)),
    (.fr (.nm 4) .rng [(.bin .Add (.cst (.int 1)) (.callB 10 0 [(.var 1)]))] law_packs_l1),
    (.ret (.blt .tuple [(.ditm 3)]))]
def i__law_packs : FnI := ⟨"_law_packs", top 17, ["tape", "many", "most"], ["tape", "many", "most", "found", "k"], b__law_packs, true⟩
/- [(size, size) for size, p -/
def law_c1 : E := (.lc (.tp [(.nm 7), (.nm 8)]) .seq [(.var 3)] [] (.tup [(.var 7), (.var 7)]) [7, 8])
@[simp] theorem law_c1_o (P : Ph) (env : En) : (ev P law_c1).opd env = (frzM (ev P law_c1).val env).map fun r => (.d r.1, r.2) := by simp only [law_c1, ev_lc, lcM_opd]
/- [(size, 1) for size, pric -/
def law_c2 : E := (.lc (.tp [(.nm 7), (.nm 8)]) .seq [(.var 3)] [] (.tup [(.var 7), (.cst (.int 1))]) [7, 8])
@[simp] theorem law_c2_o (P : Ph) (env : En) : (ev P law_c2).opd env = (frzM (ev P law_c2).val env).map fun r => (.d r.1, r.2) := by simp only [law_c2, ev_lc, lcM_opd]
/- [(size, 2 * price) for si -/
def law_c3 : E := (.lc (.tp [(.nm 7), (.nm 8)]) .seq [(.var 3)] [] (.tup [(.var 7), (.bin .Mult (.cst (.int 2)) (.var 8))]) [7, 8])
@[simp] theorem law_c3_o (P : Ph) (env : En) : (ev P law_c3).opd env = (frzM (ev P law_c3).val env).map fun r => (.d r.1, r.2) := by simp only [law_c3, ev_lc, lcM_opd]
/- [2 * cost for cost in cos -/
def law_c4 : E := (.lc (.nm 11) .seq [(.var 10)] [] (.bin .Mult (.cst (.int 2)) (.var 11)) [11])
@[simp] theorem law_c4_o (P : Ph) (env : En) : (ev P law_c4).opd env = (frzM (ev P law_c4).val env).map fun r => (.d r.1, r.2) := by simp only [law_c4, ev_lc, lcM_opd]
/- [other[0] > pack[0] and o -/
def law_c5 : E := (.lc (.nm 14) .seq [(.var 3)] [] (.bop .And [(.cmp .Gt (.idx (.var 14) (.cst (.int 0))) (.idx (.var 13) (.cst (.int 0)))), (.cmp .LtE (.idx (.var 14) (.cst (.int 1))) (.idx (.var 13) (.cst (.int 1))))]) [14])
@[simp] theorem law_c5_o (P : Ph) (env : En) : (ev P law_c5).opd env = (frzM (ev P law_c5).val env).map fun r => (.d r.1, r.2) := by simp only [law_c5, ev_lc, lcM_opd]
/- [pack for pack in packs i -/
def law_c6 : E := (.lc (.nm 13) .seq [(.var 3)] [(.not (.blt .any [law_c5]))] (.var 13) [13])
@[simp] theorem law_c6_o (P : Ph) (env : En) : (ev P law_c6).opd env = (frzM (ev P law_c6).val env).map fun r => (.d r.1, r.2) := by simp only [law_c6, ev_lc, lcM_opd]
/- [costs[k] > costs[k + 1]  -/
def law_c7 : E := (.lc (.nm 16) .rng [(.var 4)] [] (.cmp .Gt (.idx (.var 10) (.var 16)) (.idx (.var 10) (.bin .Add (.var 16) (.cst (.int 1))))) [16])
@[simp] theorem law_c7_o (P : Ph) (env : En) : (ev P law_c7).opd env = (frzM (ev P law_c7).val env).map fun r => (.d r.1, r.2) := by simp only [law_c7, ev_lc, lcM_opd]
def law_l1 : List C := [(.asg (.tp [(.nm 3), (.nm 4), (.nm 5)]) (.tup [(.callB 12 1 [(.cst (.int 4)), (.cst (.int 12))]), (.callB 10 1 [(.cst (.int 301))]), (.callB 10 1 [(.cst (.int 301))])])),
    (.asg (.nm 6) (.blt .tuple [law_c1])),
    (.ife (.bop .Or [(.cmp .NotEq (.idx (.call 2 [(.var 6), (.var 4)]) (.neg (.cst (.int 1)))) (.bin .Add (.var 4) (.call 8 [(.var 3), (.var 4)]))), (.cmp .NotEq (.call 6 [(.var 6), (.bin .Add (.bin .Pow (.cst (.int 10)) (.cst (.int 12))) (.var 4))]) (.bin .Add (.bin .Add (.bin .Pow (.cst (.int 10)) (.cst (.int 12))) (.var 4)) (.call 8 [(.var 3), (.bin .Add (.bin .Pow (.cst (.int 10)) (.cst (.int 12))) (.var 4))])))]) [(.ret (.cst (.bool false)))] []),
    (.asg (.nm 9) (.blt .tuple [law_c2])),
    (.ife (.bop .Or [(.cmp .NotEq (.idx (.call 2 [(.var 9), (.var 4)]) (.neg (.cst (.int 1)))) (.bin .FloorDiv (.bin .Sub (.bin .Add (.var 4) (.idx (.idx (.var 3) (.neg (.cst (.int 1)))) (.cst (.int 0)))) (.cst (.int 1))) (.idx (.idx (.var 3) (.neg (.cst (.int 1)))) (.cst (.int 0))))), (.cmp .NotEq (.call 4 [(.var 9)]) (.tup [(.idx (.idx (.var 3) (.neg (.cst (.int 1)))) (.cst (.int 0))), (.cst (.int 1))]))]) [(.ret (.cst (.bool false)))] []),
    (.asg (.nm 10) (.call 2 [(.var 3), (.var 4)])),
    (.ife (.not (.call 11 [(.call 2 [(.blt .tuple [law_c3]), (.var 4)]), (.blt .tuple [law_c4])])) [(.ret (.cst (.bool false)))] []),
    (.asg (.nm 12) (.blt .tuple [law_c6])),
    (.ife (.not (.call 11 [(.call 2 [(.var 12), (.var 4)]), (.var 10)])) [(.ret (.cst (.bool false)))] []),
    (.ife (.bop .Or [(.cmp .Gt (.call 6 [(.var 3), (.bin .Add (.var 4) (.var 5))]) (.bin .Add (.call 6 [(.var 3), (.var 4)]) (.call 6 [(.var 3), (.var 5)]))), (.cmp .Lt (.call 6 [(.var 3), (.bin .Add (.var 4) (.var 5))]) (.blt .max [(.call 6 [(.var 3), (.var 4)]), (.call 6 [(.var 3), (.var 5)])]))]) [(.ret (.cst (.bool false)))] []),
    (.asg (.nm 15) (.call 3 [(.var 3), (.var 4)])),
    (.ife (.bop .Or [(.cmp .Lt (.call 0 [(.var 3), (.var 15)]) (.var 4)), (.cmp .NotEq (.call 1 [(.var 3), (.var 15)]) (.idx (.var 10) (.var 4))), (.blt .any [law_c7])]) [(.ret (.cst (.bool false)))] [])]
abbrev E_law (script tape turn packs s t plain size price ones costs cost good pack other bought k : Sl := .no) : En := [script, tape, turn, packs, s, t, plain, size, price, ones, costs, cost, good, pack, other, bought, k]
def b_law : List C := [(.asg (.nm 1) (.callS 9 0)),
    (.fr (.nm 2) .rng [(.cst (.int 3))] law_l1),
    (.ret (.cst (.bool true)))]
def i_law : FnI := ⟨"law", top 18, ["script"], ["script", "tape", "turn", "packs", "s", "t", "plain", "size", "price", "ones", "costs", "cost", "good", "pack", "other", "bought", "k"], b_law, false⟩
def es : List Mini.Entry := [.user i_amount_of, .user i_price_of, .user i_cost_ladder, .user i_cheapest, .user i_best_pack, .user i_turning_point, .user i_cost_far, .user i_floor, .user i_least_over, .prim 0 primTape, .prim 1 primTake, .user i__law_same, .user i__law_packs, .user i_law]
def fns : List Str := [("amount_of" : Str), ("price_of" : Str), ("cost_ladder" : Str), ("cheapest" : Str), ("best_pack" : Str), ("turning_point" : Str), ("cost_far" : Str), ("floor" : Str), ("least_over" : Str), ("_law_tape" : Str), ("_law_take" : Str), ("_law_same" : Str), ("_law_packs" : Str), ("law" : Str)]
def gls : List (Str × D) := []
theorem k_amount_of : fnB fns gls i_amount_of = true := by decide +kernel
theorem k_price_of : fnB fns gls i_price_of = true := by decide +kernel
theorem k_cost_ladder : fnB fns gls i_cost_ladder = true := by decide +kernel
theorem k_cheapest : fnB fns gls i_cheapest = true := by decide +kernel
theorem k_best_pack : fnB fns gls i_best_pack = true := by decide +kernel
theorem k_turning_point : fnB fns gls i_turning_point = true := by decide +kernel
theorem k_cost_far : fnB fns gls i_cost_far = true := by decide +kernel
theorem k_floor : fnB fns gls i_floor = true := by decide +kernel
theorem k_least_over : fnB fns gls i_least_over = true := by decide +kernel
theorem k__law_same : fnB fns gls i__law_same = true := by decide +kernel
theorem k__law_packs : fnB fns gls i__law_packs = true := by decide +kernel
theorem k_law : fnB fns gls i_law = true := by decide +kernel
end Law

namespace Law
open PySem PySem.Spec L2 Mini
section
noncomputable def S_amount_of (packs : (List (Int × Int))) (purchase : (List Int)) : Option (Int) :=
  (mapO (fun ((n_, (size, u)) : (Int × (Int × Int))) => (mulI n_ size).bind fun x =>
  some x) (purchase.zip packs)).bind fun x1 =>
  some (x1.sum)
theorem R_amount_of {d : Nat} (hd : 1 ≤ d) {packs : (List (Int × Int))} {purchase : (List Int)} {r : Int} (h : S_amount_of packs purchase = some r) : retOf (callN (tbOf es) d) 0 [.v ((eT (eP2 eI eI)) packs), .v ((eT eI) purchase)] = some ((fun (z : Int) => Sl.v (eI z)) r) := by
  obtain ⟨d, rfl, hlv⟩ := lev (c := 0) hd
  unfold S_amount_of at h
  refine fnX (i := i_amount_of) rfl rfl rfl ?_
  show GoX (callN (tbOf es) d) b_amount_of [.v ((eT (eP2 eI eI)) packs), .v ((eT eI) purchase), .no, .no, .no] _
  exact (ob h fun x1 hx1 h => (by apply lf1 h; exact GoX.ret (HV.blt (HOs.cons (HO.of (HV.lcO (e0 := [.v ((eT (eP2 eI eI)) packs), .v ((eT eI) purchase), .no, .no, .no]) (e' := [.v ((eT (eP2 eI eI)) packs), .v ((eT eI) purchase), .no, .no, .no]) (eP2 eI (eP2 eI eI)) eI _ hx1 (HOw.var rfl (HOw.var rfl HOw.nil)) (it_ztt (a := eI) (b := (eP2 eI eI)) purchase packs) rfl rfl (fun ⟨n_, ⟨size, u⟩⟩ z h => (ob h fun x hx h => (by apply lf1 h; exact ⟨[.v ((eT (eP2 eI eI)) packs), .v ((eT eI) purchase), .v (eI n_), .v (eI size), .v (eI u)], rfl, rfl, (HV.f (HV.bin (HO.var rfl) (HO.var rfl) (mulB hx)) rfl)⟩)))) rfl rfl) HOs.nil) (sumL x1)) rfl))
noncomputable def S_price_of (packs : (List (Int × Int))) (purchase : (List Int)) : Option (Int) :=
  (mapO (fun ((n_, (u, price)) : (Int × (Int × Int))) => (mulI n_ price).bind fun x =>
  some x) (purchase.zip packs)).bind fun x1 =>
  some (x1.sum)
theorem R_price_of {d : Nat} (hd : 1 ≤ d) {packs : (List (Int × Int))} {purchase : (List Int)} {r : Int} (h : S_price_of packs purchase = some r) : retOf (callN (tbOf es) d) 1 [.v ((eT (eP2 eI eI)) packs), .v ((eT eI) purchase)] = some ((fun (z : Int) => Sl.v (eI z)) r) := by
  obtain ⟨d, rfl, hlv⟩ := lev (c := 0) hd
  unfold S_price_of at h
  refine fnX (i := i_price_of) rfl rfl rfl ?_
  show GoX (callN (tbOf es) d) b_price_of [.v ((eT (eP2 eI eI)) packs), .v ((eT eI) purchase), .no, .no, .no] _
  exact (ob h fun x1 hx1 h => (by apply lf1 h; exact GoX.ret (HV.blt (HOs.cons (HO.of (HV.lcO (e0 := [.v ((eT (eP2 eI eI)) packs), .v ((eT eI) purchase), .no, .no, .no]) (e' := [.v ((eT (eP2 eI eI)) packs), .v ((eT eI) purchase), .no, .no, .no]) (eP2 eI (eP2 eI eI)) eI _ hx1 (HOw.var rfl (HOw.var rfl HOw.nil)) (it_ztt (a := eI) (b := (eP2 eI eI)) purchase packs) rfl rfl (fun ⟨n_, ⟨u, price⟩⟩ z h => (ob h fun x hx h => (by apply lf1 h; exact ⟨[.v ((eT (eP2 eI eI)) packs), .v ((eT eI) purchase), .v (eI n_), .v (eI u), .v (eI price)], rfl, rfl, (HV.f (HV.bin (HO.var rfl) (HO.var rfl) (mulB hx)) rfl)⟩)))) rfl rfl) HOs.nil) (sumL x1)) rfl))
noncomputable def S_cost_ladder (packs : (List (Int × Int))) (s1 : Int) : Option ((List Int)) :=
  lt [0] fun found =>
  (rng2 1 (s1 + 1)).bind fun is =>
  (forO (fun (t : Int) (found1 : (List Int)) =>
  (mapO (fun ((size, price) : (Int × Int)) => (gI found1 (max 0 (t - size))).bind fun x =>
  some (x + price)) packs).bind fun x1 =>
  (minL x1).bind fun x2 =>
  (appX found1 x2).bind fun found2 =>
  some found2) is (found : (List Int))).bind fun found3 =>
  some found3
theorem R_cost_ladder {d : Nat} (hd : 1 ≤ d) {packs : (List (Int × Int))} {s1 : Int} {r : (List Int)} (h : S_cost_ladder packs s1 = some r) : retOf (callN (tbOf es) d) 2 [.v ((eT (eP2 eI eI)) packs), .v (eI s1)] = some ((fun (z : (List Int)) => Sl.v ((eT eI) z)) r) := by
  obtain ⟨d, rfl, hlv⟩ := lev (c := 0) hd
  unfold S_cost_ladder at h
  refine fnX (i := i_cost_ladder) rfl rfl rfl ?_
  show GoX (callN (tbOf es) d) b_cost_ladder [.v ((eT (eP2 eI eI)) packs), .v (eI s1), .no, .no, .no, .no] _
  exact (ltE h fun found hx h => (GoX.asg (e2 := [.v ((eT (eP2 eI eI)) packs), .v (eI s1), .l (found.map eI), .no, .no, .no]) (HV.bnd (fun (z : (List Int)) => Sl.l (z.map eI)) hx (HV.lst (HAs.cons HF.cst HAs.nil) rfl)) rfl (ob h fun is hx1 h => (ob h fun found3 hx6 h => GoX.forO (fun (s : (List Int)) => [.v ((eT (eP2 eI eI)) packs), .v (eI s1), .l (s.map eI), .no, .no, .no]) eI _ hx6 (HFs.cons HF.cst (HFs.cons (HV.f (HV.bin (HO.var rfl) HO.cst rfl) rfl) HFs.nil)) (LE.refl _) (it_r2 hx1) (fun t => (fun found1 => (fun z h => ⟨[.v ((eT (eP2 eI eI)) packs), .v (eI s1), .l (found1.map eI), .v (eI t), .no, .no], rfl, (ob h fun x1 hx3 h => (ob h fun x2 hx4 h => (ob h fun found2 hx5 h => (GoX.appS (e2 := [.v ((eT (eP2 eI eI)) packs), .v (eI s1), .l (found2.map eI), .v (eI t), .no, .no]) eI rfl (HV.f (HV.blt (HOs.cons (HO.of (HV.lcO (e0 := [.v ((eT (eP2 eI eI)) packs), .v (eI s1), .l (found1.map eI), .v (eI t), .no, .no]) (e' := [.v ((eT (eP2 eI eI)) packs), .v (eI s1), .l (found1.map eI), .v (eI t), .no, .no]) (eP2 eI eI) eI _ hx3 (HOw.var rfl HOw.nil) (it_t (e := (eP2 eI eI)) packs) rfl rfl (fun ⟨size, price⟩ z h => (ob h fun x hx2 h => (by apply lf1 h; exact ⟨[.v ((eT (eP2 eI eI)) packs), .v (eI s1), .l (found1.map eI), .v (eI t), .v (eI size), .v (eI price)], rfl, rfl, (HV.f (HV.bin (HO.of (HV.idx (HO.varL rfl rfl) (HO.of (HV.blt (HOs.cons HO.cst (HOs.cons (HO.of (HV.bin (HO.var rfl) (HO.var rfl) rfl) rfl rfl) HOs.nil)) (max2 _ _)) rfl rfl) (idxL (e := eI) hx2)) rfl rfl) (HO.var rfl) rfl) rfl)⟩)))) rfl rfl) HOs.nil) (minLs hx4)) rfl) rfl hx5 rfl (by apply lf1 h; exact GoX.nil (Or.inl rfl) (LE.cons (sle.refl _) (LE.cons (sle.refl _) (LE.cons (sle.refl _) (LE.cons (sle_nov _) (LE.cons (sle.refl _) (LE.cons (sle.refl _) LE.nil)))))))))))⟩))) (by apply lf1 h; exact GoX.ret (HV.blt (HOs.cons (HO.varL rfl rfl) HOs.nil) (tupL (e := eI) found3)) rfl)))))
noncomputable def S_cheapest (packs : (List (Int × Int))) (s1 : Int) : Option ((List Int)) :=
  (S_cost_ladder packs s1).bind fun costs =>
  (repL ([0] : (List Int)) (packs.length : Int)).bind fun found =>
  (whO (fun ((s2, found1) : Int × (List Int)) => some (decide (0 < s2))) (fun ((s2, found1) : Int × (List Int)) =>
  (fmapO (fun ((i, (size, price)) : (Int × (Int × Int))) => (gI costs (max 0 (s2 - size))).bind fun x =>
  (gI costs s2).bind fun x1 =>
  if decide ((x + price) = x1) then (some (some i)) else some none) (enumS packs)).bind fun x2 =>
  (gI x2 0).bind fun k =>
  (gI found1 k).bind fun old =>
  lt (old + 1) fun w1 =>
  (setI found1 k w1).bind fun found2 =>
  (gI packs k).bind fun x3 =>
  lt (max 0 (s2 - x3.1)) fun s3 =>
  some (s3, found2)) ((s1, found) : Int × (List Int))).bind fun (s4, found3) =>
  some found3
theorem R_cheapest {d : Nat} (hd : 2 ≤ d) {packs : (List (Int × Int))} {s1 : Int} {r : (List Int)} (h : S_cheapest packs s1 = some r) : retOf (callN (tbOf es) d) 3 [.v ((eT (eP2 eI eI)) packs), .v (eI s1)] = some ((fun (z : (List Int)) => Sl.v ((eT eI) z)) r) := by
  obtain ⟨d, rfl, hlv⟩ := lev (c := 1) hd
  unfold S_cheapest at h
  refine fnX (i := i_cheapest) rfl rfl rfl ?_
  show GoX (callN (tbOf es) d) b_cheapest [.v ((eT (eP2 eI eI)) packs), .v (eI s1), .no, .no, .no, .no, .no, .no] _
  exact (ob h fun costs hx h => (GoX.asg (e2 := [.v ((eT (eP2 eI eI)) packs), .v (eI s1), .v ((eT eI) costs), .no, .no, .no, .no, .no]) (HV.call (HAs.cons (HV.f (HV.var rfl) rfl) (HAs.cons (HV.f (HV.var rfl) rfl) HAs.nil)) (R_cost_ladder (Nat.le_trans (by decide) hlv) hx)) rfl (ob h fun found hx1 h => (GoX.asg (e2 := [.v ((eT (eP2 eI eI)) packs), .v (eI s1), .v ((eT eI) costs), .l (found.map eI), .no, .no, .no, .no]) (HV.bin (HO.of (HV.lst (HAs.cons HF.cst HAs.nil) rfl) rfl rfl) (HO.of (HV.blt (HOs.cons (HO.var rfl) HOs.nil) (lenT (e := (eP2 eI eI)) packs)) rfl rfl) (repLs (e := eI) (xs := ([0] : (List Int))) (k := (packs.length : Int)) hx1)) rfl (ob2 h fun s4 found3 hx11 h => GoX.whO (fun (s : Int × (List Int)) => [.v ((eT (eP2 eI eI)) packs), .v (eI s.1), .v ((eT eI) costs), .l (s.2.map eI), .no, .no, .no, .no]) _ _ hx11 (LE.refl _) (pr2 fun s2 found1 => (fun z h => (by apply lf1 h; exact (HT.ofC rfl (HV.cmp (HO.var rfl) HO.cst (gtI _ _)))))) (pr2 fun s2 found1 => (fun z h => (ob h fun x2 hx4 h => (ob h fun k hx5 h => (GoX.asg (e2 := [.v ((eT (eP2 eI eI)) packs), .v (eI s2), .v ((eT eI) costs), .l (found1.map eI), .v (eI k), .no, .no, .no]) (HV.idx (HO.of (HV.lcOF (e0 := [.v ((eT (eP2 eI eI)) packs), .v (eI s2), .v ((eT eI) costs), .l (found1.map eI), .no, .no, .no, .no]) (e' := [.v ((eT (eP2 eI eI)) packs), .v (eI s2), .v ((eT eI) costs), .l (found1.map eI), .no, .no, .no, .no]) (eP2 eI (eP2 eI eI)) eI _ hx4 (HOw.var rfl HOw.nil) (it_et (e := (eP2 eI eI)) packs) rfl rfl (fun ⟨i, ⟨size, price⟩⟩ z h => (ob h fun x hx2 h => (ob h fun x1 hx3 h => (ifE h (fun hb h => (by apply lf1 h; exact ⟨[.v ((eT (eP2 eI eI)) packs), .v (eI s2), .v ((eT eI) costs), .l (found1.map eI), .no, .v (eI i), .v (eI size), .v (eI price)], rfl, rfl, HT.cast hb (HT.ofC rfl (HV.cmp (HO.of (HV.bin (HO.of (HV.idx (HO.var rfl) (HO.of (HV.blt (HOs.cons HO.cst (HOs.cons (HO.of (HV.bin (HO.var rfl) (HO.var rfl) rfl) rfl rfl) HOs.nil)) (max2 _ _)) rfl rfl) (idxT (e := eI) hx2)) rfl rfl) (HO.var rfl) rfl) rfl rfl) (HO.of (HV.idx (HO.var rfl) (HO.var rfl) (idxT (e := eI) hx3)) rfl rfl) (cmpEq EqE.I (by decide) (x + price) x1))), fun w hw => by apply lf1 hw; exact (HV.f (HV.var rfl) rfl)⟩)) (fun hb h => (by apply lf1 h; exact ⟨[.v ((eT (eP2 eI eI)) packs), .v (eI s2), .v ((eT eI) costs), .l (found1.map eI), .no, .v (eI i), .v (eI size), .v (eI price)], rfl, rfl, HT.cast hb (HT.ofC rfl (HV.cmp (HO.of (HV.bin (HO.of (HV.idx (HO.var rfl) (HO.of (HV.blt (HOs.cons HO.cst (HOs.cons (HO.of (HV.bin (HO.var rfl) (HO.var rfl) rfl) rfl rfl) HOs.nil)) (max2 _ _)) rfl rfl) (idxT (e := eI) hx2)) rfl rfl) (HO.var rfl) rfl) rfl rfl) (HO.of (HV.idx (HO.var rfl) (HO.var rfl) (idxT (e := eI) hx3)) rfl rfl) (cmpEq EqE.I (by decide) (x + price) x1))), nofun⟩))))))) rfl rfl) HO.cst (idxL (e := eI) hx5)) rfl (ob h fun old hx6 h => (ltE h fun w1 hx7 h => (ob h fun found2 hx8 h => (GoX.augiS (e3 := [.v ((eT (eP2 eI eI)) packs), .v (eI s2), .v ((eT eI) costs), .l (found2.map eI), .v (eI k), .no, .no, .no]) (w := w1) eI rfl (HO.var rfl) rfl hx6 HF.cst (by clear h; subst hx7; rfl) rfl hx8 rfl (ob h fun x3 hx9 h => (ltE h fun s3 hx10 h => (GoX.asg (e2 := [.v ((eT (eP2 eI eI)) packs), .v (eI s3), .v ((eT eI) costs), .l (found2.map eI), .v (eI k), .no, .no, .no]) (HV.bnd (fun (z : Int) => Sl.v (eI z)) hx10 (HV.blt (HOs.cons HO.cst (HOs.cons (HO.of (HV.bin (HO.var rfl) (HO.of (HV.idx (HO.of (HV.idx (HO.var rfl) (HO.var rfl) (idxT (e := (eP2 eI eI)) hx9)) rfl rfl) HO.cst rfl) rfl rfl) rfl) rfl rfl) HOs.nil)) (max2 _ _))) rfl (by apply lf1 h; exact GoX.nil (Or.inl rfl) (LE.cons (sle.refl _) (LE.cons (sle.refl _) (LE.cons (sle.refl _) (LE.cons (sle.refl _) (LE.cons (sle_nov _) (LE.cons (sle.refl _) (LE.cons (sle.refl _) (LE.cons (sle.refl _) LE.nil))))))))))))))))))))) (by apply lf1 h; exact GoX.ret (HV.blt (HOs.cons (HO.varL rfl rfl) HOs.nil) (tupL (e := eI) found3)) rfl))))))
noncomputable def S_best_pack (packs : (List (Int × Int))) : Option ((Int × Int)) :=
  (gI packs 0).bind fun best =>
  (forO (fun ((size, price) : (Int × Int)) (best1 : (Int × Int)) =>
  (mulI price best1.1).bind fun x =>
  (mulI best1.2 size).bind fun x1 =>
  (if decide (x < x1) then (lt (size, price) fun best2 =>
  some best2) else (some best1) : Option ((Int × Int))).bind fun best3 =>
  some best3) (cutG packs (some 1) none) (best : (Int × Int))).bind fun best4 =>
  some best4
theorem R_best_pack {d : Nat} (hd : 1 ≤ d) {packs : (List (Int × Int))} {r : (Int × Int)} (h : S_best_pack packs = some r) : retOf (callN (tbOf es) d) 4 [.v ((eT (eP2 eI eI)) packs)] = some ((fun (z : (Int × Int)) => Sl.v ((eP2 eI eI) z)) r) := by
  obtain ⟨d, rfl, hlv⟩ := lev (c := 0) hd
  unfold S_best_pack at h
  refine fnX (i := i_best_pack) rfl rfl rfl ?_
  show GoX (callN (tbOf es) d) b_best_pack [.v ((eT (eP2 eI eI)) packs), .no, .no, .no] _
  exact (ob h fun best hx h => (GoX.asg (e2 := [.v ((eT (eP2 eI eI)) packs), .v ((eP2 eI eI) best), .no, .no]) (HV.idx (HO.var rfl) HO.cst (idxT (e := (eP2 eI eI)) hx)) rfl (ob h fun best4 hx5 h => GoX.forO (fun (s : (Int × Int)) => [.v ((eT (eP2 eI eI)) packs), .v ((eP2 eI eI) s), .no, .no]) (eP2 eI eI) _ hx5 (HFs.cons (HV.f (HV.slc (HO.var rfl) (HP.some HO.cst) HP.none (slcT (e := (eP2 eI eI)) packs _ _)) rfl) HFs.nil) (LE.refl _) (it_t (e := (eP2 eI eI)) (cutG packs (some 1) none)) (pr2 fun size price => (fun best1 => (fun z h => ⟨[.v ((eT (eP2 eI eI)) packs), .v ((eP2 eI eI) best1), .v (eI size), .v (eI price)], rfl, (ob h fun x hx1 h => (ob h fun x1 hx2 h => (ob h fun best3 hx4 h => GoX.ifj (e1 := [.v ((eT (eP2 eI eI)) packs), .v ((eP2 eI eI) best1), .v (eI size), .v (eI price)]) (f := [.v ((eT (eP2 eI eI)) packs), .v ((eP2 eI eI) best3), .v (eI size), .v (eI price)]) hx4 (HT.ofC rfl (HV.cmp (HO.of (HV.bin (HO.var rfl) (HO.of (HV.idx (HO.var rfl) HO.cst rfl) rfl rfl) (mulB hx1)) rfl rfl) (HO.of (HV.bin (HO.of (HV.idx (HO.var rfl) HO.cst rfl) rfl rfl) (HO.var rfl) (mulB hx2)) rfl rfl) (ltI _ _))) (fun h => (ltE h fun best2 hx3 h => (GoX.asg (e2 := [.v ((eT (eP2 eI eI)) packs), .v ((eP2 eI eI) best2), .v (eI size), .v (eI price)]) (HV.bnd (fun (z : (Int × Int)) => Sl.v ((eP2 eI eI) z)) hx3 (HV.tup (HAs.cons (HV.f (HV.var rfl) rfl) (HAs.cons (HV.f (HV.var rfl) rfl) HAs.nil)) rfl)) rfl (by apply lf1 h; exact GoX.nil rfl (LE.refl _))))) (fun h => (by apply lf1 h; exact GoX.nil rfl (LE.refl _))) (by apply lf1 h; exact GoX.nil (Or.inl rfl) (LE.cons (sle.refl _) (LE.cons (sle.refl _) (LE.cons (sle_nov _) (LE.cons (sle_nov _) LE.nil))))))))⟩))) (by apply lf1 h; exact GoX.ret (HV.var rfl) rfl))))
noncomputable def S_turning_point (packs : (List (Int × Int))) : Option (Int) :=
  (S_best_pack packs).bind fun x =>
  (gI packs (-1)).bind fun x1 =>
  (mulI (x.1 - 1) x1.1).bind fun x2 =>
  some x2
theorem R_turning_point {d : Nat} (hd : 2 ≤ d) {packs : (List (Int × Int))} {r : Int} (h : S_turning_point packs = some r) : retOf (callN (tbOf es) d) 5 [.v ((eT (eP2 eI eI)) packs)] = some ((fun (z : Int) => Sl.v (eI z)) r) := by
  obtain ⟨d, rfl, hlv⟩ := lev (c := 1) hd
  unfold S_turning_point at h
  refine fnX (i := i_turning_point) rfl rfl rfl ?_
  show GoX (callN (tbOf es) d) b_turning_point [.v ((eT (eP2 eI eI)) packs)] _
  exact (ob h fun x hx h => (ob h fun x1 hx1 h => (ob h fun x2 hx2 h => (by apply lf1 h; exact GoX.ret (HV.bin (HO.of (HV.bin (HO.of (HV.idx (HO.of (HV.call (HAs.cons (HV.f (HV.var rfl) rfl) HAs.nil) (R_best_pack (Nat.le_trans (by decide) hlv) hx)) rfl rfl) HO.cst rfl) rfl rfl) HO.cst rfl) rfl rfl) (HO.of (HV.idx (HO.of (HV.idx (HO.var rfl) (HO.of (HV.neg HO.cst) rfl rfl) (idxT (e := (eP2 eI eI)) hx1)) rfl rfl) HO.cst rfl) rfl rfl) (mulB hx2)) rfl))))
noncomputable def S_cost_far (packs : (List (Int × Int))) (s1 : Int) : Option (Int) :=
  (S_best_pack packs).bind fun p =>
  lt p fun (size, price) =>
  (S_turning_point packs).bind fun x =>
  lt (x + size) fun edge =>
  (if decide (edge < s1) then ((divI (((s1 - edge) + size) - 1) size).bind fun more =>
  some more) else (some 0) : Option (Int)).bind fun more1 =>
  (mulI more1 size).bind fun x1 =>
  (S_cost_ladder packs (s1 - x1)).bind fun x2 =>
  (gI x2 (-1)).bind fun x3 =>
  (mulI more1 price).bind fun x4 =>
  some (x3 + x4)
theorem R_cost_far {d : Nat} (hd : 3 ≤ d) {packs : (List (Int × Int))} {s1 : Int} {r : Int} (h : S_cost_far packs s1 = some r) : retOf (callN (tbOf es) d) 6 [.v ((eT (eP2 eI eI)) packs), .v (eI s1)] = some ((fun (z : Int) => Sl.v (eI z)) r) := by
  obtain ⟨d, rfl, hlv⟩ := lev (c := 2) hd
  unfold S_cost_far at h
  refine fnX (i := i_cost_far) rfl rfl rfl ?_
  show GoX (callN (tbOf es) d) b_cost_far [.v ((eT (eP2 eI eI)) packs), .v (eI s1), .no, .no, .no, .no] _
  exact (ob h fun p hx h => (ltE2 h fun size price hx1 h => (GoX.unp (e2 := [.v ((eT (eP2 eI eI)) packs), .v (eI s1), .v (eI size), .v (eI price), .no, .no]) (HF.cast (congrArg (eP2 eI eI) hx1.symm) (HV.f (HV.call (HAs.cons (HV.f (HV.var rfl) rfl) HAs.nil) (R_best_pack (Nat.le_trans (by decide) hlv) hx)) rfl)) rfl (GoX.asg (e2 := [.v ((eT (eP2 eI eI)) packs), .v (eI s1), .v (eI size), .v (eI price), .v (eI 0), .no]) HV.cst rfl (ob h fun x hx2 h => (ltE h fun edge hx3 h => (GoX.asg (e2 := [.v ((eT (eP2 eI eI)) packs), .v (eI s1), .v (eI size), .v (eI price), .v (eI 0), .v (eI edge)]) (HV.bnd (fun (z : Int) => Sl.v (eI z)) hx3 (HV.bin (HO.of (HV.call (HAs.cons (HV.f (HV.var rfl) rfl) HAs.nil) (R_turning_point (Nat.le_trans (by decide) hlv) hx2)) rfl rfl) (HO.var rfl) rfl)) rfl (ob h fun more1 hx5 h => GoX.ifj (e1 := [.v ((eT (eP2 eI eI)) packs), .v (eI s1), .v (eI size), .v (eI price), .v (eI 0), .v (eI edge)]) (f := [.v ((eT (eP2 eI eI)) packs), .v (eI s1), .v (eI size), .v (eI price), .v (eI more1), .v (eI edge)]) hx5 (HT.ofC rfl (HV.cmp (HO.var rfl) (HO.var rfl) (gtI _ _))) (fun h => (ob h fun more hx4 h => (GoX.asg (e2 := [.v ((eT (eP2 eI eI)) packs), .v (eI s1), .v (eI size), .v (eI price), .v (eI more), .v (eI edge)]) (HV.bin (HO.of (HV.bin (HO.of (HV.bin (HO.of (HV.bin (HO.var rfl) (HO.var rfl) rfl) rfl rfl) (HO.var rfl) rfl) rfl rfl) HO.cst rfl) rfl rfl) (HO.var rfl) (divB hx4)) rfl (by apply lf1 h; exact GoX.nil rfl (LE.refl _))))) (fun h => (by apply lf1 h; exact GoX.nil rfl (LE.refl _))) (ob h fun x1 hx6 h => (ob h fun x2 hx7 h => (ob h fun x3 hx8 h => (ob h fun x4 hx9 h => (by apply lf1 h; exact GoX.ret (HV.bin (HO.of (HV.idx (HO.of (HV.call (HAs.cons (HV.f (HV.var rfl) rfl) (HAs.cons (HV.f (HV.bin (HO.var rfl) (HO.of (HV.bin (HO.var rfl) (HO.var rfl) (mulB hx6)) rfl rfl) rfl) rfl) HAs.nil)) (R_cost_ladder (Nat.le_trans (by decide) hlv) hx7)) rfl rfl) (HO.of (HV.neg HO.cst) rfl rfl) (idxT (e := eI) hx8)) rfl rfl) (HO.of (HV.bin (HO.var rfl) (HO.var rfl) (mulB hx9)) rfl rfl) rfl) rfl)))))))))))))
noncomputable def S_floor (packs : (List (Int × Int))) : Option ((List (Option Int))) :=
  (gI packs 0).bind fun x =>
  lt x.1 fun m =>
  (repL ([none] : (List (Option Int))) m).bind fun found =>
  (setI found 0 (some 0)).bind fun found1 =>
  (forO (fun ((size, u) : (Int × Int)) (found2 : (List (Option Int))) =>
  (whO (fun ((found3, changed) : (List (Option Int)) × Bool) => some changed) (fun ((found3, changed) : (List (Option Int)) × Bool) =>
  (rng1 m).bind fun is =>
  (forO (fun (rest : Int) ((found4, changed1) : (List (Option Int)) × Bool) =>
  (gI found4 rest).bind fun x1 =>
  (if x1.isSome then ((gI found4 rest).bind fun x2 =>
  (x2).bind fun x3 =>
  lt (x3 + size) fun amount =>
  (modI amount m).bind fun x4 =>
  (gI found4 x4).bind fun x5 =>
  (if x5.isNone then some true else ((modI amount m).bind fun x6 =>
  (gI found4 x6).bind fun x7 =>
  (x7).bind fun x8 =>
  some (decide (amount < x8)))).bind fun b =>
  (if b then ((modI amount m).bind fun x9 =>
  (setI found4 x9 (some amount)).bind fun found5 =>
  some (found5, true)) else (some (found4, changed1)) : Option ((List (Option Int)) × Bool)).bind fun (found6, changed2) =>
  some (found6, changed2)) else (some (found4, changed1)) : Option ((List (Option Int)) × Bool)).bind fun (found7, changed3) =>
  some (found7, changed3)) is ((found3, false) : (List (Option Int)) × Bool)).bind fun (found8, changed4) =>
  some (found8, changed4)) ((found2, true) : (List (Option Int)) × Bool)).bind fun (found9, changed5) =>
  some found9) (cutG packs (some 1) none) (found1 : (List (Option Int)))).bind fun found10 =>
  some found10
theorem R_floor {d : Nat} (hd : 1 ≤ d) {packs : (List (Int × Int))} {r : (List (Option Int))} (h : S_floor packs = some r) : retOf (callN (tbOf es) d) 7 [.v ((eT (eP2 eI eI)) packs)] = some ((fun (z : (List (Option Int))) => Sl.v ((eT (eO eI)) z)) r) := by
  obtain ⟨d, rfl, hlv⟩ := lev (c := 0) hd
  unfold S_floor at h
  refine fnX (i := i_floor) rfl rfl rfl ?_
  show GoX (callN (tbOf es) d) b_floor [.v ((eT (eP2 eI eI)) packs), .no, .no, .no, .no, .no, .no, .no] _
  exact (ob h fun x hx h => (ltE h fun m hx1 h => (GoX.asg (e2 := [.v ((eT (eP2 eI eI)) packs), .v (eI m), .no, .no, .no, .no, .no, .no]) (HV.bnd (fun (z : Int) => Sl.v (eI z)) hx1 (HV.idx (HO.of (HV.idx (HO.var rfl) HO.cst (idxT (e := (eP2 eI eI)) hx)) rfl rfl) HO.cst rfl)) rfl (ob h fun found hx2 h => (GoX.asg (e2 := [.v ((eT (eP2 eI eI)) packs), .v (eI m), .l (found.map (eO eI)), .no, .no, .no, .no, .no]) (HV.bin (HO.of (HV.lst (HAs.cons HF.cst HAs.nil) rfl) rfl rfl) (HO.var rfl) (repLs (e := (eO eI)) (xs := ([none] : (List (Option Int)))) (k := m) hx2)) rfl (ob h fun found1 hx3 h => (GoX.setiS (e3 := [.v ((eT (eP2 eI eI)) packs), .v (eI m), .l (found1.map (eO eI)), .no, .no, .no, .no, .no]) (eO eI) HF.cst HO.cst rfl hx3 rfl rfl (ob h fun found10 hx21 h => GoX.forO (fun (s : (List (Option Int))) => [.v ((eT (eP2 eI eI)) packs), .v (eI m), .l (s.map (eO eI)), .no, .no, .no, .no, .no]) (eP2 eI eI) _ hx21 (HFs.cons (HV.f (HV.slc (HO.var rfl) (HP.some HO.cst) HP.none (slcT (e := (eP2 eI eI)) packs _ _)) rfl) HFs.nil) (LE.refl _) (it_t (e := (eP2 eI eI)) (cutG packs (some 1) none)) (pr2 fun size u => (fun found2 => (fun z h => ⟨[.v ((eT (eP2 eI eI)) packs), .v (eI m), .l (found2.map (eO eI)), .v (eI size), .v (eI u), .no, .no, .no], rfl, (GoX.asg (e2 := [.v ((eT (eP2 eI eI)) packs), .v (eI m), .l (found2.map (eO eI)), .v (eI size), .v (eI u), .v (eB true), .no, .no]) HV.cst rfl (ob2 h fun found9 changed5 hx20 h => GoX.whO (fun (s : (List (Option Int)) × Bool) => [.v ((eT (eP2 eI eI)) packs), .v (eI m), .l (s.1.map (eO eI)), .v (eI size), .v (eI u), .v (eB s.2), .no, .no]) _ _ hx20 (LE.refl _) (pr2 fun found3 changed => (fun z h => (by apply lf1 h; exact (HT.ofO rfl (HO.var rfl) rfl)))) (pr2 fun found3 changed => (fun z h => (GoX.asg (e2 := [.v ((eT (eP2 eI eI)) packs), .v (eI m), .l (found3.map (eO eI)), .v (eI size), .v (eI u), .v (eB false), .no, .no]) HV.cst rfl (ob h fun is hx4 h => (ob2 h fun found8 changed4 hx19 h => GoX.forO (fun (s : (List (Option Int)) × Bool) => [.v ((eT (eP2 eI eI)) packs), .v (eI m), .l (s.1.map (eO eI)), .v (eI size), .v (eI u), .v (eB s.2), .no, .no]) eI _ hx19 (HFs.cons (HV.f (HV.var rfl) rfl) HFs.nil) (LE.refl _) (it_r1 hx4) (fun rest => (pr2 fun found4 changed1 => (fun z h => ⟨[.v ((eT (eP2 eI eI)) packs), .v (eI m), .l (found4.map (eO eI)), .v (eI size), .v (eI u), .v (eB changed1), .v (eI rest), .no], rfl, (ob h fun x1 hx5 h => (ob2 h fun found7 changed3 hx18 h => GoX.ifj (e1 := [.v ((eT (eP2 eI eI)) packs), .v (eI m), .l (found4.map (eO eI)), .v (eI size), .v (eI u), .v (eB changed1), .v (eI rest), .no]) (f := [.v ((eT (eP2 eI eI)) packs), .v (eI m), .l (found7.map (eO eI)), .v (eI size), .v (eI u), .v (eB changed3), .v (eI rest), .no]) hx18 (HT.ofC rfl (HV.isn (HO.of (HV.idx (HO.varL rfl rfl) (HO.var rfl) (idxL (e := (eO eI)) hx5)) rfl rfl) (isnO' (fun _ => rfl) _))) (fun h => (ob h fun x2 hx6 h => (ob h fun x3 hx7 h => (ltE h fun amount hx8 h => (GoX.asg (e2 := [.v ((eT (eP2 eI eI)) packs), .v (eI m), .l (found4.map (eO eI)), .v (eI size), .v (eI u), .v (eB changed1), .v (eI rest), .v (eI amount)]) (HV.bnd (fun (z : Int) => Sl.v (eI z)) hx8 (HV.bin (HO.cast (congrArg (eO eI) hx7) (HO.of (HV.idx (HO.varL rfl rfl) (HO.var rfl) (idxL (e := (eO eI)) hx6)) rfl rfl)) (HO.var rfl) rfl)) rfl (ob h fun x4 hx9 h => (ob h fun x5 hx10 h => (ob h fun b hx14 h => (ob2 h fun found6 changed2 hx17 h => GoX.ifj (e1 := [.v ((eT (eP2 eI eI)) packs), .v (eI m), .l (found4.map (eO eI)), .v (eI size), .v (eI u), .v (eB changed1), .v (eI rest), .v (eI amount)]) (f := [.v ((eT (eP2 eI eI)) packs), .v (eI m), .l (found6.map (eO eI)), .v (eI size), .v (eI u), .v (eB changed2), .v (eI rest), .v (eI amount)]) hx17 (HT.bop (b := b) (e1 := [.v ((eT (eP2 eI eI)) packs), .v (eI m), .l (found4.map (eO eI)), .v (eI size), .v (eI u), .v (eB changed1), .v (eI rest), .v (eI amount)]) (have h := hx14; (HB.orO (e1 := [.v ((eT (eP2 eI eI)) packs), .v (eI m), .l (found4.map (eO eI)), .v (eI size), .v (eI u), .v (eB changed1), .v (eI rest), .v (eI amount)]) (HT.ofC rfl (HV.isn (HO.of (HV.idx (HO.varL rfl rfl) (HO.of (HV.bin (HO.var rfl) (HO.var rfl) (modB hx9)) rfl rfl) (idxL (e := (eO eI)) hx10)) rfl rfl) (isnO (fun _ => rfl) _))) (fun hb => have h := ifF h hb; (ob h fun x6 hx11 h => (ob h fun x7 hx12 h => (ob h fun x8 hx13 h => (by apply lf1 h; exact HB.one (HT.ofC rfl (HV.cmp (HO.cast (congrArg (eO eI) hx13) (HO.of (HV.idx (HO.varL rfl rfl) (HO.of (HV.bin (HO.var rfl) (HO.var rfl) (modB hx11)) rfl rfl) (idxL (e := (eO eI)) hx12)) rfl rfl)) (HO.var rfl) (gtI _ _)))))))) (fun hb => by apply lf1 (ifT h hb); exact ⟨rfl, rfl⟩)))) (fun h => (ob h fun x9 hx15 h => (ob h fun found5 hx16 h => (GoX.setiS (e3 := [.v ((eT (eP2 eI eI)) packs), .v (eI m), .l (found5.map (eO eI)), .v (eI size), .v (eI u), .v (eB changed1), .v (eI rest), .v (eI amount)]) (eO eI) (HV.f (HV.var rfl) rfl) (HO.of (HV.bin (HO.var rfl) (HO.var rfl) (modB hx15)) rfl rfl) rfl hx16 rfl rfl (GoX.asg (e2 := [.v ((eT (eP2 eI eI)) packs), .v (eI m), .l (found5.map (eO eI)), .v (eI size), .v (eI u), .v (eB true), .v (eI rest), .v (eI amount)]) HV.cst rfl (by apply lf2 h; exact GoX.nil rfl (LE.refl _))))))) (fun h => (by apply lf2 h; exact GoX.nil rfl (LE.refl _))) (by apply lf2 h; exact GoX.nil rfl (LE.cons (sle.refl _) (LE.cons (sle.refl _) (LE.cons (sle.refl _) (LE.cons (sle.refl _) (LE.cons (sle.refl _) (LE.cons (sle.refl _) (LE.cons (sle.refl _) (LE.cons (sle_nov _) LE.nil)))))))))))))))))) (fun h => (by apply lf2 h; exact GoX.nil rfl (LE.refl _))) (by apply lf1 h; exact GoX.nil (Or.inl rfl) (LE.cons (sle.refl _) (LE.cons (sle.refl _) (LE.cons (sle.refl _) (LE.cons (sle.refl _) (LE.cons (sle.refl _) (LE.cons (sle.refl _) (LE.cons (sle_nov _) (LE.cons (sle.refl _) LE.nil)))))))))))⟩))) (by apply lf1 h; exact GoX.nil (Or.inl rfl) (LE.refl _))))))) (by apply lf1 h; exact GoX.nil (Or.inl rfl) (LE.cons (sle.refl _) (LE.cons (sle.refl _) (LE.cons (sle.refl _) (LE.cons (sle_nov _) (LE.cons (sle_nov _) (LE.cons (sle_nov _) (LE.cons (sle.refl _) (LE.cons (sle.refl _) LE.nil)))))))))))⟩))) (by apply lf1 h; exact GoX.ret (HV.blt (HOs.cons (HO.varL rfl rfl) HOs.nil) (tupL (e := (eO eI)) found10)) rfl)))))))))
noncomputable def S_least_over (packs : (List (Int × Int))) (s1 : Int) : Option (Int) :=
  (gI packs 0).bind fun x =>
  lt x.1 fun m =>
  (S_floor packs).bind fun x1 =>
  (forO (fun (entry : (Option Int)) (rows : (List Int)) =>
  (if entry.isSome then ((entry).bind fun x2 =>
  (if decide (s1 ≤ x2) then (some (x2 - s1)) else ((modI (x2 - s1) m).bind fun x3 =>
  some x3)).bind fun x4 =>
  (appX rows x4).bind fun rows1 =>
  some rows1) else (some rows) : Option ((List Int))).bind fun rows2 =>
  some rows2) x1 ([] : (List Int))).bind fun rows3 =>
  (minL rows3).bind fun x5 =>
  some x5
theorem R_least_over {d : Nat} (hd : 2 ≤ d) {packs : (List (Int × Int))} {s1 : Int} {r : Int} (h : S_least_over packs s1 = some r) : retOf (callN (tbOf es) d) 8 [.v ((eT (eP2 eI eI)) packs), .v (eI s1)] = some ((fun (z : Int) => Sl.v (eI z)) r) := by
  obtain ⟨d, rfl, hlv⟩ := lev (c := 1) hd
  unfold S_least_over at h
  refine fnX (i := i_least_over) rfl rfl rfl ?_
  show GoX (callN (tbOf es) d) b_least_over [.v ((eT (eP2 eI eI)) packs), .v (eI s1), .no, .no, .no] _
  exact (ob h fun x hx h => (ltE h fun m hx1 h => (GoX.asg (e2 := [.v ((eT (eP2 eI eI)) packs), .v (eI s1), .v (eI m), .no, .no]) (HV.bnd (fun (z : Int) => Sl.v (eI z)) hx1 (HV.idx (HO.of (HV.idx (HO.var rfl) HO.cst (idxT (e := (eP2 eI eI)) hx)) rfl rfl) HO.cst rfl)) rfl (GoX.asg (e2 := [.v ((eT (eP2 eI eI)) packs), .v (eI s1), .v (eI m), .l [], .no]) (HV.lst HAs.nil rfl) rfl (ob h fun x1 hx2 h => (ob h fun rows3 hx8 h => GoX.forO (fun (s : (List Int)) => [.v ((eT (eP2 eI eI)) packs), .v (eI s1), .v (eI m), .l (s.map eI), .no]) (eO eI) _ hx8 (HFs.cons (HV.f (HV.call (HAs.cons (HV.f (HV.var rfl) rfl) HAs.nil) (R_floor (Nat.le_trans (by decide) hlv) hx2)) rfl) HFs.nil) (LE.refl _) (it_t (e := (eO eI)) x1) (fun entry => (fun rows => (fun z h => ⟨[.v ((eT (eP2 eI eI)) packs), .v (eI s1), .v (eI m), .l (rows.map eI), .v ((eO eI) entry)], rfl, (ob h fun rows2 hx7 h => GoX.ifj (e1 := [.v ((eT (eP2 eI eI)) packs), .v (eI s1), .v (eI m), .l (rows.map eI), .v ((eO eI) entry)]) (f := [.v ((eT (eP2 eI eI)) packs), .v (eI s1), .v (eI m), .l (rows2.map eI), .v ((eO eI) entry)]) hx7 (HT.ofC rfl (HV.isn (HO.var rfl) (isnO' (fun _ => rfl) _))) (fun h => (ob h fun x2 hx3 h => (ob h fun x4 hx5 h => (ob h fun rows1 hx6 h => (GoX.appS (e2 := [.v ((eT (eP2 eI eI)) packs), .v (eI s1), .v (eI m), .l (rows1.map eI), .v ((eO eI) entry)]) eI rfl (HV.f (HV.ite (s := .v (eI x4)) (e2 := [.v ((eT (eP2 eI eI)) packs), .v (eI s1), .v (eI m), .l (rows.map eI), .v ((eO eI) entry)]) (e1 := [.v ((eT (eP2 eI eI)) packs), .v (eI s1), .v (eI m), .l (rows.map eI), .v ((eO eI) entry)]) (HT.ofC rfl (HV.cmp (HO.cast (congrArg (eO eI) hx3) (HO.var rfl)) (HO.var rfl) (geI _ _))) (fun hb => have h := ifT hx5 hb; (by apply lf1 h; exact (HV.bin (HO.cast (congrArg (eO eI) hx3) (HO.var rfl)) (HO.var rfl) rfl))) (fun hb => have h := ifF hx5 hb; (ob h fun x3 hx4 h => (by apply lf1 h; exact (HV.bin (HO.of (HV.bin (HO.cast (congrArg (eO eI) hx3) (HO.var rfl)) (HO.var rfl) rfl) rfl rfl) (HO.var rfl) (modB hx4)))))) rfl) rfl hx6 rfl (by apply lf1 h; exact GoX.nil rfl (LE.refl _))))))) (fun h => (by apply lf1 h; exact GoX.nil rfl (LE.refl _))) (by apply lf1 h; exact GoX.nil (Or.inl rfl) (LE.cons (sle.refl _) (LE.cons (sle.refl _) (LE.cons (sle.refl _) (LE.cons (sle.refl _) (LE.cons (sle_nov _) LE.nil)))))))⟩))) (ob h fun x5 hx9 h => (by apply lf1 h; exact GoX.ret (HV.blt (HOs.cons (HO.varL rfl rfl) HOs.nil) (minLs hx9)) rfl))))))))
theorem same_at : SameAt es 11 i__law_same := ⟨rfl, rfl, rfl, rfl, rfl⟩
noncomputable def S_law_packs (st : Bx) (many : Int) (most : Int) : Option ((List (Int × Int)) × Bx) :=
  (takeS st many).bind fun (x, st1) =>
  (rng1 (1 + x)).bind fun is =>
  (forO (fun (k : Int) ((found, st2) : (List (Int × Int)) × Bx) =>
  (takeS st2 3).bind fun (x1, st3) =>
  (gI [4, 30, 1001] x1).bind fun x2 =>
  (takeS st3 x2).bind fun (x3, st4) =>
  (takeS st4 most).bind fun (x4, st5) =>
  (putO (found : (List (Int × Int))) (1 + x4) x3).bind fun found1 =>
  some (found1, st5)) is (([], st1) : (List (Int × Int)) × Bx)).bind fun (found2, st6) =>
  (sortE (eP2 eI eI) found2).bind fun x5 =>
  some (x5, st6)
theorem R_law_packs {d : Nat} (hd : 3 ≤ d) {st : Bx} {many : Int} {most : Int} {r : (List (Int × Int)) × Bx} (h : S_law_packs st many most = some r) : retB (callN (tbOf es) d) 12 [.bx st.1 st.2, .v (eI many), .v (eI most)] = some ((fun (z : (List (Int × Int))) => Sl.v ((eT (eP2 eI eI)) z)) r.1, .bx r.2.1 r.2.2) := by
  obtain ⟨d, rfl, hlv⟩ := lev (c := 2) hd
  unfold S_law_packs at h
  refine fnXB (i := i__law_packs) rfl rfl rfl ?_
  show GoX (callN (tbOf es) d) b__law_packs [.bx st.1 st.2, .v (eI many), .v (eI most), .no, .no] _
  exact (GoX.asg (e2 := [.bx st.1 st.2, .v (eI many), .v (eI most), .dk [], .no]) HV.dnewK rfl (ob2 h fun x st1 hx h => (ob h fun is hx1 h => (ob2 h fun found2 st6 hx7 h => GoX.forO (fun (s : (List (Int × Int)) × Bx) => [.bx s.2.1 s.2.2, .v (eI many), .v (eI most), .dk (s.1.map (kvI eI)), .no]) eI _ hx7 (HFs.cons (HV.f (HV.bin HO.cst (HO.of (HV.callB rfl (HAs.cons (HV.f (HV.var rfl) rfl) HAs.nil) rfl (R_take rfl (Nat.le_trans (by decide) hlv) hx) rfl) rfl rfl) rfl) rfl) HFs.nil) (LE.refl _) (it_r1 hx1) (fun k => (pr2 fun found st2 => (fun z h => ⟨[.bx st2.1 st2.2, .v (eI many), .v (eI most), .dk (found.map (kvI eI)), .v (eI k)], rfl, (ob2 h fun x1 st3 hx2 h => (ob h fun x2 hx3 h => (ob2 h fun x3 st4 hx4 h => (ob2 h fun x4 st5 hx5 h => (ob h fun found1 hx6 h => (GoX.dputI (e3 := [.bx st5.1 st5.2, .v (eI many), .v (eI most), .dk (found1.map (kvI eI)), .v (eI k)]) eI hx6 (HV.f (HV.callB rfl (HAs.cons (HV.f (HV.idx (HO.of (HV.lst (HAs.cons HF.cst (HAs.cons HF.cst (HAs.cons HF.cst HAs.nil))) rfl) rfl rfl) (HO.of (HV.callB rfl (HAs.cons HF.cst HAs.nil) rfl (R_take rfl (Nat.le_trans (by decide) hlv) hx2) rfl) rfl rfl) (idxL (e := eI) hx3)) rfl) HAs.nil) rfl (R_take rfl (Nat.le_trans (by decide) hlv) hx4) rfl) rfl) (HO.of (HV.bin HO.cst (HO.of (HV.callB rfl (HAs.cons (HV.f (HV.var rfl) rfl) HAs.nil) rfl (R_take rfl (Nat.le_trans (by decide) hlv) hx5) rfl) rfl rfl) rfl) rfl rfl) rfl rfl rfl (by apply lf1 h; exact GoX.nil (Or.inl rfl) (LE.cons (sle.refl _) (LE.cons (sle.refl _) (LE.cons (sle.refl _) (LE.cons (sle.refl _) (LE.cons (sle_nov _) LE.nil))))))))))))⟩))) (ob h fun x5 hx8 h => (by apply lf1 h; exact GoX.retB2 (e1 := [.bx st6.1 st6.2, .v (eI many), .v (eI most), .dk (found2.map (kvI eI)), .no]) (HV.blt (HOs.cons (HO.of (HV.ditm eI hx8 rfl) rfl rfl) HOs.nil) (tupL (e := (eP2 eI eI)) x5)) rfl rfl))))))
noncomputable def S_law (ns : (List Int)) : Option (Bool) :=
  (tapeS ns).bind fun st =>
  (rng1 3).bind fun is =>
  (forF (fun (turn : Int) (st1 : Bx) =>
  (S_law_packs st1 4 12).bind fun (x, st2) =>
  (takeS st2 301).bind fun (x1, st3) =>
  (takeS st3 301).bind fun (x2, st4) =>
  lt (x.map (fun ((size, price) : (Int × Int)) => (size, size))) fun plain =>
  (S_cost_ladder plain x1).bind fun x3 =>
  (gI x3 (-1)).bind fun x4 =>
  (S_least_over x x1).bind fun x5 =>
  (if decide (x4 ≠ (x1 + x5)) then some true else ((powI 10 12).bind fun x6 =>
  (S_cost_far plain (x6 + x1)).bind fun x7 =>
  (powI 10 12).bind fun x8 =>
  (powI 10 12).bind fun x9 =>
  (S_least_over x (x9 + x1)).bind fun x10 =>
  some (decide (x7 ≠ ((x8 + x1) + x10))))).bind fun b =>
  if b then
  (some (.rt false))
  else
  (lt (x.map (fun ((size1, price1) : (Int × Int)) => (size1, 1))) fun ones =>
  (S_cost_ladder ones x1).bind fun x11 =>
  (gI x11 (-1)).bind fun x12 =>
  (gI x (-1)).bind fun x13 =>
  (gI x (-1)).bind fun x14 =>
  (divI ((x1 + x13.1) - 1) x14.1).bind fun x15 =>
  (if decide (x12 ≠ x15) then some true else ((S_best_pack ones).bind fun x16 =>
  (gI x (-1)).bind fun x17 =>
  some (decide (x16 ≠ (x17.1, 1))))).bind fun b1 =>
  if b1 then
  (some (.rt false))
  else
  ((S_cost_ladder x x1).bind fun costs =>
  (mapO (fun ((size2, price2) : (Int × Int)) => (mulI 2 price2).bind fun x18 =>
  some (size2, x18)) x).bind fun x19 =>
  (S_cost_ladder x19 x1).bind fun x20 =>
  (mapO (fun (cost : Int) => (mulI 2 cost).bind fun x21 =>
  some x21) costs).bind fun x22 =>
  (sameS ((eT eI) x20) ((eT eI) x22)).bind fun b2 =>
  if (!b2) then
  (some (.rt false))
  else
  (lt ((x.filter (fun (pack : (Int × Int)) => (!((x.map (fun (other : (Int × Int)) => ((decide (pack.1 < other.1)) && (decide (other.2 ≤ pack.2))))).any id)))).map (fun (pack : (Int × Int)) => pack)) fun good =>
  (S_cost_ladder good x1).bind fun x23 =>
  (sameS ((eT eI) x23) ((eT eI) costs)).bind fun b3 =>
  if (!b3) then
  (some (.rt false))
  else
  ((S_cost_far x (x1 + x2)).bind fun x24 =>
  (S_cost_far x x1).bind fun x25 =>
  (S_cost_far x x2).bind fun x26 =>
  (if decide ((x25 + x26) < x24) then some true else ((S_cost_far x (x1 + x2)).bind fun x27 =>
  (S_cost_far x x1).bind fun x28 =>
  (S_cost_far x x2).bind fun x29 =>
  some (decide (x27 < (max x28 x29))))).bind fun b4 =>
  if b4 then
  (some (.rt false))
  else
  ((S_cheapest x x1).bind fun bought =>
  (S_amount_of x bought).bind fun x30 =>
  (if decide (x30 < x1) then some true else ((S_price_of x bought).bind fun x31 =>
  (gI costs x1).bind fun x32 =>
  if decide (x31 ≠ x32) then some true else ((rng1 x1).bind fun is1 =>
  (mapO (fun (k : Int) => (gI costs k).bind fun x33 =>
  (gI costs (k + 1)).bind fun x34 =>
  some (decide (x34 < x33))) is1).bind fun x35 =>
  some (x35.any id)))).bind fun b5 =>
  if b5 then
  (some (.rt false))
  else
  (some (.nx st4)))))))) is (st : Bx) : Option (Fl (Bx) (Bool))).bind fun fl =>
  flM fl (fun (st5 : Bx) => some true) (fun r => some r)
theorem R_law {d : Nat} (hd : 11 ≤ d) {ns : (List Int)} {r : Bool} (h : S_law ns = some r) : retOf (callN (tbOf es) d) 13 [.sc ns] = some ((fun (z : Bool) => Sl.v (eB z)) r) := by
  obtain ⟨d, rfl, hlv⟩ := lev (c := 10) hd
  unfold S_law at h
  refine fnX (i := i_law) rfl rfl rfl ?_
  show GoX (callN (tbOf es) d) b_law [.sc ns, .no, .no, .no, .no, .no, .no, .no, .no, .no, .no, .no, .no, .no, .no, .no, .no] _
  exact (ob h fun st hx h => (GoX.asg (e2 := [.sc ns, .bx st.1 st.2, .no, .no, .no, .no, .no, .no, .no, .no, .no, .no, .no, .no, .no, .no, .no]) (HV.callS rfl (R_tape rfl (Nat.le_trans (by decide) hlv) hx)) rfl (ob h fun is hx1 h => (ob h fun fl hx50 h => GoX.forF (fun (s : Bx) => [.sc ns, .bx s.1 s.2, .no, .no, .no, .no, .no, .no, .no, .no, .no, .no, .no, .no, .no, .no, .no]) (fun (r : Bool) q => q = .rt ((fun (z : Bool) => Sl.v (eB z)) r)) (fun _ _ h => Or.inl ⟨_, h⟩) eI _ hx50 (HFs.cons HF.cst HFs.nil) (LE.refl _) (it_r1 hx1) (fun turn => (fun st1 => (fun z h => ⟨[.sc ns, .bx st1.1 st1.2, .v (eI turn), .no, .no, .no, .no, .no, .no, .no, .no, .no, .no, .no, .no, .no, .no], rfl, (ob2 h fun x st2 hx2 h => (ob2 h fun x1 st3 hx3 h => (ob2 h fun x2 st4 hx4 h => (GoX.unp (e2 := [.sc ns, .bx st4.1 st4.2, .v (eI turn), .v ((eT (eP2 eI eI)) x), .v (eI x1), .v (eI x2), .no, .no, .no, .no, .no, .no, .no, .no, .no, .no, .no]) (HV.f (HV.tup (HAs.cons (HV.f (HV.callB rfl (HAs.cons HF.cst (HAs.cons HF.cst HAs.nil)) rfl (R_law_packs (Nat.le_trans (by decide) hlv) hx2) rfl) rfl) (HAs.cons (HV.f (HV.callB rfl (HAs.cons HF.cst HAs.nil) rfl (R_take rfl (Nat.le_trans (by decide) hlv) hx3) rfl) rfl) (HAs.cons (HV.f (HV.callB rfl (HAs.cons HF.cst HAs.nil) rfl (R_take rfl (Nat.le_trans (by decide) hlv) hx4) rfl) rfl) HAs.nil))) rfl) rfl) rfl (ltE h fun plain hx5 h => (GoX.asg (e2 := [.sc ns, .bx st4.1 st4.2, .v (eI turn), .v ((eT (eP2 eI eI)) x), .v (eI x1), .v (eI x2), .v ((eT (eP2 eI eI)) plain), .no, .no, .no, .no, .no, .no, .no, .no, .no, .no]) (HV.bnd (fun (z : (List (Int × Int))) => Sl.v ((eT (eP2 eI eI)) z)) hx5 (HV.blt (HOs.cons (HO.of (HV.lcP (e0 := [.sc ns, .bx st4.1 st4.2, .v (eI turn), .v ((eT (eP2 eI eI)) x), .v (eI x1), .v (eI x2), .no, .no, .no, .no, .no, .no, .no, .no, .no, .no, .no]) (e' := [.sc ns, .bx st4.1 st4.2, .v (eI turn), .v ((eT (eP2 eI eI)) x), .v (eI x1), .v (eI x2), .no, .no, .no, .no, .no, .no, .no, .no, .no, .no, .no]) (eP2 eI eI) (eP2 eI eI) (fun ((size, price) : (Int × Int)) => (size, size)) (HOw.var rfl HOw.nil) (it_t (e := (eP2 eI eI)) x) rfl rfl (fun ⟨size, price⟩ => ⟨[.sc ns, .bx st4.1 st4.2, .v (eI turn), .v ((eT (eP2 eI eI)) x), .v (eI x1), .v (eI x2), .no, .v (eI size), .v (eI price), .no, .no, .no, .no, .no, .no, .no, .no], rfl, rfl, (HV.f (HV.tup (HAs.cons (HV.f (HV.var rfl) rfl) (HAs.cons (HV.f (HV.var rfl) rfl) HAs.nil)) rfl) rfl)⟩)) rfl rfl) HOs.nil) (tupL (e := (eP2 eI eI)) (x.map (fun ((size, price) : (Int × Int)) => (size, size)))))) rfl (ob h fun x3 hx6 h => (ob h fun x4 hx7 h => (ob h fun x5 hx8 h => (ob h fun b hx14 h => (GoX.ifeS (e1 := [.sc ns, .bx st4.1 st4.2, .v (eI turn), .v ((eT (eP2 eI eI)) x), .v (eI x1), .v (eI x2), .v ((eT (eP2 eI eI)) plain), .no, .no, .no, .no, .no, .no, .no, .no, .no, .no]) h (HT.bop (b := b) (e1 := [.sc ns, .bx st4.1 st4.2, .v (eI turn), .v ((eT (eP2 eI eI)) x), .v (eI x1), .v (eI x2), .v ((eT (eP2 eI eI)) plain), .no, .no, .no, .no, .no, .no, .no, .no, .no, .no]) (have h := hx14; (HB.orO (e1 := [.sc ns, .bx st4.1 st4.2, .v (eI turn), .v ((eT (eP2 eI eI)) x), .v (eI x1), .v (eI x2), .v ((eT (eP2 eI eI)) plain), .no, .no, .no, .no, .no, .no, .no, .no, .no, .no]) (HT.ofC rfl (HV.cmp (HO.of (HV.idx (HO.of (HV.call (HAs.cons (HV.f (HV.var rfl) rfl) (HAs.cons (HV.f (HV.var rfl) rfl) HAs.nil)) (R_cost_ladder (Nat.le_trans (by decide) hlv) hx6)) rfl rfl) (HO.of (HV.neg HO.cst) rfl rfl) (idxT (e := eI) hx7)) rfl rfl) (HO.of (HV.bin (HO.var rfl) (HO.of (HV.call (HAs.cons (HV.f (HV.var rfl) rfl) (HAs.cons (HV.f (HV.var rfl) rfl) HAs.nil)) (R_least_over (Nat.le_trans (by decide) hlv) hx8)) rfl rfl) rfl) rfl rfl) (cmpNe EqE.I (by decide) x4 (x1 + x5)))) (fun hb => have h := ifF h hb; (ob h fun x6 hx9 h => (ob h fun x7 hx10 h => (ob h fun x8 hx11 h => (ob h fun x9 hx12 h => (ob h fun x10 hx13 h => (by apply lf1 h; exact HB.one (HT.ofC rfl (HV.cmp (HO.of (HV.call (HAs.cons (HV.f (HV.var rfl) rfl) (HAs.cons (HV.f (HV.bin (HO.of (HV.bin HO.cst HO.cst (powB hx9)) rfl rfl) (HO.var rfl) rfl) rfl) HAs.nil)) (R_cost_far (Nat.le_trans (by decide) hlv) hx10)) rfl rfl) (HO.of (HV.bin (HO.of (HV.bin (HO.of (HV.bin HO.cst HO.cst (powB hx11)) rfl rfl) (HO.var rfl) rfl) rfl rfl) (HO.of (HV.call (HAs.cons (HV.f (HV.var rfl) rfl) (HAs.cons (HV.f (HV.bin (HO.of (HV.bin HO.cst HO.cst (powB hx12)) rfl rfl) (HO.var rfl) rfl) rfl) HAs.nil)) (R_least_over (Nat.le_trans (by decide) hlv) hx13)) rfl rfl) rfl) rfl rfl) (cmpNe EqE.I (by decide) x7 ((x8 + x1) + x10))))))))))) (fun hb => by apply lf1 (ifT h hb); exact ⟨rfl, rfl⟩)))) (fun h => (by apply lf1 h; exact GoX.ret HV.cst rfl)) (fun h => (ltE h fun ones hx15 h => (GoX.asg (e2 := [.sc ns, .bx st4.1 st4.2, .v (eI turn), .v ((eT (eP2 eI eI)) x), .v (eI x1), .v (eI x2), .v ((eT (eP2 eI eI)) plain), .no, .no, .v ((eT (eP2 eI eI)) ones), .no, .no, .no, .no, .no, .no, .no]) (HV.bnd (fun (z : (List (Int × Int))) => Sl.v ((eT (eP2 eI eI)) z)) hx15 (HV.blt (HOs.cons (HO.of (HV.lcP (e0 := [.sc ns, .bx st4.1 st4.2, .v (eI turn), .v ((eT (eP2 eI eI)) x), .v (eI x1), .v (eI x2), .v ((eT (eP2 eI eI)) plain), .no, .no, .no, .no, .no, .no, .no, .no, .no, .no]) (e' := [.sc ns, .bx st4.1 st4.2, .v (eI turn), .v ((eT (eP2 eI eI)) x), .v (eI x1), .v (eI x2), .v ((eT (eP2 eI eI)) plain), .no, .no, .no, .no, .no, .no, .no, .no, .no, .no]) (eP2 eI eI) (eP2 eI eI) (fun ((size1, price1) : (Int × Int)) => (size1, 1)) (HOw.var rfl HOw.nil) (it_t (e := (eP2 eI eI)) x) rfl rfl (fun ⟨size1, price1⟩ => ⟨[.sc ns, .bx st4.1 st4.2, .v (eI turn), .v ((eT (eP2 eI eI)) x), .v (eI x1), .v (eI x2), .v ((eT (eP2 eI eI)) plain), .v (eI size1), .v (eI price1), .no, .no, .no, .no, .no, .no, .no, .no], rfl, rfl, (HV.f (HV.tup (HAs.cons (HV.f (HV.var rfl) rfl) (HAs.cons HF.cst HAs.nil)) rfl) rfl)⟩)) rfl rfl) HOs.nil) (tupL (e := (eP2 eI eI)) (x.map (fun ((size1, price1) : (Int × Int)) => (size1, 1)))))) rfl (ob h fun x11 hx16 h => (ob h fun x12 hx17 h => (ob h fun x13 hx18 h => (ob h fun x14 hx19 h => (ob h fun x15 hx20 h => (ob h fun b1 hx23 h => (GoX.ifeS (e1 := [.sc ns, .bx st4.1 st4.2, .v (eI turn), .v ((eT (eP2 eI eI)) x), .v (eI x1), .v (eI x2), .v ((eT (eP2 eI eI)) plain), .no, .no, .v ((eT (eP2 eI eI)) ones), .no, .no, .no, .no, .no, .no, .no]) h (HT.bop (b := b1) (e1 := [.sc ns, .bx st4.1 st4.2, .v (eI turn), .v ((eT (eP2 eI eI)) x), .v (eI x1), .v (eI x2), .v ((eT (eP2 eI eI)) plain), .no, .no, .v ((eT (eP2 eI eI)) ones), .no, .no, .no, .no, .no, .no, .no]) (have h := hx23; (HB.orO (e1 := [.sc ns, .bx st4.1 st4.2, .v (eI turn), .v ((eT (eP2 eI eI)) x), .v (eI x1), .v (eI x2), .v ((eT (eP2 eI eI)) plain), .no, .no, .v ((eT (eP2 eI eI)) ones), .no, .no, .no, .no, .no, .no, .no]) (HT.ofC rfl (HV.cmp (HO.of (HV.idx (HO.of (HV.call (HAs.cons (HV.f (HV.var rfl) rfl) (HAs.cons (HV.f (HV.var rfl) rfl) HAs.nil)) (R_cost_ladder (Nat.le_trans (by decide) hlv) hx16)) rfl rfl) (HO.of (HV.neg HO.cst) rfl rfl) (idxT (e := eI) hx17)) rfl rfl) (HO.of (HV.bin (HO.of (HV.bin (HO.of (HV.bin (HO.var rfl) (HO.of (HV.idx (HO.of (HV.idx (HO.var rfl) (HO.of (HV.neg HO.cst) rfl rfl) (idxT (e := (eP2 eI eI)) hx18)) rfl rfl) HO.cst rfl) rfl rfl) rfl) rfl rfl) HO.cst rfl) rfl rfl) (HO.of (HV.idx (HO.of (HV.idx (HO.var rfl) (HO.of (HV.neg HO.cst) rfl rfl) (idxT (e := (eP2 eI eI)) hx19)) rfl rfl) HO.cst rfl) rfl rfl) (divB hx20)) rfl rfl) (cmpNe EqE.I (by decide) x12 x15))) (fun hb => have h := ifF h hb; (ob h fun x16 hx21 h => (ob h fun x17 hx22 h => (by apply lf1 h; exact HB.one (HT.ofC rfl (HV.cmp (HO.of (HV.call (HAs.cons (HV.f (HV.var rfl) rfl) HAs.nil) (R_best_pack (Nat.le_trans (by decide) hlv) hx21)) rfl rfl) (HO.of (HV.tup (HAs.cons (HV.f (HV.idx (HO.of (HV.idx (HO.var rfl) (HO.of (HV.neg HO.cst) rfl rfl) (idxT (e := (eP2 eI eI)) hx22)) rfl rfl) HO.cst rfl) rfl) (HAs.cons HF.cst HAs.nil)) rfl) rfl rfl) (cmpNe (EqE.P2 EqE.I EqE.I) (by decide) x16 (x17.1, 1)))))))) (fun hb => by apply lf1 (ifT h hb); exact ⟨rfl, rfl⟩)))) (fun h => (by apply lf1 h; exact GoX.ret HV.cst rfl)) (fun h => (ob h fun costs hx24 h => (GoX.asg (e2 := [.sc ns, .bx st4.1 st4.2, .v (eI turn), .v ((eT (eP2 eI eI)) x), .v (eI x1), .v (eI x2), .v ((eT (eP2 eI eI)) plain), .no, .no, .v ((eT (eP2 eI eI)) ones), .v ((eT eI) costs), .no, .no, .no, .no, .no, .no]) (HV.call (HAs.cons (HV.f (HV.var rfl) rfl) (HAs.cons (HV.f (HV.var rfl) rfl) HAs.nil)) (R_cost_ladder (Nat.le_trans (by decide) hlv) hx24)) rfl (ob h fun x19 hx26 h => (ob h fun x20 hx27 h => (ob h fun x22 hx29 h => (ob h fun b2 hx30 h => (GoX.ifeS (e1 := [.sc ns, .bx st4.1 st4.2, .v (eI turn), .v ((eT (eP2 eI eI)) x), .v (eI x1), .v (eI x2), .v ((eT (eP2 eI eI)) plain), .no, .no, .v ((eT (eP2 eI eI)) ones), .v ((eT eI) costs), .no, .no, .no, .no, .no, .no]) h (HT.not (HT.ofO rfl (HO.of (HV.call (HAs.cons (HV.f (HV.call (HAs.cons (HV.f (HV.blt (HOs.cons (HO.of (HV.lcO (e0 := [.sc ns, .bx st4.1 st4.2, .v (eI turn), .v ((eT (eP2 eI eI)) x), .v (eI x1), .v (eI x2), .v ((eT (eP2 eI eI)) plain), .no, .no, .v ((eT (eP2 eI eI)) ones), .v ((eT eI) costs), .no, .no, .no, .no, .no, .no]) (e' := [.sc ns, .bx st4.1 st4.2, .v (eI turn), .v ((eT (eP2 eI eI)) x), .v (eI x1), .v (eI x2), .v ((eT (eP2 eI eI)) plain), .no, .no, .v ((eT (eP2 eI eI)) ones), .v ((eT eI) costs), .no, .no, .no, .no, .no, .no]) (eP2 eI eI) (eP2 eI eI) _ hx26 (HOw.var rfl HOw.nil) (it_t (e := (eP2 eI eI)) x) rfl rfl (fun ⟨size2, price2⟩ z h => (ob h fun x18 hx25 h => (by apply lf1 h; exact ⟨[.sc ns, .bx st4.1 st4.2, .v (eI turn), .v ((eT (eP2 eI eI)) x), .v (eI x1), .v (eI x2), .v ((eT (eP2 eI eI)) plain), .v (eI size2), .v (eI price2), .v ((eT (eP2 eI eI)) ones), .v ((eT eI) costs), .no, .no, .no, .no, .no, .no], rfl, rfl, (HV.f (HV.tup (HAs.cons (HV.f (HV.var rfl) rfl) (HAs.cons (HV.f (HV.bin HO.cst (HO.var rfl) (mulB hx25)) rfl) HAs.nil)) rfl) rfl)⟩)))) rfl rfl) HOs.nil) (tupL (e := (eP2 eI eI)) x19)) rfl) (HAs.cons (HV.f (HV.var rfl) rfl) HAs.nil)) (R_cost_ladder (Nat.le_trans (by decide) hlv) hx27)) rfl) (HAs.cons (HV.f (HV.blt (HOs.cons (HO.of (HV.lcO (e0 := [.sc ns, .bx st4.1 st4.2, .v (eI turn), .v ((eT (eP2 eI eI)) x), .v (eI x1), .v (eI x2), .v ((eT (eP2 eI eI)) plain), .no, .no, .v ((eT (eP2 eI eI)) ones), .v ((eT eI) costs), .no, .no, .no, .no, .no, .no]) (e' := [.sc ns, .bx st4.1 st4.2, .v (eI turn), .v ((eT (eP2 eI eI)) x), .v (eI x1), .v (eI x2), .v ((eT (eP2 eI eI)) plain), .no, .no, .v ((eT (eP2 eI eI)) ones), .v ((eT eI) costs), .no, .no, .no, .no, .no, .no]) eI eI _ hx29 (HOw.var rfl HOw.nil) (it_t (e := eI) costs) rfl rfl (fun cost z h => (ob h fun x21 hx28 h => (by apply lf1 h; exact ⟨[.sc ns, .bx st4.1 st4.2, .v (eI turn), .v ((eT (eP2 eI eI)) x), .v (eI x1), .v (eI x2), .v ((eT (eP2 eI eI)) plain), .no, .no, .v ((eT (eP2 eI eI)) ones), .v ((eT eI) costs), .v (eI cost), .no, .no, .no, .no, .no], rfl, rfl, (HV.f (HV.bin HO.cst (HO.var rfl) (mulB hx28)) rfl)⟩)))) rfl rfl) HOs.nil) (tupL (e := eI) x22)) rfl) HAs.nil)) (R_same same_at (Nat.le_trans (by decide) hlv) hx30)) rfl rfl) rfl)) (fun h => (by apply lf1 h; exact GoX.ret HV.cst rfl)) (fun h => (ltE h fun good hx31 h => (GoX.asg (e2 := [.sc ns, .bx st4.1 st4.2, .v (eI turn), .v ((eT (eP2 eI eI)) x), .v (eI x1), .v (eI x2), .v ((eT (eP2 eI eI)) plain), .no, .no, .v ((eT (eP2 eI eI)) ones), .v ((eT eI) costs), .no, .v ((eT (eP2 eI eI)) good), .no, .no, .no, .no]) (HV.bnd (fun (z : (List (Int × Int))) => Sl.v ((eT (eP2 eI eI)) z)) hx31 (HV.blt (HOs.cons (HO.of (HV.lcPF (e0 := [.sc ns, .bx st4.1 st4.2, .v (eI turn), .v ((eT (eP2 eI eI)) x), .v (eI x1), .v (eI x2), .v ((eT (eP2 eI eI)) plain), .no, .no, .v ((eT (eP2 eI eI)) ones), .v ((eT eI) costs), .no, .no, .no, .no, .no, .no]) (e' := [.sc ns, .bx st4.1 st4.2, .v (eI turn), .v ((eT (eP2 eI eI)) x), .v (eI x1), .v (eI x2), .v ((eT (eP2 eI eI)) plain), .no, .no, .v ((eT (eP2 eI eI)) ones), .v ((eT eI) costs), .no, .no, .no, .no, .no, .no]) (eP2 eI eI) (eP2 eI eI) (fun (pack : (Int × Int)) => pack) (fun (pack : (Int × Int)) => (!((x.map (fun (other : (Int × Int)) => ((decide (pack.1 < other.1)) && (decide (other.2 ≤ pack.2))))).any id))) (HOw.var rfl HOw.nil) (it_t (e := (eP2 eI eI)) x) rfl rfl (fun pack => ⟨[.sc ns, .bx st4.1 st4.2, .v (eI turn), .v ((eT (eP2 eI eI)) x), .v (eI x1), .v (eI x2), .v ((eT (eP2 eI eI)) plain), .no, .no, .v ((eT (eP2 eI eI)) ones), .v ((eT eI) costs), .no, .no, .v ((eP2 eI eI) pack), .no, .no, .no], rfl, rfl, (HT.not (HT.ofO rfl (HO.of (HV.blt (HOs.cons (HO.of (HV.lcP (e0 := [.sc ns, .bx st4.1 st4.2, .v (eI turn), .v ((eT (eP2 eI eI)) x), .v (eI x1), .v (eI x2), .v ((eT (eP2 eI eI)) plain), .no, .no, .v ((eT (eP2 eI eI)) ones), .v ((eT eI) costs), .no, .no, .v ((eP2 eI eI) pack), .no, .no, .no]) (e' := [.sc ns, .bx st4.1 st4.2, .v (eI turn), .v ((eT (eP2 eI eI)) x), .v (eI x1), .v (eI x2), .v ((eT (eP2 eI eI)) plain), .no, .no, .v ((eT (eP2 eI eI)) ones), .v ((eT eI) costs), .no, .no, .v ((eP2 eI eI) pack), .no, .no, .no]) (eP2 eI eI) eB (fun (other : (Int × Int)) => ((decide (pack.1 < other.1)) && (decide (other.2 ≤ pack.2)))) (HOw.var rfl HOw.nil) (it_t (e := (eP2 eI eI)) x) rfl rfl (fun other => ⟨[.sc ns, .bx st4.1 st4.2, .v (eI turn), .v ((eT (eP2 eI eI)) x), .v (eI x1), .v (eI x2), .v ((eT (eP2 eI eI)) plain), .no, .no, .v ((eT (eP2 eI eI)) ones), .v ((eT eI) costs), .no, .no, .v ((eP2 eI eI) pack), .v ((eP2 eI eI) other), .no, .no], rfl, rfl, (HV.f (HV.bop (d := .bool ((decide (pack.1 < other.1)) && (decide (other.2 ≤ pack.2)))) (e1 := [.sc ns, .bx st4.1 st4.2, .v (eI turn), .v ((eT (eP2 eI eI)) x), .v (eI x1), .v (eI x2), .v ((eT (eP2 eI eI)) plain), .no, .no, .v ((eT (eP2 eI eI)) ones), .v ((eT eI) costs), .no, .no, .v ((eP2 eI eI) pack), .v ((eP2 eI eI) other), .no, .no]) (HBV.and (HV.f (HV.cmp (HO.of (HV.idx (HO.var rfl) HO.cst rfl) rfl rfl) (HO.of (HV.idx (HO.var rfl) HO.cst rfl) rfl rfl) (gtI _ _)) rfl) (HBV.one (HV.f (HV.cmp (HO.of (HV.idx (HO.var rfl) HO.cst rfl) rfl rfl) (HO.of (HV.idx (HO.var rfl) HO.cst rfl) rfl rfl) (leI _ _)) rfl)))) rfl)⟩)) rfl rfl) HOs.nil) (anyL (x.map (fun (other : (Int × Int)) => ((decide (pack.1 < other.1)) && (decide (other.2 ≤ pack.2))))))) rfl rfl) rfl)), (HV.f (HV.var rfl) rfl)⟩)) rfl rfl) HOs.nil) (tupL (e := (eP2 eI eI)) ((x.filter (fun (pack : (Int × Int)) => (!((x.map (fun (other : (Int × Int)) => ((decide (pack.1 < other.1)) && (decide (other.2 ≤ pack.2))))).any id)))).map (fun (pack : (Int × Int)) => pack))))) rfl (ob h fun x23 hx32 h => (ob h fun b3 hx33 h => (GoX.ifeS (e1 := [.sc ns, .bx st4.1 st4.2, .v (eI turn), .v ((eT (eP2 eI eI)) x), .v (eI x1), .v (eI x2), .v ((eT (eP2 eI eI)) plain), .no, .no, .v ((eT (eP2 eI eI)) ones), .v ((eT eI) costs), .no, .v ((eT (eP2 eI eI)) good), .no, .no, .no, .no]) h (HT.not (HT.ofO rfl (HO.of (HV.call (HAs.cons (HV.f (HV.call (HAs.cons (HV.f (HV.var rfl) rfl) (HAs.cons (HV.f (HV.var rfl) rfl) HAs.nil)) (R_cost_ladder (Nat.le_trans (by decide) hlv) hx32)) rfl) (HAs.cons (HV.f (HV.var rfl) rfl) HAs.nil)) (R_same same_at (Nat.le_trans (by decide) hlv) hx33)) rfl rfl) rfl)) (fun h => (by apply lf1 h; exact GoX.ret HV.cst rfl)) (fun h => (ob h fun x24 hx34 h => (ob h fun x25 hx35 h => (ob h fun x26 hx36 h => (ob h fun b4 hx40 h => (GoX.ifeS (e1 := [.sc ns, .bx st4.1 st4.2, .v (eI turn), .v ((eT (eP2 eI eI)) x), .v (eI x1), .v (eI x2), .v ((eT (eP2 eI eI)) plain), .no, .no, .v ((eT (eP2 eI eI)) ones), .v ((eT eI) costs), .no, .v ((eT (eP2 eI eI)) good), .no, .no, .no, .no]) h (HT.bop (b := b4) (e1 := [.sc ns, .bx st4.1 st4.2, .v (eI turn), .v ((eT (eP2 eI eI)) x), .v (eI x1), .v (eI x2), .v ((eT (eP2 eI eI)) plain), .no, .no, .v ((eT (eP2 eI eI)) ones), .v ((eT eI) costs), .no, .v ((eT (eP2 eI eI)) good), .no, .no, .no, .no]) (have h := hx40; (HB.orO (e1 := [.sc ns, .bx st4.1 st4.2, .v (eI turn), .v ((eT (eP2 eI eI)) x), .v (eI x1), .v (eI x2), .v ((eT (eP2 eI eI)) plain), .no, .no, .v ((eT (eP2 eI eI)) ones), .v ((eT eI) costs), .no, .v ((eT (eP2 eI eI)) good), .no, .no, .no, .no]) (HT.ofC rfl (HV.cmp (HO.of (HV.call (HAs.cons (HV.f (HV.var rfl) rfl) (HAs.cons (HV.f (HV.bin (HO.var rfl) (HO.var rfl) rfl) rfl) HAs.nil)) (R_cost_far (Nat.le_trans (by decide) hlv) hx34)) rfl rfl) (HO.of (HV.bin (HO.of (HV.call (HAs.cons (HV.f (HV.var rfl) rfl) (HAs.cons (HV.f (HV.var rfl) rfl) HAs.nil)) (R_cost_far (Nat.le_trans (by decide) hlv) hx35)) rfl rfl) (HO.of (HV.call (HAs.cons (HV.f (HV.var rfl) rfl) (HAs.cons (HV.f (HV.var rfl) rfl) HAs.nil)) (R_cost_far (Nat.le_trans (by decide) hlv) hx36)) rfl rfl) rfl) rfl rfl) (gtI _ _))) (fun hb => have h := ifF h hb; (ob h fun x27 hx37 h => (ob h fun x28 hx38 h => (ob h fun x29 hx39 h => (by apply lf1 h; exact HB.one (HT.ofC rfl (HV.cmp (HO.of (HV.call (HAs.cons (HV.f (HV.var rfl) rfl) (HAs.cons (HV.f (HV.bin (HO.var rfl) (HO.var rfl) rfl) rfl) HAs.nil)) (R_cost_far (Nat.le_trans (by decide) hlv) hx37)) rfl rfl) (HO.of (HV.blt (HOs.cons (HO.of (HV.call (HAs.cons (HV.f (HV.var rfl) rfl) (HAs.cons (HV.f (HV.var rfl) rfl) HAs.nil)) (R_cost_far (Nat.le_trans (by decide) hlv) hx38)) rfl rfl) (HOs.cons (HO.of (HV.call (HAs.cons (HV.f (HV.var rfl) rfl) (HAs.cons (HV.f (HV.var rfl) rfl) HAs.nil)) (R_cost_far (Nat.le_trans (by decide) hlv) hx39)) rfl rfl) HOs.nil)) (max2 _ _)) rfl rfl) (ltI _ _)))))))) (fun hb => by apply lf1 (ifT h hb); exact ⟨rfl, rfl⟩)))) (fun h => (by apply lf1 h; exact GoX.ret HV.cst rfl)) (fun h => (ob h fun bought hx41 h => (GoX.asg (e2 := [.sc ns, .bx st4.1 st4.2, .v (eI turn), .v ((eT (eP2 eI eI)) x), .v (eI x1), .v (eI x2), .v ((eT (eP2 eI eI)) plain), .no, .no, .v ((eT (eP2 eI eI)) ones), .v ((eT eI) costs), .no, .v ((eT (eP2 eI eI)) good), .no, .no, .v ((eT eI) bought), .no]) (HV.call (HAs.cons (HV.f (HV.var rfl) rfl) (HAs.cons (HV.f (HV.var rfl) rfl) HAs.nil)) (R_cheapest (Nat.le_trans (by decide) hlv) hx41)) rfl (ob h fun x30 hx42 h => (ob h fun b5 hx49 h => (GoX.ifeS (e1 := [.sc ns, .bx st4.1 st4.2, .v (eI turn), .v ((eT (eP2 eI eI)) x), .v (eI x1), .v (eI x2), .v ((eT (eP2 eI eI)) plain), .no, .no, .v ((eT (eP2 eI eI)) ones), .v ((eT eI) costs), .no, .v ((eT (eP2 eI eI)) good), .no, .no, .v ((eT eI) bought), .no]) h (HT.bop (b := b5) (e1 := [.sc ns, .bx st4.1 st4.2, .v (eI turn), .v ((eT (eP2 eI eI)) x), .v (eI x1), .v (eI x2), .v ((eT (eP2 eI eI)) plain), .no, .no, .v ((eT (eP2 eI eI)) ones), .v ((eT eI) costs), .no, .v ((eT (eP2 eI eI)) good), .no, .no, .v ((eT eI) bought), .no]) (have h := hx49; (HB.orO (e1 := [.sc ns, .bx st4.1 st4.2, .v (eI turn), .v ((eT (eP2 eI eI)) x), .v (eI x1), .v (eI x2), .v ((eT (eP2 eI eI)) plain), .no, .no, .v ((eT (eP2 eI eI)) ones), .v ((eT eI) costs), .no, .v ((eT (eP2 eI eI)) good), .no, .no, .v ((eT eI) bought), .no]) (HT.ofC rfl (HV.cmp (HO.of (HV.call (HAs.cons (HV.f (HV.var rfl) rfl) (HAs.cons (HV.f (HV.var rfl) rfl) HAs.nil)) (R_amount_of (Nat.le_trans (by decide) hlv) hx42)) rfl rfl) (HO.var rfl) (ltI _ _))) (fun hb => have h := ifF h hb; (ob h fun x31 hx43 h => (ob h fun x32 hx44 h => (HB.orO (e1 := [.sc ns, .bx st4.1 st4.2, .v (eI turn), .v ((eT (eP2 eI eI)) x), .v (eI x1), .v (eI x2), .v ((eT (eP2 eI eI)) plain), .no, .no, .v ((eT (eP2 eI eI)) ones), .v ((eT eI) costs), .no, .v ((eT (eP2 eI eI)) good), .no, .no, .v ((eT eI) bought), .no]) (HT.ofC rfl (HV.cmp (HO.of (HV.call (HAs.cons (HV.f (HV.var rfl) rfl) (HAs.cons (HV.f (HV.var rfl) rfl) HAs.nil)) (R_price_of (Nat.le_trans (by decide) hlv) hx43)) rfl rfl) (HO.of (HV.idx (HO.var rfl) (HO.var rfl) (idxT (e := eI) hx44)) rfl rfl) (cmpNe EqE.I (by decide) x31 x32))) (fun hb => have h := ifF h hb; (ob h fun is1 hx45 h => (ob h fun x35 hx48 h => (by apply lf1 h; exact HB.one (HT.ofO rfl (HO.of (HV.blt (HOs.cons (HO.of (HV.lcO (e0 := [.sc ns, .bx st4.1 st4.2, .v (eI turn), .v ((eT (eP2 eI eI)) x), .v (eI x1), .v (eI x2), .v ((eT (eP2 eI eI)) plain), .no, .no, .v ((eT (eP2 eI eI)) ones), .v ((eT eI) costs), .no, .v ((eT (eP2 eI eI)) good), .no, .no, .v ((eT eI) bought), .no]) (e' := [.sc ns, .bx st4.1 st4.2, .v (eI turn), .v ((eT (eP2 eI eI)) x), .v (eI x1), .v (eI x2), .v ((eT (eP2 eI eI)) plain), .no, .no, .v ((eT (eP2 eI eI)) ones), .v ((eT eI) costs), .no, .v ((eT (eP2 eI eI)) good), .no, .no, .v ((eT eI) bought), .no]) eI eB _ hx48 (HOw.var rfl HOw.nil) (it_r1 hx45) rfl rfl (fun k z h => (ob h fun x33 hx46 h => (ob h fun x34 hx47 h => (by apply lf1 h; exact ⟨[.sc ns, .bx st4.1 st4.2, .v (eI turn), .v ((eT (eP2 eI eI)) x), .v (eI x1), .v (eI x2), .v ((eT (eP2 eI eI)) plain), .no, .no, .v ((eT (eP2 eI eI)) ones), .v ((eT eI) costs), .no, .v ((eT (eP2 eI eI)) good), .no, .no, .v ((eT eI) bought), .v (eI k)], rfl, rfl, (HV.f (HV.cmp (HO.of (HV.idx (HO.var rfl) (HO.var rfl) (idxT (e := eI) hx46)) rfl rfl) (HO.of (HV.idx (HO.var rfl) (HO.of (HV.bin (HO.var rfl) HO.cst rfl) rfl rfl) (idxT (e := eI) hx47)) rfl rfl) (gtI _ _)) rfl)⟩))))) rfl rfl) HOs.nil) (anyL x35)) rfl rfl) rfl))))) (fun hb => by apply lf1 (ifT h hb); exact ⟨rfl, rfl⟩))))) (fun hb => by apply lf1 (ifT h hb); exact ⟨rfl, rfl⟩)))) (fun h => (by apply lf1 h; exact GoX.ret HV.cst rfl)) (fun h => (by apply lf1 h; exact GoX.nil (Or.inl rfl) (LE.cons (sle.refl _) (LE.cons (sle.refl _) (LE.cons (sle_nov _) (LE.cons (sle_nov _) (LE.cons (sle_nov _) (LE.cons (sle_nov _) (LE.cons (sle_nov _) (LE.cons (sle.refl _) (LE.cons (sle.refl _) (LE.cons (sle_nov _) (LE.cons (sle_nov _) (LE.cons (sle.refl _) (LE.cons (sle_nov _) (LE.cons (sle.refl _) (LE.cons (sle.refl _) (LE.cons (sle_nov _) (LE.cons (sle.refl _) LE.nil))))))))))))))))))))))))))))))))))))))))))))))))))))))))))))))))))⟩))) (fun st5 => (fun hs => have h := flN hs h; (by apply lf1 h; exact GoX.ret HV.cst rfl))) (fun r q hs hk => by apply flRt hs h rfl; exact hk)))))
end
end Law

namespace Law
open PySem PySem.Spec L2 Mini
abbrev Pk := Int × Int
structure Pks (ps : List Pk) : Prop where
  ne : ps ≠ []
  sz : ∀ p ∈ ps, 1 ≤ p.1 ∧ p.1 ≤ 40 ∧ 0 ≤ p.2 ∧ p.2 ≤ 1000000
def nextC (ps : List Pk) (l : List Int) : Int := (minL (ps.map fun p => l.getD (l.length - p.1.toNat) 0 + p.2)).getD 0
def ladC (ps : List Pk) : Nat → List Int
  | 0 => [0]
  | n + 1 => ladC ps n ++ [nextC ps (ladC ps n)]
def cN (ps : List Pk) (t : Nat) : Int := (ladC ps t).getD t 0
theorem ladC_len (ps : List Pk) : ∀ n, (ladC ps n).length = n + 1
  | 0 => rfl
  | n + 1 => by rw [ladC, List.length_append, ladC_len ps n]; rfl
theorem ladC_get (ps : List Pk) : ∀ {n j : Nat}, j ≤ n → (ladC ps n)[j]? = some (cN ps j)
  | 0, j, h => by obtain rfl : j = 0 := by omega
                  rfl
  | n + 1, j, h => by
    by_cases hj : j = n + 1
    · subst hj
      unfold cN
      rw [List.getD_eq_getElem?_getD, List.getElem?_eq_getElem (by rw [ladC_len]; omega)]; rfl
    · rw [ladC, List.getElem?_append_left (by rw [ladC_len]; omega)]
      exact ladC_get ps (by omega)
theorem ladC_getD (ps : List Pk) {n j : Nat} (h : j ≤ n) : (ladC ps n).getD j 0 = cN ps j := by rw [List.getD_eq_getElem?_getD, ladC_get ps h]; rfl
theorem ladC_ne (ps : List Pk) (n : Nat) : ladC ps n ≠ [] := fun z => by have := ladC_len ps n; rw [z] at this; simp at this
theorem ladC_last (ps : List Pk) (n : Nat) : gI (ladC ps n) (-1) = some (cN ps n) := by
  rw [gI_last (ladC_ne ps n)]
  congr 1
  rw [List.getLast_eq_getElem]
  have := ladC_get ps (Nat.le_refl n)
  rw [List.getElem?_eq_getElem (by rw [ladC_len]; omega)] at this
  have := Option.some.inj this
  rw [← this]
  congr 1
  rw [ladC_len]; omega
section
variable {ps : List Pk} (P : Pks ps)
include P
theorem next_min (n : Nat) : minL (ps.map fun p => (ladC ps n).getD ((ladC ps n).length - p.1.toNat) 0 + p.2) = some (cN ps (n + 1)) ∧ (∀ p ∈ ps, cN ps (n + 1) ≤ cN ps (n + 1 - p.1.toNat) + p.2) ∧ ∃ p ∈ ps, cN ps (n + 1) = cN ps (n + 1 - p.1.toNat) + p.2 := by
  have e : cN ps (n + 1) = nextC ps (ladC ps n) := by
    unfold cN
    rw [List.getD_eq_getElem?_getD, ladC, List.getElem?_append_right (by rw [ladC_len]; omega), ladC_len]
    simp
  obtain ⟨m, hm, h1, h2⟩ := minL_ok (xs := ps.map fun p => (ladC ps n).getD ((ladC ps n).length - p.1.toNat) 0 + p.2) (fun z => P.ne (List.map_eq_nil_iff.mp z))
  have em : cN ps (n + 1) = m := by rw [e, nextC, hm]; rfl
  have at' : ∀ p ∈ ps, (ladC ps n).getD ((ladC ps n).length - p.1.toNat) 0 = cN ps (n + 1 - p.1.toNat) := fun p hp => by
    have := (P.sz p hp).1
    rw [ladC_len, ladC_getD ps (by omega)]
  refine ⟨by rw [hm, em], fun p hp => ?_, ?_⟩
  · rw [em, ← at' p hp]
    exact (h2 m).mp (Int.le_refl _) _ (List.mem_map.mpr ⟨p, hp, rfl⟩)
  · obtain ⟨p, hp, hpe⟩ := List.mem_map.mp h1
    exact ⟨p, hp, by rw [em, ← hpe, at' p hp]⟩
theorem c_le {t : Nat} (ht : 1 ≤ t) {p : Pk} (hp : p ∈ ps) : cN ps t ≤ cN ps (t - p.1.toNat) + p.2 := by
  obtain ⟨n, rfl⟩ : ∃ n, t = n + 1 := ⟨t - 1, by omega⟩
  exact (next_min P n).2.1 p hp
theorem c_ex {t : Nat} (ht : 1 ≤ t) : ∃ p ∈ ps, cN ps t = cN ps (t - p.1.toNat) + p.2 := by
  obtain ⟨n, rfl⟩ : ∃ n, t = n + 1 := ⟨t - 1, by omega⟩
  exact (next_min P n).2.2
end
/-! purchases: rows of packs -/
def szL : List Pk → Nat
  | [] => 0
  | p :: l => p.1.toNat + szL l
def prL : List Pk → Int
  | [] => 0
  | p :: l => p.2 + prL l
theorem szL_app : ∀ a b : List Pk, szL (a ++ b) = szL a + szL b
  | [], b => by simp [szL]
  | p :: a, b => by rw [List.cons_append, szL, szL, szL_app a b]; omega
theorem prL_app : ∀ a b : List Pk, prL (a ++ b) = prL a + prL b
  | [], b => by simp [prL]
  | p :: a, b => by rw [List.cons_append, prL, prL, prL_app a b]; omega
theorem szL_rep (p : Pk) : ∀ k, szL (List.replicate k p) = k * p.1.toNat
  | 0 => by simp [szL]
  | k + 1 => by rw [List.replicate_succ, szL, szL_rep p k, Nat.succ_mul]; omega
theorem prL_rep (p : Pk) : ∀ k : Nat, prL (List.replicate k p) = k * p.2
  | 0 => by simp [prL]
  | k + 1 => by rw [List.replicate_succ, prL, prL_rep p k, Int.natCast_succ, Int.add_mul]; omega
theorem erase_sp {p : Pk} : ∀ {l : List Pk}, p ∈ l → ∃ a b, l = a ++ p :: b := fun h => List.append_of_mem h
section
variable {ps : List Pk} (P : Pks ps)
include P
theorem prL_nn {l : List Pk} (h : ∀ p ∈ l, p ∈ ps) : 0 ≤ prL l := by
  induction l with
  | nil => exact Int.le_refl _
  | cons p l ih =>
    have := ih fun q hq => h q (List.mem_cons_of_mem _ hq)
    have := (P.sz p (h p List.mem_cons_self)).2.2.1
    rw [prL]; omega
theorem c_low : ∀ {l : List Pk} {t : Nat}, (∀ p ∈ l, p ∈ ps) → t ≤ szL l → cN ps t ≤ prL l
  | l, 0, h, _ => by have := prL_nn P h; show (0 : Int) ≤ _; exact this
  | [], t + 1, h, ht => by simp [szL] at ht
  | p :: l, t + 1, h, ht => by
    have hp := h p List.mem_cons_self
    have h1 := c_le P (t := t + 1) (by omega) hp
    have h2 := c_low (l := l) (t := t + 1 - p.1.toNat) (fun q hq => h q (List.mem_cons_of_mem _ hq)) (by rw [szL] at ht; omega)
    rw [prL]; omega
theorem c_ach (t : Nat) : ∃ l : List Pk, (∀ p ∈ l, p ∈ ps) ∧ t ≤ szL l ∧ prL l = cN ps t := by
  induction t using Nat.strongRecOn with
  | ind t ih =>
    by_cases ht : t = 0
    · subst ht; exact ⟨[], by simp, Nat.le_refl _, rfl⟩
    · obtain ⟨p, hp, e⟩ := c_ex P (t := t) (by omega)
      have := (P.sz p hp).1
      obtain ⟨l, h1, h2, h3⟩ := ih (t - p.1.toNat) (by omega)
      refine ⟨p :: l, fun q hq => ?_, by rw [szL]; omega, by rw [prL, h3, e]; omega⟩
      rcases List.mem_cons.mp hq with rfl | hq
      · exact hp
      · exact h1 q hq
theorem c_mono {a b : Nat} (h : a ≤ b) : cN ps a ≤ cN ps b := by
  obtain ⟨l, h1, h2, h3⟩ := c_ach P b
  rw [← h3]; exact c_low P h1 (by omega)
theorem c_nn (t : Nat) : 0 ≤ cN ps t := c_mono P (Nat.zero_le t)
theorem c_sub (s t : Nat) : cN ps (s + t) ≤ cN ps s + cN ps t := by
  obtain ⟨l, h1, h2, h3⟩ := c_ach P s
  obtain ⟨l', g1, g2, g3⟩ := c_ach P t
  rw [← h3, ← g3, ← prL_app]
  refine c_low P (fun p hp => ?_) (by rw [szL_app]; omega)
  rcases List.mem_append.mp hp with hp | hp
  · exact h1 p hp
  · exact g1 p hp
theorem c_bound (t : Nat) : cN ps t ≤ 1000000 * t := by
  induction t using Nat.strongRecOn with
  | ind t ih =>
    by_cases ht : t = 0
    · subst ht; show (0 : Int) ≤ _; omega
    · obtain ⟨p, hp, e⟩ := c_ex P (t := t) (by omega)
      have := P.sz p hp
      have := ih (t - p.1.toNat) (by omega)
      omega
end
/-! pigeons -/
theorem pigeon {f : Nat → Nat} {a : Nat} (h : ∀ i, i ≤ a → f i < a) : ∃ i j, i < j ∧ j ≤ a ∧ f i = f j := by
  by_cases hn : ((List.range (a + 1)).map fun i => (f i : Int)).Nodup
  · have := nodup_le (b := (List.range a).map fun (i : Nat) => (i : Int)) hn fun k hk => by
      obtain ⟨i, hi, rfl⟩ := List.mem_map.mp hk
      have := List.mem_range.mp hi
      exact List.mem_map.mpr ⟨f i, List.mem_range.mpr (h i (by omega)), rfl⟩
    simp at this
    omega
  · rw [List.Nodup, List.pairwise_iff_getElem] at hn
    simp only [Classical.not_forall] at hn
    obtain ⟨i, j, hi, hj, hij, he⟩ := hn
    simp at hi hj he
    exact ⟨i, j, hij, by omega, by omega⟩
/-- among a packs some that follow each other have a sum that a divides -/
theorem block {a : Nat} (ha : 1 ≤ a) {l : List Pk} (h : a ≤ l.length) (h1 : ∀ p ∈ l, 1 ≤ p.1) : ∃ x y z, l = x ++ (y ++ z) ∧ ∃ k, 1 ≤ k ∧ szL y = k * a := by
  obtain ⟨i, j, hij, hj, he⟩ := pigeon (f := fun i => szL (l.take i) % a) (a := a) fun i _ => Nat.mod_lt _ (by omega)
  refine ⟨l.take i, (l.drop i).take (j - i), (l.drop i).drop (j - i), by rw [List.take_append_drop, List.take_append_drop], ?_⟩
  have e : l.take j = l.take i ++ (l.drop i).take (j - i) := by
    have : j = i + (j - i) := by omega
    conv => lhs; rw [this]
    rw [List.take_add]
  rw [e, szL_app] at he
  have hd : a ∣ szL ((l.drop i).take (j - i)) := by
    have h2 := Nat.sub_mod_eq_zero_of_mod_eq he.symm
    rw [Nat.add_sub_cancel_left] at h2
    exact Nat.dvd_of_mod_eq_zero h2
  have hge : ∀ {y : List Pk}, (∀ p ∈ y, 1 ≤ p.1) → y.length ≤ szL y := by
    intro y
    induction y with
    | nil => intro _; exact Nat.le_refl _
    | cons p y ih =>
      intro h
      have := ih fun q hq => h q (List.mem_cons_of_mem _ hq)
      have := h p List.mem_cons_self
      rw [szL, List.length_cons]; omega
  obtain ⟨k, hk⟩ := hd
  refine ⟨k, ?_, by rw [hk, Nat.mul_comm]⟩
  have h3 := hge (y := (l.drop i).take (j - i)) fun p hp => h1 p (List.mem_of_mem_drop (List.mem_of_mem_take hp))
  rw [List.length_take, List.length_drop, hk] at h3
  by_cases hk0 : k = 0
  · subst hk0; simp at h3; omega
  · omega
structure Best (ps : List Pk) (B : Pk) : Prop where
  mem : B ∈ ps
  le : ∀ p ∈ ps, B.2 * p.1 ≤ p.2 * B.1
section
variable {ps : List Pk} (P : Pks ps) {B : Pk} (hB : Best ps B)
include P hB
theorem rate {l : List Pk} (h : ∀ p ∈ l, p ∈ ps) : B.2 * (szL l : Int) ≤ prL l * B.1 := by
  induction l with
  | nil => simp [szL, prL]
  | cons p l ih =>
    have := ih fun q hq => h q (List.mem_cons_of_mem _ hq)
    have h1 := hB.le p (h p List.mem_cons_self)
    have h2 := (P.sz p (h p List.mem_cons_self)).1
    have e : ((p.1.toNat + szL l : Nat) : Int) = p.1 + (szL l : Int) := by omega
    rw [szL, prL, e, Int.mul_add, Int.add_mul]; omega
/-- a best row with the best pack in it -/
theorem with_best {M : Nat} (hM : ∀ p ∈ ps, p.1 ≤ M) {t : Nat} (ht : (B.1.toNat - 1) * M < t) : ∃ x z, (∀ p ∈ x ++ z, p ∈ ps) ∧ t ≤ szL (x ++ z) + B.1.toNat ∧ prL (x ++ z) + B.2 ≤ cN ps t := by
  obtain ⟨l, h1, h2, h3⟩ := c_ach P t
  have b1 := P.sz B hB.mem
  have len : szL l ≤ l.length * M := by
    clear h2 h3
    induction l with
    | nil => simp [szL]
    | cons p l ih =>
      have := ih fun q hq => h1 q (List.mem_cons_of_mem _ hq)
      have := hM p (h1 p List.mem_cons_self)
      rw [szL, List.length_cons, Nat.succ_mul]; omega
  have hl : B.1.toNat ≤ l.length := by
    by_cases hc : B.1.toNat ≤ l.length
    · exact hc
    · have : l.length * M ≤ (B.1.toNat - 1) * M := Nat.mul_le_mul_right _ (by omega)
      omega
  obtain ⟨x, y, z, rfl, k, hk1, hk⟩ := block (a := B.1.toNat) (by omega) hl fun p hp => (P.sz p (h1 p hp)).1
  have hy : ∀ p ∈ y, p ∈ ps := fun p hp => h1 p (by simp [hp])
  have hr := rate P hB hy
  have hkB : (k : Int) * B.2 ≤ prL y := by
    rw [hk, Int.natCast_mul, show ((B.1.toNat : Nat) : Int) = B.1 by omega, ← Int.mul_assoc] at hr
    rw [Int.mul_comm B.2 (k : Int)] at hr
    exact Int.le_of_mul_le_mul_right hr (by omega)
  · refine ⟨x, List.replicate (k - 1) B ++ z, fun p hp => ?_, ?_, ?_⟩
    · rcases List.mem_append.mp hp with hp | hp
      · exact h1 p (by simp [hp])
      · rcases List.mem_append.mp hp with hp | hp
        · rw [List.eq_of_mem_replicate hp]; exact hB.mem
        · exact h1 p (by simp [hp])
    · rw [szL_app, szL_app, szL_rep]
      rw [szL_app, szL_app, hk] at h2
      have : k * B.1.toNat = (k - 1) * B.1.toNat + B.1.toNat := by
        conv => lhs; rw [show k = (k - 1) + 1 by omega, Nat.succ_mul]
      omega
    · rw [prL_app, prL_app, prL_rep]
      rw [prL_app, prL_app] at h3
      have : (k : Int) * B.2 = ((k - 1 : Nat) : Int) * B.2 + B.2 := by
        rw [show (k : Int) = ((k - 1 : Nat) : Int) + 1 by omega, Int.add_mul, Int.one_mul]
      generalize ((k - 1 : Nat) : Int) * B.2 = u at this ⊢
      generalize (k : Int) * B.2 = u2 at this hkB
      omega
theorem c_per {M : Nat} (hM : ∀ p ∈ ps, p.1 ≤ M) {t : Nat} (ht : (B.1.toNat - 1) * M < t) (ha : B.1.toNat ≤ t) : cN ps t = cN ps (t - B.1.toNat) + B.2 := by
  have b1 := P.sz B hB.mem
  have h1 := c_le P (t := t) (by omega) hB.mem
  obtain ⟨x, z, g1, g2, g3⟩ := with_best P hB hM ht
  have := c_low P (t := t - B.1.toNat) g1 (by omega)
  omega
end
/-- so many best packs fewer -/
theorem c_far {ps : List Pk} (P : Pks ps) {B : Pk} (hB : Best ps B) {M : Nat} (hM : ∀ p ∈ ps, p.1 ≤ M) (n : Nat) : ∀ k : Nat, k * B.1.toNat ≤ n → (k = 0 ∨ (B.1.toNat - 1) * M < n - k * B.1.toNat + B.1.toNat) → cN ps n = cN ps (n - k * B.1.toNat) + k * B.2
  | 0, _, _ => by simp
  | k + 1, h, h2 => by
    have b1 := P.sz B hB.mem
    have e : (k + 1) * B.1.toNat = k * B.1.toNat + B.1.toNat := Nat.succ_mul _ _
    rw [e] at h h2 ⊢
    have h2 : (B.1.toNat - 1) * M < n - (k * B.1.toNat + B.1.toNat) + B.1.toNat := h2.resolve_left (by omega)
    have ih := c_far P hB hM n k (by omega) (.inr (by omega))
    have h3 := c_per P hB hM (t := n - k * B.1.toNat) (by omega) (by omega)
    rw [ih, h3, Nat.sub_sub, Int.natCast_succ, Int.add_mul, Int.one_mul]
    omega
/-- down to where it ends -/
def downN (g : Nat → Bool) : Nat → Nat
  | 0 => 0
  | n + 1 => if g n then downN g n else n + 1
theorem down_skip {g : Nat → Bool} {m : Nat} : ∀ {n : Nat}, m ≤ n → (∀ i, m ≤ i → i < n → g i = true) → downN g n = downN g m
  | 0, h, _ => by obtain rfl : m = 0 := by omega
                  rfl
  | n + 1, h, h2 => by
    by_cases hm : m = n + 1
    · rw [hm]
    · rw [downN, if_pos (h2 n (by omega) (by omega))]
      exact down_skip (by omega) fun i h3 h4 => h2 i h3 (by omega)
theorem down_le (g : Nat → Bool) : ∀ n, downN g n ≤ n
  | 0 => Nat.le_refl _
  | n + 1 => by
    rw [downN]; split
    · have := down_le g n; omega
    · exact Nat.le_refl _
theorem down_all (g : Nat → Bool) : ∀ {n i : Nat}, downN g n ≤ i → i < n → g i = true
  | n + 1, i, h, h2 => by
    rw [downN] at h
    split at h
    · rename_i hg
      by_cases hi : i = n
      · rw [hi]; exact hg
      · exact down_all g h (by omega)
    · omega
theorem down_whO {c : Int → Option Bool} {f : Int → Option Int} {g : Nat → Bool} (hf : ∀ x, f x = some (x - 1)) (h0 : c 0 = some false) : ∀ {n : Nat}, (∀ i, i < n → c ((i : Int) + 1) = some (g i)) → whO c f (n : Int) = some ((downN g n : Nat) : Int)
  | 0, _ => whO_end h0
  | n + 1, h => by
    have h1 := h n (by omega)
    have e : ((n + 1 : Nat) : Int) = (n : Int) + 1 := by omega
    rw [e, downN]
    cases hg : g n with
    | true =>
      rw [hg] at h1
      rw [if_pos rfl]
      refine whO_step h1 (hf _) ?_
      rw [Int.add_sub_cancel]
      exact down_whO hf h0 fun i hi => h i (by omega)
    | false =>
      rw [hg] at h1
      rw [if_neg (by decide), e]
      exact whO_end h1
/-! the best pack -/
def bestF (b : Pk) (l : List Pk) : Pk := l.foldl (fun b q => if q.2 * b.1 < b.2 * q.1 then q else b) b
theorem bestF_mem : ∀ (l : List Pk) (b : Pk), bestF b l = b ∨ bestF b l ∈ l
  | [], b => .inl rfl
  | q :: l, b => by
    have e0 : bestF b (q :: l) = bestF (if q.2 * b.1 < b.2 * q.1 then q else b) l := rfl
    rw [e0]
    rcases bestF_mem l (if q.2 * b.1 < b.2 * q.1 then q else b) with h | h
    · rw [h]
      split
      · exact .inr List.mem_cons_self
      · exact .inl rfl
    · exact .inr (List.mem_cons_of_mem _ h)
theorem rt_trans {a b c : Pk} (hb : 0 < b.1) (ha : 0 < a.1) (hc : 0 < c.1) (h1 : a.2 * b.1 ≤ b.2 * a.1) (h2 : b.2 * c.1 ≤ c.2 * b.1) : a.2 * c.1 ≤ c.2 * a.1 := by
  have e1 : a.2 * b.1 * c.1 ≤ b.2 * a.1 * c.1 := Int.mul_le_mul_of_nonneg_right h1 (by omega)
  have e2 : b.2 * c.1 * a.1 ≤ c.2 * b.1 * a.1 := Int.mul_le_mul_of_nonneg_right h2 (by omega)
  refine Int.le_of_mul_le_mul_right (a := b.1) ?_ hb
  have e3 : a.2 * c.1 * b.1 = a.2 * b.1 * c.1 := by rw [Int.mul_right_comm]
  have e4 : b.2 * a.1 * c.1 = b.2 * c.1 * a.1 := by rw [Int.mul_right_comm]
  have e5 : c.2 * a.1 * b.1 = c.2 * b.1 * a.1 := by rw [Int.mul_right_comm]
  rw [e3, e5]
  omega
theorem bestF_le : ∀ (l : List Pk) (b : Pk), 0 < b.1 → (∀ p ∈ l, 0 < p.1) → (bestF b l).2 * b.1 ≤ b.2 * (bestF b l).1 ∧ ∀ p ∈ l, (bestF b l).2 * p.1 ≤ p.2 * (bestF b l).1
  | [], b, _, _ => ⟨Int.le_refl _, by simp⟩
  | q :: l, b, hb, hl => by
    have hq := hl q List.mem_cons_self
    have hl' := fun p hp => hl p (List.mem_cons_of_mem _ hp)
    have e : bestF b (q :: l) = bestF (if q.2 * b.1 < b.2 * q.1 then q else b) l := rfl
    rw [e]
    by_cases h : q.2 * b.1 < b.2 * q.1
    · rw [if_pos h]
      obtain ⟨h1, h2⟩ := bestF_le l q hq hl'
      have hp : 0 < (bestF q l).1 := by
        rcases bestF_mem l q with z | z
        · rw [z]; exact hq
        · exact hl' _ z
      refine ⟨rt_trans hq hp hb h1 (by omega), fun p hp2 => ?_⟩
      rcases List.mem_cons.mp hp2 with rfl | hp2
      · exact h1
      · exact h2 p hp2
    · rw [if_neg h]
      obtain ⟨h1, h2⟩ := bestF_le l b hb hl'
      have hp : 0 < (bestF b l).1 := by
        rcases bestF_mem l b with z | z
        · rw [z]; exact hb
        · exact hl' _ z
      refine ⟨h1, fun p hp2 => ?_⟩
      rcases List.mem_cons.mp hp2 with rfl | hp2
      · exact rt_trans hb hp hq h1 (by omega)
      · exact h2 p hp2
/-! sorted pairs -/
theorem sort_II (xs : List Pk) : sortE (eP2 eI eI) xs = some (xs.mergeSort fun p q => decide (p.1 < q.1 ∨ (p.1 = q.1 ∧ p.2 ≤ q.2))) := by
  have al : PySem.W.AllAlike (xs.map (eP2 eI eI)) := fun d hd e he => by
    obtain ⟨a, _, rfl⟩ := List.mem_map.mp hd
    obtain ⟨b, _, rfl⟩ := List.mem_map.mp he
    rfl
  have sr : PySem.W.Sortable (xs.map (eP2 eI eI)) := PySem.W.Sortable.tuples fun b => ⟨_, _, rfl⟩
  have e : PySem.W.dataLe false (eP2 eI eI) = fun p q : Pk => decide (p.1 < q.1 ∨ (p.1 = q.1 ∧ p.2 ≤ q.2)) := PySem.W.dataLe_ii (β := Pk) (fun p => p.1) (fun p => p.2)
  unfold sortE
  rw [if_pos ⟨al, .inl sr, fun x _ => (by show (PyData.tuple [.int x.1, .int x.2]).depth ≤ 60; simp [PyData.depth, PyData.depthAll])⟩, e]
theorem sorted_II (xs : List Pk) : (xs.mergeSort fun p q => decide (p.1 < q.1 ∨ (p.1 = q.1 ∧ p.2 ≤ q.2))).Pairwise (fun p q => p.1 < q.1 ∨ (p.1 = q.1 ∧ p.2 ≤ q.2)) := by
  have := List.pairwise_mergeSort (le := fun p q : Pk => decide (p.1 < q.1 ∨ (p.1 = q.1 ∧ p.2 ≤ q.2))) (fun a b c h1 h2 => by
    simp only [decide_eq_true_eq] at h1 h2 ⊢; omega) (fun a b => by
    simp only [Bool.or_eq_true, decide_eq_true_eq]; omega) xs
  exact this.imp fun h => of_decide_eq_true h
/-! dicts as lists of pairs -/
theorem putD_keys {α β : Type} [DecidableEq α] (kvs : List (α × β)) (k : α) (v : β) : (putD kvs k v).map (·.1) = if k ∈ kvs.map (·.1) then kvs.map (·.1) else kvs.map (·.1) ++ [k] := by
  have ha : (kvs.any fun kv => decide (kv.1 = k)) = decide (k ∈ kvs.map (·.1)) := by
    rw [Bool.eq_iff_iff, List.any_eq_true, decide_eq_true_eq, List.mem_map]
    exact ⟨fun ⟨x, h1, h2⟩ => ⟨x, h1, of_decide_eq_true h2⟩, fun ⟨x, h1, h2⟩ => ⟨x, h1, decide_eq_true h2⟩⟩
  unfold putD
  rw [ha]
  by_cases h : k ∈ kvs.map (·.1)
  · rw [if_pos (decide_eq_true h), if_pos h, List.map_map]
    refine List.map_congr_left fun p _ => ?_
    show (if p.1 = k then (p.1, v) else p).1 = p.1
    split <;> rfl
  · rw [if_neg (by rw [decide_eq_false h]; decide), if_neg h, List.map_append]; rfl
theorem putD_mem {α β : Type} [DecidableEq α] {kvs : List (α × β)} {k : α} {v : β} {p : α × β} (h : p ∈ putD kvs k v) : p ∈ kvs ∨ p = (k, v) := by
  unfold putD at h
  split at h
  · obtain ⟨q, hq, e⟩ := List.mem_map.mp h
    split at e
    · rename_i hk; exact .inr (by rw [← e, hk])
    · exact .inl (by rw [← e]; exact hq)
  · rcases List.mem_append.mp h with h | h
    · exact .inl h
    · exact .inr (List.mem_singleton.mp h)
theorem putD_len {α β : Type} [DecidableEq α] (kvs : List (α × β)) (k : α) (v : β) : kvs.length ≤ (putD kvs k v).length ∧ 1 ≤ (putD kvs k v).length ∧ (putD kvs k v).length ≤ kvs.length + 1 := by
  have e := congrArg List.length (putD_keys kvs k v)
  rw [List.length_map] at e
  split at e
  · rename_i h
    rw [List.length_map] at e
    have : 0 < (kvs.map (·.1)).length := List.length_pos_of_mem h
    rw [List.length_map] at this
    omega
  · rw [List.length_append, List.length_map, List.length_singleton] at e; omega
theorem putD_nodup {α β : Type} [DecidableEq α] {kvs : List (α × β)} (k : α) (v : β) (h : (kvs.map (·.1)).Nodup) : ((putD kvs k v).map (·.1)).Nodup := by
  rw [putD_keys]
  split
  · exact h
  · rename_i hk
    exact List.nodup_append.mpr ⟨h, by simp, fun a ha b hb z => by rw [List.mem_singleton] at hb; exact hk (by rw [← hb, ← z]; exact ha)⟩
theorem putO_ok {α β : Type} [DecidableEq α] {kvs : List (α × β)} (k : α) (v : β) (h : kvs.length ≤ 1000000) : putO kvs k v = some (putD kvs k v) := if_pos (szl h)
/-- sorted by their keys, which are apart -/
theorem sort_dict {kvs : List Pk} (h : (kvs.map (·.1)).Nodup) : ∃ ps, sortE (eP2 eI eI) kvs = some ps ∧ ps.Perm kvs ∧ ps.Pairwise (fun p q => p.1 < q.1) := by
  refine ⟨_, sort_II kvs, List.mergeSort_perm _ _, ?_⟩
  have h1 := sorted_II kvs
  have h2 : ((kvs.mergeSort fun p q => decide (p.1 < q.1 ∨ (p.1 = q.1 ∧ p.2 ≤ q.2))).map (·.1)).Nodup := ((List.mergeSort_perm _ _).map (fun p : Pk => p.1)).nodup_iff.mpr h
  rw [List.Nodup, List.pairwise_map] at h2
  exact (h1.and h2).imp fun ⟨a, b⟩ => by omega
end Law

namespace Law
open PySem PySem.Spec L2 Mini
/-- packs as they are drawn: rising sizes -/
structure Pq (ps : List Pk) : Prop extends Pks ps where
  srt : ps.Pairwise (fun p q => p.1 < q.1)
  len : ps.length ≤ 1000
section
variable {ps : List Pk} (P : Pks ps)
include P
theorem at_s {i : Nat} {p : Pk} (hp : p ∈ ps) : gI (ladC ps i) (max 0 (1 + (i : Int) - p.1)) = some (cN ps (i + 1 - p.1.toNat)) := by
  have := (P.sz p hp).1
  rw [show max 0 (1 + (i : Int) - p.1) = ((i + 1 - p.1.toNat : Nat) : Int) by omega]
  exact gI_nat (ladC_get ps (by omega))
theorem min_s (n : Nat) : minL (ps.map fun p => cN ps (n + 1 - p.1.toNat) + p.2) = some (cN ps (n + 1)) := by
  rw [← (next_min P n).1]
  congr 1
  refine List.map_congr_left fun p hp => ?_
  have := (P.sz p hp).1
  rw [ladC_len, ladC_getD ps (by omega)]
theorem lad_step (n : Nat) : ladC ps n ++ [cN ps (n + 1)] = ladC ps (n + 1) := by
  rw [ladC]
  congr 2
  unfold nextC
  rw [(next_min P n).1]; rfl
theorem ladder_s {n : Nat} (hn : n ≤ 900000) : S_cost_ladder ps n = some (ladC ps n) := by
  refine Ok.get ?_
  unfold S_cost_ladder
  refine Ok.lt (Ok.eq (rng2_int (by omega) (by omega) (by omega) (by omega)) ?_)
  have el : ((n : Int) + 1 - 1).toNat = n := by omega
  rw [el]
  refine Ok.forO (fun i found => found = ladC ps i) rfl (fun i t found hx hj => ?_) fun found hj => ?_
  · subst hj
    rw [List.getElem?_map] at hx
    obtain ⟨j, hj, rfl⟩ := Option.map_eq_some_iff.mp hx
    have hlt := (List.getElem?_eq_some_iff.mp hj).1
    rw [List.length_range] at hlt
    rw [List.getElem?_range hlt] at hj
    cases hj
    refine Ok.eq (mapO_some (g := fun p => cN ps (i + 1 - p.1.toNat) + p.2) fun p hp => ?_) (Ok.eq (min_s P i) (Ok.eq (appX_ok (by rw [ladC_len]; omega)) (Ok.ret (lad_step P i))))
    obtain ⟨size, price⟩ := p
    show (gI (ladC ps i) (max 0 (1 + (i : Int) - size))).bind _ = _
    rw [at_s P hp]; rfl
  · rw [List.length_map, List.length_range] at hj
    exact Ok.ret hj
/-- the best of them -/
def bestP (ps : List Pk) : Pk := bestF (ps.headD (1, 0)) (ps.drop 1)
theorem bestP_best : Best ps (bestP ps) := by
  cases ps with
  | nil => exact absurd rfl P.ne
  | cons b l =>
    have hb := P.sz b List.mem_cons_self
    obtain ⟨h1, h2⟩ := bestF_le l b (by omega) fun p hp => by have := P.sz p (List.mem_cons_of_mem _ hp); omega
    refine ⟨?_, fun p hp => ?_⟩
    · rcases bestF_mem l b with h | h
      · show bestF b l ∈ _; rw [h]; exact List.mem_cons_self
      · exact List.mem_cons_of_mem _ h
    · rcases List.mem_cons.mp hp with rfl | hp
      · exact h1
      · exact h2 p hp
theorem mul_s {x y : Int} (hx : x.natAbs < 2 ^ 100) (hy : y.natAbs < 2 ^ 100) : mulI x y = some (x * y) := mulI_b hx hy (by decide)
theorem bfold {l : List Pk} (hl : ∀ p ∈ l, p ∈ ps) : ∀ {b : Pk}, b ∈ ps → forO (fun ((size, price) : Pk) (best1 : Pk) => (mulI price best1.1).bind fun x => (mulI best1.2 size).bind fun x1 => (if decide (x < x1) then (lt (size, price) fun best2 => some best2) else (some best1) : Option Pk).bind fun best3 => some best3) l b = some (bestF b l) := by
  induction l with
  | nil => intro b hb; rfl
  | cons q l ih =>
    intro b hb
    have hq := hl q List.mem_cons_self
    have b1 := P.sz b hb
    have q1 := P.sz q hq
    obtain ⟨size, price⟩ := q
    dsimp only at q1
    rw [forO]
    dsimp only
    rw [mul_s P (by omega) (by omega), Option.bind_some, mul_s P (by omega) (by omega), Option.bind_some]
    have e : bestF b ((size, price) :: l) = bestF (if price * b.1 < b.2 * size then (size, price) else b) l := rfl
    rw [e]
    by_cases h : price * b.1 < b.2 * size
    · rw [if_pos (decide_eq_true h), if_pos h]
      exact ih (fun p hp => hl p (List.mem_cons_of_mem _ hp)) hq
    · rw [if_neg (by rw [decide_eq_false h]; decide), if_neg h]
      exact ih (fun p hp => hl p (List.mem_cons_of_mem _ hp)) hb
theorem best_s : S_best_pack ps = some (bestP ps) := by
  cases ps with
  | nil => exact absurd rfl P.ne
  | cons b l =>
    unfold S_best_pack
    rw [gI_0, Option.bind_some, cutG_1, List.drop_one, List.tail_cons, bfold P (fun p hp => List.mem_cons_of_mem _ hp) List.mem_cons_self]; rfl
end
section
variable {ps : List Pk} (P : Pq ps)
include P
/-- the greatest size -/
def maxP (ps : List Pk) : Nat := (ps.getLastD (1, 0)).1.toNat
theorem last_s : ∃ p ∈ ps, gI ps (-1) = some p ∧ p.1 = (maxP ps : Int) := by
  have := P.ne
  refine ⟨ps.getLast this, List.getLast_mem this, gI_last this, ?_⟩
  have h := P.sz _ (List.getLast_mem this)
  unfold maxP
  rw [List.getLastD_eq_getLast?, List.getLast?_eq_getLast this]
  show _ = (((ps.getLast this).1.toNat : Nat) : Int)
  omega
theorem maxP_le : ∀ p ∈ ps, p.1 ≤ (maxP ps : Int) := by
  obtain ⟨q, hq, h1, h2⟩ := last_s P
  intro p hp
  rw [← h2]
  have hne := P.ne
  rw [gI_last hne] at h1
  cases h1
  have e := List.dropLast_concat_getLast hne
  have hp' := hp
  rw [← e] at hp'
  have hs := P.srt
  rw [← e, List.pairwise_append] at hs
  rcases List.mem_append.mp hp' with h | h
  · have := hs.2.2 p h _ (List.mem_singleton.mpr rfl); omega
  · rw [List.mem_singleton.mp h]; exact Int.le_refl _
theorem max_b : 1 ≤ maxP ps ∧ maxP ps ≤ 40 := by
  obtain ⟨q, hq, h1, h2⟩ := last_s P
  have := P.sz q hq
  omega
def edgeN (ps : List Pk) : Nat := ((bestP ps).1.toNat - 1) * maxP ps
theorem best_b : 1 ≤ (bestP ps).1.toNat ∧ (bestP ps).1.toNat ≤ 40 ∧ (bestP ps).1 = (((bestP ps).1.toNat : Nat) : Int) ∧ 0 ≤ (bestP ps).2 ∧ (bestP ps).2 ≤ 1000000 := by
  have := P.sz _ (bestP_best P.toPks).mem
  omega
theorem edge_i : ((bestP ps).1 - 1) * (maxP ps : Int) = (edgeN ps : Int) := by
  obtain ⟨b1, b2, b3, _⟩ := best_b P
  unfold edgeN
  rw [Int.natCast_mul]
  congr 1
  omega
theorem edge_b : edgeN ps ≤ 1560 := by
  obtain ⟨b1, b2, b3, _⟩ := best_b P
  have := max_b P
  have : edgeN ps ≤ 39 * 40 := Nat.mul_le_mul (by omega) (by omega)
  omega
theorem turn_s : S_turning_point ps = some (edgeN ps : Int) := by
  obtain ⟨q, hq, h1, h2⟩ := last_s P
  obtain ⟨b1, b2, b3, _⟩ := best_b P
  have := max_b P
  unfold S_turning_point
  rw [best_s P.toPks, Option.bind_some, h1, Option.bind_some, mul_s P.toPks (by omega) (by omega), Option.bind_some, h2, edge_i P]
theorem far_s {n : Nat} (hn : n ≤ 10000000000000000000) : S_cost_far ps (n : Int) = some (cN ps n) := by
  obtain ⟨b1, b2, b3, b4, b5⟩ := best_b P
  have he := edge_b P
  have hB := bestP_best P.toPks
  refine Ok.get ?_
  unfold S_cost_far
  refine Ok.eq (best_s P.toPks) (Ok.lt ?_)
  dsimp only
  refine Ok.eq (turn_s P) (Ok.lt ?_)
  generalize ha : (bestP ps).1.toNat = a at *
  rw [b3]
  refine Ok.bind (P := fun m => ∃ k : Nat, m = (k : Int) ∧ k * a ≤ n ∧ n - k * a ≤ edgeN ps + a ∧ (k = 0 ∨ edgeN ps < n - k * a + a)) ?_ fun m hm => ?_
  · refine Ok.ite (fun h => ?_) fun h => ?_
    · have h := of_decide_eq_true h
      refine Ok.eq (divI_b (g := a) (n := 10) (by omega) (by omega) (by decide)) (Ok.ret ?_)
      have e : (n : Int) - ((edgeN ps : Int) + (a : Int)) + (a : Int) - 1 = ((n - edgeN ps - 1 : Nat) : Int) := by omega
      rw [e]
      refine ⟨(n - edgeN ps - 1) / a, by rw [Int.natCast_ediv], ?_⟩
      have h1 := Nat.div_mul_le_self (n - edgeN ps - 1) a
      have h2 := Nat.lt_div_mul_add (a := n - edgeN ps - 1) (b := a) (by omega)
      omega
    · have h := of_decide_eq_false h
      exact Ok.ret ⟨0, rfl, by omega, by omega, .inl rfl⟩
  · obtain ⟨k, rfl, h1, h2, h3⟩ := hm
    have kb : k ≤ n := by
      have : k * 1 ≤ k * a := Nat.mul_le_mul_left _ b1
      omega
    refine Ok.eq (mul_s P.toPks (by omega) (by omega)) ?_
    have e : (n : Int) - (k : Int) * (a : Int) = ((n - k * a : Nat) : Int) := by
      rw [← Int.natCast_mul]; omega
    rw [e]
    refine Ok.eq (ladder_s P.toPks (by omega)) (Ok.eq (ladC_last ps _) (Ok.eq (mul_s P.toPks (by omega) (by omega)) (Ok.ret ?_)))
    have := c_far P.toPks hB (maxP_le P) n k (by rw [ha]; exact h1) (h3.imp id fun h => by rw [ha]; unfold edgeN at h; rw [ha] at h; exact h)
    rw [this, ha]
end
/-- drawn packs -/
theorem packs_ok {st : Bx} (v : Tp st) {many most : Int} (h1 : 1 ≤ many) (h2 : many ≤ 10) (h3 : 1 ≤ most) (h4 : most ≤ 40) : Ok (S_law_packs st many most) (fun p => Pq p.1 ∧ (p.1.length : Int) ≤ many ∧ (∀ q ∈ p.1, q.1 ≤ most ∧ q.2 ≤ 1000) ∧ Tp p.2) := by
  unfold S_law_packs
  refine Ok.take v (by omega) (by omega) fun x st1 x0 x1 v1 => ?_
  dsimp only
  refine Ok.eq (rng1_int (by omega) (by omega)) ?_
  refine Ok.forO (fun i (s : List Pk × Bx) => (s.1.map (·.1)).Nodup ∧ (∀ q ∈ s.1, 1 ≤ q.1 ∧ q.1 ≤ most ∧ 0 ≤ q.2 ∧ q.2 ≤ 1000) ∧ s.1.length ≤ i ∧ (0 < i → 1 ≤ s.1.length) ∧ Tp s.2) ⟨by simp, by simp, by simp, by omega, v1⟩ (fun i k s hx hj => ?_) fun s hj => ?_
  · obtain ⟨found, st2⟩ := s
    obtain ⟨j1, j2, j3, j4, j5⟩ := hj
    have hi := (List.getElem?_eq_some_iff.mp hx).1
    rw [List.length_map, List.length_range] at hi
    dsimp only at j1 j2 j3 j4 j5 ⊢
    refine Ok.take j5 (by omega) (by omega) fun y st3 y0 y1 v3 => ?_
    dsimp only
    have h30 : ∃ m, gI [(4 : Int), 30, 1001] y = some m ∧ 1 ≤ m ∧ m ≤ 1001 := by
      obtain ⟨m, e, hm, _⟩ := gI_int (xs := [(4 : Int), 30, 1001]) y0 (by simpa using y1)
      refine ⟨m, e, ?_⟩
      simp only [List.mem_cons, List.not_mem_nil, or_false] at hm
      omega
    obtain ⟨m, em, m1, m2⟩ := h30
    refine Ok.eq em ?_
    refine Ok.take v3 (by omega) (by omega) fun pr st4 p0 p1 v4 => ?_
    dsimp only
    refine Ok.take v4 (by omega) (by omega) fun sz st5 z0 z1 v5 => ?_
    dsimp only
    refine Ok.eq (putO_ok _ _ (by omega)) (Ok.ret ⟨putD_nodup _ _ j1, fun q hq => ?_, ?_, fun _ => (putD_len _ _ _).2.1, v5⟩)
    · rcases putD_mem hq with hq | rfl
      · exact j2 q hq
      · dsimp only; omega
    · have := (putD_len found (1 + sz) pr).2.2
      dsimp only; omega
  · obtain ⟨found, st2⟩ := s
    obtain ⟨j1, j2, j3, j4, j5⟩ := hj
    rw [List.length_map, List.length_range] at j3 j4
    dsimp only at j1 j2 j3 j4 j5 ⊢
    obtain ⟨ps, e, pe, srt⟩ := sort_dict j1
    have pl := pe.length_eq
    have m : ∀ q ∈ ps, 1 ≤ q.1 ∧ q.1 ≤ most ∧ 0 ≤ q.2 ∧ q.2 ≤ 1000 := fun q hq => j2 q (pe.mem_iff.mp hq)
    refine Ok.eq e (Ok.ret ⟨⟨⟨fun z => ?_, fun q hq => ?_⟩, srt, ?_⟩, ?_, fun q hq => ?_, j5⟩)
    · have z : ps = [] := z
      rw [z] at pl; simp at pl; have := j4 (by omega); omega
    · have := m q hq; omega
    · dsimp only; omega
    · dsimp only; omega
    · have := m q hq; omega
end Law

namespace Law
open PySem PySem.Spec L2 Mini
/-! packs with other prices -/
theorem lift_map {α β : Type} {f : α → β} {ps : List α} : ∀ {l' : List β}, (∀ q ∈ l', q ∈ ps.map f) → ∃ l : List α, (∀ p ∈ l, p ∈ ps) ∧ l' = l.map f
  | [], _ => ⟨[], by simp, rfl⟩
  | q :: l', h => by
    obtain ⟨l, h1, h2⟩ := lift_map (l' := l') fun z hz => h z (List.mem_cons_of_mem _ hz)
    obtain ⟨p, hp, e⟩ := List.mem_map.mp (h q List.mem_cons_self)
    refine ⟨p :: l, fun z hz => ?_, by rw [List.map_cons, e, h2]⟩
    rcases List.mem_cons.mp hz with rfl | hz
    · exact hp
    · exact h1 z hz
theorem szL_map {f : Pk → Pk} (hf : ∀ p, (f p).1 = p.1) : ∀ l : List Pk, szL (l.map f) = szL l
  | [] => rfl
  | p :: l => by rw [List.map_cons, szL, szL, szL_map hf l, hf]
theorem prL_map {f : Pk → Pk} {g : Int} (hf : ∀ p, (f p).2 = g * p.2) : ∀ l : List Pk, prL (l.map f) = g * prL l
  | [] => by simp [prL]
  | p :: l => by rw [List.map_cons, prL, prL, prL_map hf l, hf, Int.mul_add]
/-- the least cost, told by rows of packs -/
theorem c_is {ps : List Pk} (P : Pks ps) {t : Nat} {v : Int} (h1 : ∃ l, (∀ p ∈ l, p ∈ ps) ∧ t ≤ szL l ∧ prL l = v) (h2 : ∀ l, (∀ p ∈ l, p ∈ ps) → t ≤ szL l → v ≤ prL l) : cN ps t = v := by
  obtain ⟨l, a, b, c⟩ := h1
  obtain ⟨l', a', b', c'⟩ := c_ach P t
  have := c_low P a b
  have := h2 l' a' b'
  omega
theorem Pks.map {ps : List Pk} (P : Pks ps) {f : Pk → Pk} (hf : ∀ p, (f p).1 = p.1) (h2 : ∀ p ∈ ps, 0 ≤ (f p).2 ∧ (f p).2 ≤ 1000000) : Pks (ps.map f) :=
  ⟨fun z => P.ne (List.map_eq_nil_iff.mp z), fun q hq => by
    obtain ⟨p, hp, rfl⟩ := List.mem_map.mp hq
    have := P.sz p hp
    have := h2 p hp
    rw [hf]; omega⟩
/-- so many times the prices -/
theorem c_times {ps : List Pk} (P : Pks ps) {f : Pk → Pk} {g : Int} (hg : 0 ≤ g) (hf : ∀ p, (f p).1 = p.1) (hp : ∀ p, (f p).2 = g * p.2) (Q : Pks (ps.map f)) (t : Nat) : cN (ps.map f) t = g * cN ps t := by
  refine c_is Q ?_ fun l hl ht => ?_
  · obtain ⟨l, a, b, c⟩ := c_ach P t
    exact ⟨l.map f, fun q hq => by obtain ⟨p, h1, rfl⟩ := List.mem_map.mp hq; exact List.mem_map.mpr ⟨p, a p h1, rfl⟩, by rw [szL_map hf]; exact b, by rw [prL_map hp, c]⟩
  · obtain ⟨l', a, rfl⟩ := lift_map hl
    rw [szL_map hf] at ht
    rw [prL_map hp]
    exact Int.mul_le_mul_of_nonneg_left (c_low P a ht) hg
/-- prices that are the sizes: the cost is an amount -/
theorem prL_plain {f : Pk → Pk} {ps : List Pk} (P : Pks ps) (hf : ∀ p, f p = (p.1, p.1)) : ∀ {l : List Pk}, (∀ p ∈ l, p ∈ ps) → prL (l.map f) = (szL l : Int)
  | [], _ => rfl
  | p :: l, h => by
    have := P.sz p (h p List.mem_cons_self)
    rw [List.map_cons, prL, szL, prL_plain P hf fun q hq => h q (List.mem_cons_of_mem _ hq), hf]
    show p.1 + _ = _
    omega
theorem c_plain {ps : List Pk} (P : Pks ps) {f : Pk → Pk} (hf : ∀ p, f p = (p.1, p.1)) (Q : Pks (ps.map f)) (t : Nat) : ∃ l, (∀ p ∈ l, p ∈ ps) ∧ t ≤ szL l ∧ cN (ps.map f) t = (szL l : Int) ∧ ∀ l', (∀ p ∈ l', p ∈ ps) → t ≤ szL l' → szL l ≤ szL l' := by
  have h1 : ∀ p, (f p).1 = p.1 := fun p => by rw [hf]
  obtain ⟨l', a, b, c⟩ := c_ach Q t
  obtain ⟨l, a', rfl⟩ := lift_map a
  rw [szL_map h1] at b
  rw [prL_plain P hf a'] at c
  refine ⟨l, a', b, c.symm, fun l2 g1 g2 => ?_⟩
  have := c_low Q (t := t) (l := l2.map f) (fun q hq => by obtain ⟨p, h, rfl⟩ := List.mem_map.mp hq; exact List.mem_map.mpr ⟨p, g1 p h, rfl⟩) (by rw [szL_map h1]; exact g2)
  rw [prL_plain P hf g1] at this
  omega
/-- all prices 1: as few as can be -/
theorem prL_ones {f : Pk → Pk} (hf : ∀ p, f p = (p.1, 1)) : ∀ l : List Pk, prL (l.map f) = (l.length : Int)
  | [] => rfl
  | p :: l => by rw [List.map_cons, prL, prL_ones hf l, hf, List.length_cons]; show (1 : Int) + _ = _; omega
theorem szL_max {M : Nat} : ∀ {l : List Pk}, (∀ p ∈ l, p.1 ≤ M) → szL l ≤ l.length * M
  | [], _ => by simp [szL]
  | p :: l, h => by
    have := szL_max fun q hq => h q (List.mem_cons_of_mem _ hq)
    have := h p List.mem_cons_self
    rw [szL, List.length_cons, Nat.succ_mul]; omega
theorem c_ones {ps : List Pk} (P : Pks ps) {f : Pk → Pk} (hf : ∀ p, f p = (p.1, 1)) (Q : Pks (ps.map f)) {M : Nat} (hM0 : 1 ≤ M) (hM : ∀ p ∈ ps, p.1 ≤ M) {q : Pk} (hq : q ∈ ps) (hq2 : q.1 = M) (t : Nat) : cN (ps.map f) t = (((t + M - 1) / M : Nat) : Int) := by
  have h1 : ∀ p, (f p).1 = p.1 := fun p => by rw [hf]
  have d1 := Nat.div_mul_le_self (t + M - 1) M
  have d2 := Nat.lt_div_mul_add (a := t + M - 1) (b := M) (by omega)
  refine c_is Q ⟨(List.replicate ((t + M - 1) / M) q).map f, fun z hz => ?_, ?_, ?_⟩ fun l hl ht => ?_
  · obtain ⟨p, hp, rfl⟩ := List.mem_map.mp hz
    rw [List.eq_of_mem_replicate hp]
    exact List.mem_map.mpr ⟨q, hq, rfl⟩
  · rw [szL_map h1, szL_rep, show q.1.toNat = M by omega]; omega
  · rw [prL_ones hf, List.length_replicate]
  · obtain ⟨l', a, rfl⟩ := lift_map hl
    rw [szL_map h1] at ht
    rw [prL_ones hf]
    have h3 := szL_max (M := M) fun p hp => hM p (a p hp)
    by_cases hc : (t + M - 1) / M ≤ l'.length
    · omega
    · have : (l'.length + 1) * M ≤ (t + M - 1) / M * M := Nat.mul_le_mul_right _ (by omega)
      rw [Nat.succ_mul] at this
      omega
/-- packs that none beats -/
theorem c_good {ps : List Pk} (P : Pks ps) {gd : Pk → Bool} (hg : ∀ p ∈ ps, gd p = true ↔ ¬ ∃ o ∈ ps, p.1 < o.1 ∧ o.2 ≤ p.2) : Pks (ps.filter gd) ∧ ∀ t, cN (ps.filter gd) t = cN ps t := by
  have dom : ∀ (n : Nat) (p : Pk), p ∈ ps → (40 - p.1).toNat ≤ n → ∃ o ∈ ps.filter gd, p.1 ≤ o.1 ∧ o.2 ≤ p.2 := by
    intro n
    induction n with
    | zero =>
      intro p hp hn
      refine ⟨p, List.mem_filter.mpr ⟨hp, (hg p hp).mpr fun ⟨o, ho, h1, _⟩ => ?_⟩, Int.le_refl _, Int.le_refl _⟩
      have := P.sz o ho
      omega
    | succ n ih =>
      intro p hp hn
      by_cases hb : ∃ o ∈ ps, p.1 < o.1 ∧ o.2 ≤ p.2
      · obtain ⟨o, ho, h1, h2⟩ := hb
        have := P.sz o ho
        obtain ⟨r, hr, g1, g2⟩ := ih o ho (by omega)
        exact ⟨r, hr, by omega, by omega⟩
      · exact ⟨p, List.mem_filter.mpr ⟨hp, (hg p hp).mpr hb⟩, Int.le_refl _, Int.le_refl _⟩
  have Q : Pks (ps.filter gd) := by
    refine ⟨fun z => ?_, fun p hp => P.sz p ((List.mem_filter.mp hp).1)⟩
    obtain ⟨p, hp⟩ := List.exists_mem_of_ne_nil _ P.ne
    obtain ⟨o, ho, _⟩ := dom _ p hp (Nat.le_refl _)
    rw [z] at ho
    cases ho
  have up : ∀ {l : List Pk}, (∀ p ∈ l, p ∈ ps) → ∃ l', (∀ p ∈ l', p ∈ ps.filter gd) ∧ szL l ≤ szL l' ∧ prL l' ≤ prL l := by
    intro l
    induction l with
    | nil => intro _; exact ⟨[], by simp, Nat.le_refl _, Int.le_refl _⟩
    | cons p l ih =>
      intro h
      obtain ⟨l', a, b, c⟩ := ih fun q hq => h q (List.mem_cons_of_mem _ hq)
      obtain ⟨o, ho, g1, g2⟩ := dom _ p (h p List.mem_cons_self) (Nat.le_refl _)
      refine ⟨o :: l', fun q hq => ?_, by rw [szL, szL]; omega, by rw [prL, prL]; omega⟩
      rcases List.mem_cons.mp hq with rfl | hq
      · exact ho
      · exact a q hq
  refine ⟨Q, fun t => c_is Q ?_ fun l hl ht => ?_⟩
  · obtain ⟨l, a, b, c⟩ := c_ach P t
    obtain ⟨l', a', b', c'⟩ := up a
    refine ⟨l', a', by omega, ?_⟩
    have := c_low P (t := t) (l := l') (fun p hp => (List.mem_filter.mp (a' p hp)).1) (by omega)
    omega
  · exact c_low P (fun p hp => (List.mem_filter.mp (hl p hp)).1) ht
/-! a while by two measures -/
theorem whO_lex {S : Type} {c : S → Option Bool} {f : S → Option S} (J : S → Prop) (m1 m2 : S → Nat) (step : ∀ s, J s → c s = some false ∨ (c s = some true ∧ ∃ t, f s = some t ∧ J t ∧ (m1 t < m1 s ∨ (m1 t = m1 s ∧ m2 t < m2 s)))) : ∀ s, J s → ∃ t, whO c f s = some t ∧ J t ∧ c t = some false := by
  have key : ∀ (a b : Nat) (s : S), m1 s = a → m2 s = b → J s → ∃ t, whO c f s = some t ∧ J t ∧ c t = some false := by
    intro a
    induction a using Nat.strongRecOn with
    | ind a iha =>
      intro b
      induction b using Nat.strongRecOn with
      | ind b ihb =>
        intro s e1 e2 j
        rcases step s j with e | ⟨e, t, ht, jt, l⟩
        · exact ⟨s, whO_end e, j, e⟩
        · have : ∃ r, whO c f t = some r ∧ J r ∧ c r = some false := by
            rcases l with l | ⟨l1, l2⟩
            · exact iha _ (by omega) _ t rfl rfl jt
            · exact ihb _ (by omega) t (by omega) rfl jt
          obtain ⟨r, r1, r2, r3⟩ := this
          exact ⟨r, whO_step e ht r1, r2, r3⟩
  exact fun s j => key _ _ s rfl rfl j
end Law

namespace Law
open PySem PySem.Spec L2 Mini
abbrev Fl0 := List (Option Int)
def nnF : Fl0 → Nat
  | [] => 0
  | none :: f => nnF f + 1
  | some _ :: f => nnF f
def smF : Fl0 → Nat
  | [] => 0
  | none :: f => smF f
  | some x :: f => x.toNat + smF f
theorem nnF_none : ∀ {f : Fl0} {r : Nat} {a : Int}, f[r]? = some none → nnF (f.set r (some a)) + 1 = nnF f
  | [], r, a, h => by simp at h
  | x :: f, 0, a, h => by
    simp at h; subst h; rfl
  | x :: f, r + 1, a, h => by
    have ih := nnF_none (f := f) (r := r) (a := a) (by simpa using h)
    cases x <;> (rw [List.set_cons_succ, nnF, nnF]; omega)
theorem nnF_some : ∀ {f : Fl0} {r : Nat} {a x : Int}, f[r]? = some (some x) → nnF (f.set r (some a)) = nnF f ∧ smF (f.set r (some a)) + x.toNat = smF f + a.toNat
  | [], r, a, x, h => by simp at h
  | y :: f, 0, a, x, h => by
    simp at h; subst h
    rw [List.set_cons_zero, nnF, nnF, smF, smF]; exact ⟨rfl, by omega⟩
  | y :: f, r + 1, a, x, h => by
    obtain ⟨i1, i2⟩ := nnF_some (f := f) (r := r) (a := a) (x := x) (by simpa using h)
    cases y <;> (rw [List.set_cons_succ, nnF, nnF, smF, smF]; omega)
/-- each entry is an amount of that rest -/
def FA (ps : List Pk) (m : Nat) (f : Fl0) : Prop := f.length = m ∧ ∀ (r : Nat) (e : Int), f[r]? = some (some e) → ∃ l : List Pk, (∀ p ∈ l, p ∈ ps) ∧ (szL l : Int) = e ∧ szL l % m = r
def Bet (g f : Fl0) : Prop := ∀ (r : Nat) (e : Int), f[r]? = some (some e) → ∃ e', g[r]? = some (some e') ∧ e' ≤ e
theorem Bet.refl (f : Fl0) : Bet f f := fun r e h => ⟨e, h, Int.le_refl _⟩
theorem Bet.trans {f g h : Fl0} (a : Bet h g) (b : Bet g f) : Bet h f := fun r e x => by
  obtain ⟨e1, h1, h2⟩ := b r e x
  obtain ⟨e2, h3, h4⟩ := a r e1 h1
  exact ⟨e2, h3, by omega⟩
def FB (ps : List Pk) (m : Nat) (S : Pk → Prop) (f : Fl0) : Prop := ∀ l : List Pk, (∀ p ∈ l, p ∈ ps ∧ S p) → ∃ e, f[szL l % m]? = some (some e) ∧ e ≤ (szL l : Int)
theorem FB.bet {ps : List Pk} {m : Nat} {S : Pk → Prop} {f g : Fl0} (h : FB ps m S f) (b : Bet g f) : FB ps m S g := fun l hl => by
  obtain ⟨e, h1, h2⟩ := h l hl
  obtain ⟨e', h3, h4⟩ := b _ _ h1
  exact ⟨e', h3, by omega⟩
def Cl (m : Nat) (s : Int) (f : Fl0) (r : Nat) : Prop := ∀ e : Int, f[r]? = some (some e) → ∃ e', f[(e + s).toNat % m]? = some (some e') ∧ e' ≤ e + s
theorem szL_split (p : Pk) : ∀ l : List Pk, szL l = szL (l.filter fun q => decide (q ≠ p)) + (l.filter fun q => decide (q = p)).length * p.1.toNat
  | [] => by simp [szL]
  | q :: l => by
    have ih := szL_split p l
    by_cases h : q = p
    · subst h
      rw [List.filter_cons_of_neg (by simp), List.filter_cons_of_pos (by simp), szL, List.length_cons, Nat.succ_mul]
      omega
    · rw [List.filter_cons_of_pos (by simp [h]), List.filter_cons_of_neg (by simp [h]), szL, szL]
      omega
section
variable {ps : List Pk} (P : Pks ps) {m : Nat}
include P
/-- one more pack -/
theorem FB.more {S : Pk → Prop} {f : Fl0} {p : Pk} (hp : p ∈ ps) (a : FA ps m f) (b : FB ps m S f) (c : ∀ r, r < m → Cl m p.1 f r) : FB ps m (fun q => S q ∨ q = p) f := by
  intro l hl
  have p1 := P.sz p hp
  rw [szL_split p l]
  generalize (l.filter fun q => decide (q = p)).length = k
  have b0 := b (l.filter fun q => decide (q ≠ p)) fun q hq => by
    obtain ⟨h1, h2⟩ := List.mem_filter.mp hq
    exact ⟨(hl q h1).1, (hl q h1).2.resolve_right (of_decide_eq_true h2)⟩
  generalize szL (l.filter fun q => decide (q ≠ p)) = x at b0
  induction k with
  | zero => simpa using b0
  | succ k ih =>
    obtain ⟨e, h1, h2⟩ := ih
    have hr := (List.getElem?_eq_some_iff.mp h1).1
    rw [a.1] at hr
    obtain ⟨l', g1, g2, g3⟩ := a.2 _ _ h1
    obtain ⟨e', h3, h4⟩ := c _ hr e h1
    have e1 : (e + p.1).toNat % m = (x + (k + 1) * p.1.toNat) % m := by
      rw [← g2, show ((szL l' : Int) + p.1).toNat = szL l' + p.1.toNat by omega, Nat.succ_mul, ← Nat.add_assoc, Nat.add_mod, g3, ← Nat.add_mod]
    rw [e1] at h3
    refine ⟨e', h3, ?_⟩
    rw [Nat.succ_mul]
    omega
/-- the entry that a step makes -/
theorem FA.set {f : Fl0} {p : Pk} (hp : p ∈ ps) (a : FA ps m f) {r : Nat} {e : Int} (h : f[r]? = some (some e)) : FA ps m (f.set ((e + p.1).toNat % m) (some (e + p.1))) := by
  have p1 := P.sz p hp
  refine ⟨by rw [List.length_set]; exact a.1, fun j x hx => ?_⟩
  by_cases hj : (e + p.1).toNat % m = j
  · subst hj
    have hlt := (List.getElem?_eq_some_iff.mp hx).1
    rw [List.length_set] at hlt
    rw [List.getElem?_set_self hlt] at hx
    cases hx
    obtain ⟨l, g1, g2, g3⟩ := a.2 _ _ h
    refine ⟨p :: l, fun q hq => ?_, by rw [szL]; omega, by rw [szL]; congr 1; omega⟩
    rcases List.mem_cons.mp hq with rfl | hq
    · exact hp
    · exact g1 q hq
  · rw [List.getElem?_set_ne hj] at hx
    exact a.2 j x hx
/-- what is left over: the least entry from the floor -/
theorem over_is {f : Fl0} (hm : 1 ≤ m) (hmp : ∃ p ∈ ps, p.1 = m) (a : FA ps m f) (b : FB ps m (fun _ => True) f) (s : Nat) {v : Int → Int} (hv : ∀ e, v e = if (s : Int) ≤ e then e - s else (e - s) % m) {rows : List Int}
    (hr : rows = (f.filterMap id).map v) {w : Int} (hw : minL rows = some w) {l : List Pk} (hl : ∀ p ∈ l, p ∈ ps) (hs : s ≤ szL l) (hmin : ∀ l', (∀ p ∈ l', p ∈ ps) → s ≤ szL l' → szL l ≤ szL l') : (s : Int) + w = (szL l : Int) := by
  have hne : rows ≠ [] := fun z => by rw [z] at hw; cases hw
  obtain ⟨w', hw', h1, h2⟩ := minL_ok hne
  rw [hw] at hw'
  cases hw'
  have lo : (szL l : Int) ≤ s + w := by
    rw [hr] at h1
    obtain ⟨e, he, rfl⟩ := List.mem_map.mp h1
    obtain ⟨o, ho, ho2⟩ := List.mem_filterMap.mp he
    obtain ⟨r, hr2⟩ := List.getElem?_of_mem ho
    have ho3 : o = some e := ho2
    rw [ho3] at hr2
    obtain ⟨l', g1, g2, g3⟩ := a.2 _ _ hr2
    rw [hv]
    by_cases hc : (s : Int) ≤ e
    · rw [if_pos hc]
      have := hmin l' g1 (by omega)
      omega
    · rw [if_neg hc]
      obtain ⟨q, hq, hqm⟩ := hmp
      -- so many of the least pack more
      have d := Int.emod_add_mul_ediv (e - s) m
      have d0 := Int.emod_nonneg (e - s) (b := (m : Int)) (by omega)
      have d1 := Int.emod_lt_of_pos (e - s) (b := (m : Int)) (by omega)
      have k0 : (e - s) / (m : Int) < 0 := Int.ediv_neg_of_neg_of_pos (by omega) (by omega)
      obtain ⟨k, hk⟩ : ∃ k : Nat, (e - s) / (m : Int) = -(k : Int) := ⟨(-((e - s) / (m : Int))).toNat, by omega⟩
      rw [hk] at d
      have e2 : (m : Int) * -(k : Int) = -((k * m : Nat) : Int) := by rw [Int.mul_neg, Int.natCast_mul, Int.mul_comm]
      rw [e2] at d
      have sz : szL (l' ++ List.replicate k q) = szL l' + k * m := by rw [szL_app, szL_rep, show q.1.toNat = m by omega]
      have := hmin (l' ++ List.replicate k q) (fun p hp => by
        rcases List.mem_append.mp hp with hp | hp
        · exact g1 p hp
        · rw [List.eq_of_mem_replicate hp]; exact hq) (by rw [sz]; omega)
      rw [sz] at this
      omega
  have hi : (s : Int) + w ≤ szL l := by
    obtain ⟨e, h3, h4⟩ := b l fun p hp => ⟨hl p hp, trivial⟩
    have hmem : v e ∈ rows := by
      rw [hr]
      exact List.mem_map.mpr ⟨e, List.mem_filterMap.mpr ⟨some e, List.mem_of_getElem? h3, rfl⟩, rfl⟩
    have hwe := (h2 w).mp (Int.le_refl _) _ hmem
    rw [hv] at hwe
    by_cases hc : (s : Int) ≤ e
    · rw [if_pos hc] at hwe; omega
    · rw [if_neg hc] at hwe
      obtain ⟨l', g1, g2, g3⟩ := a.2 _ _ h3
      have e3 : (e - s) % (m : Int) = ((szL l : Int) - s) % (m : Int) := by
        have : (e : Int) % (m : Int) = (szL l : Int) % (m : Int) := by
          rw [← g2, ← Int.natCast_emod, ← Int.natCast_emod, g3]
        rw [Int.sub_emod, this, ← Int.sub_emod]
      have e4 : ((szL l : Int) - s) % (m : Int) ≤ (szL l : Int) - s := by
        have d := Int.emod_add_mul_ediv ((szL l : Int) - s) m
        have := Int.ediv_nonneg (a := (szL l : Int) - s) (b := (m : Int)) (by omega) (by omega)
        have : 0 ≤ (m : Int) * (((szL l : Int) - s) / m) := Int.mul_nonneg (by omega) this
        omega
      omega
  omega
end
end Law

namespace Law
open PySem PySem.Spec L2 Mini
theorem setI_at {α : Type} {l : List α} {k : Nat} {v : α} (h : k < l.length) : setI l (k : Int) v = some (l.set k v) := by
  unfold setI ixN
  rw [if_pos (by omega), if_pos (by omega), Int.toNat_natCast]; rfl
theorem repL_1 {α : Type} (c : α) {n : Nat} (h : n ≤ 100000) : repL [c] (n : Int) = some (List.replicate n c) := by
  unfold repL
  rw [if_pos ⟨by omega, by omega, by simp; unfold sizeLine; omega⟩, Int.toNat_natCast]
  congr 1
  induction n with
  | zero => rfl
  | succ n ih => rw [List.replicate_succ, List.flatten_cons, ih (by omega)]; rfl
/-! sums over what is bought -/
def dG (g : Pk → Int) : List Int → List Pk → Int
  | n :: b, p :: ps => n * g p + dG g b ps
  | _, _ => 0
theorem dG_zip (g : Pk → Int) : ∀ (b : List Int) (ps : List Pk), ((b.zip ps).map fun z => z.1 * g z.2).sum = dG g b ps
  | [], ps => rfl
  | n :: b, [] => rfl
  | n :: b, p :: ps => by rw [List.zip_cons_cons, List.map_cons, List.sum_cons, dG_zip g b ps]; rfl
theorem dG_set (g : Pk → Int) : ∀ {b : List Int} {ps : List Pk} {k : Nat} {x : Int} {p : Pk}, b[k]? = some x → ps[k]? = some p → dG g (b.set k (x + 1)) ps = dG g b ps + g p
  | [], ps, k, x, p, h, _ => by simp at h
  | n :: b, [], k, x, p, _, h => by simp at h
  | n :: b, q :: ps, 0, x, p, h1, h2 => by
    simp at h1 h2
    subst h1 h2
    rw [List.set_cons_zero, dG, dG, Int.add_mul, Int.one_mul]; omega
  | n :: b, q :: ps, k + 1, x, p, h1, h2 => by
    rw [List.set_cons_succ, dG, dG, dG_set g (b := b) (ps := ps) (k := k) (by simpa using h1) (by simpa using h2)]; omega
theorem dG_zero (g : Pk → Int) : ∀ (n : Nat) (ps : List Pk), dG g (List.replicate n 0) ps = 0
  | 0, _ => rfl
  | n + 1, [] => rfl
  | n + 1, p :: ps => by rw [List.replicate_succ, dG, dG_zero g n ps]; omega
section
variable {ps : List Pk} (P : Pks ps)
include P
theorem zip_b {b : List Int} (hb : ∀ x ∈ b, 0 ≤ x ∧ x ≤ 1000000) {z : Int × Pk} (hz : z ∈ b.zip ps) : z.1.natAbs < 2 ^ 100 ∧ z.2.1.natAbs < 2 ^ 100 ∧ z.2.2.natAbs < 2 ^ 100 := by
  obtain ⟨n, p⟩ := z
  have h1 := hb n (List.of_mem_zip hz).1
  have h2 := P.sz p (List.of_mem_zip hz).2
  dsimp only
  omega
theorem amount_s {b : List Int} (hb : ∀ x ∈ b, 0 ≤ x ∧ x ≤ 1000000) : S_amount_of ps b = some (dG (·.1) b ps) := by
  unfold S_amount_of
  rw [mapO_some (g := fun z : Int × Pk => z.1 * z.2.1) fun z hz => ?_]
  · rw [Option.bind_some, dG_zip (fun p => p.1)]
  · have := zip_b P hb hz
    obtain ⟨n, s, u⟩ := z
    dsimp only at this ⊢
    rw [mul_s P this.1 this.2.1]; rfl
theorem price_s {b : List Int} (hb : ∀ x ∈ b, 0 ≤ x ∧ x ≤ 1000000) : S_price_of ps b = some (dG (·.2) b ps) := by
  unfold S_price_of
  rw [mapO_some (g := fun z : Int × Pk => z.1 * z.2.2) fun z hz => ?_]
  · rw [Option.bind_some, dG_zip (fun p => p.2)]
  · have := zip_b P hb hz
    obtain ⟨n, s, u⟩ := z
    dsimp only at this ⊢
    rw [mul_s P this.1 this.2.2]; rfl
/-- what is bought: enough, and as cheap as can be -/
theorem cheapest_s (hlen : ps.length ≤ 1000) {s : Nat} (hs : s ≤ 100000) : ∃ b, S_cheapest ps (s : Int) = some b ∧ b.length = ps.length ∧ (∀ x ∈ b, 0 ≤ x ∧ x ≤ s) ∧ (s : Int) ≤ dG (·.1) b ps ∧ dG (·.2) b ps = cN ps s := by
  have main : Ok (S_cheapest ps (s : Int)) (fun b => b.length = ps.length ∧ (∀ x ∈ b, 0 ≤ x ∧ x ≤ s) ∧ (s : Int) ≤ dG (·.1) b ps ∧ dG (·.2) b ps = cN ps s) := by
    unfold S_cheapest
    refine Ok.eq (ladder_s P (by omega)) (Ok.eq (repL_1 0 (by omega)) ?_)
    have J := whO_inv (c := fun ((s2, found1) : Int × List Int) => some (decide (0 < s2))) (f := fun ((s2, found1) : Int × (List Int)) =>
      (fmapO (fun ((i, (size, price)) : (Int × (Int × Int))) => (gI (ladC ps s) (max 0 (s2 - size))).bind fun x =>
      (gI (ladC ps s) s2).bind fun x1 =>
      if decide ((x + price) = x1) then (some (some i)) else some none) (enumS ps)).bind fun x2 =>
      (gI x2 0).bind fun k =>
      (gI found1 k).bind fun old =>
      lt (old + 1) fun w1 =>
      (setI found1 k w1).bind fun found2 =>
      (gI ps k).bind fun x3 =>
      lt (max 0 (s2 - x3.1)) fun s3 =>
      some (s3, found2))
      (fun z => ∃ n : Nat, z.1 = (n : Int) ∧ n ≤ s ∧ z.2.length = ps.length ∧ (∀ x ∈ z.2, 0 ≤ x ∧ x + (n : Int) ≤ s) ∧ (s : Int) ≤ dG (·.1) z.2 ps + n ∧ dG (·.2) z.2 ps + cN ps n = cN ps s) (fun z => z.1.toNat) ?_ ((s : Int), List.replicate ps.length 0) ⟨s, rfl, Nat.le_refl _, by simp, fun x hx => by rw [List.eq_of_mem_replicate hx]; omega, by rw [dG_zero]; omega, by rw [dG_zero]; omega⟩
    · obtain ⟨⟨t1, t2⟩, e, ⟨n, h1, h2, h3, h4, h5, h6⟩, h7⟩ := J
      have h7 := of_decide_eq_false (Option.some.inj h7)
      dsimp only at h1 h3 h4 h5 h6 h7
      obtain rfl : n = 0 := by omega
      refine Ok.eq e (Ok.ret ⟨h3, fun x hx => by have := h4 x hx; omega, by omega, ?_⟩)
      have : cN ps 0 = 0 := rfl
      omega
    · rintro ⟨s2, found⟩ ⟨n, h1, h2, h3, h4, h5, h6⟩
      dsimp only at h1 h3 h4 h5 h6
      subst h1
      by_cases hn : n = 0
      · left; subst hn; rfl
      · right
        refine ⟨by show some (decide ((0 : Int) < (n : Int))) = _; rw [decide_eq_true (by omega)], ?_⟩
        dsimp only
        -- the packs that show the cost
        have hf : ∀ z ∈ enumS ps, (fun ((i, (size, price)) : (Int × (Int × Int))) => (gI (ladC ps s) (max 0 ((n : Int) - size))).bind fun x => (gI (ladC ps s) (n : Int)).bind fun x1 => if decide ((x + price) = x1) then (some (some i)) else some none) z = some (if decide (cN ps (n - z.2.1.toNat) + z.2.2 = cN ps n) then some z.1 else none) := fun z hz => by
          obtain ⟨i, hi⟩ := List.getElem?_of_mem hz
          obtain ⟨p, hp, rfl⟩ := enumS_get hi
          have p1 := P.sz p (List.mem_of_getElem? hp)
          obtain ⟨size, price⟩ := p
          dsimp only at p1 ⊢
          rw [show max 0 ((n : Int) - size) = ((n - size.toNat : Nat) : Int) by omega, gI_nat (ladC_get ps (by omega)), Option.bind_some, gI_nat (ladC_get ps h2), Option.bind_some]
          split <;> rfl
        rw [fmapO_fm (p := fun z : Int × Pk => decide (cN ps (n - z.2.1.toNat) + z.2.2 = cN ps n)) (g := fun z => z.1) hf, Option.bind_some]
        obtain ⟨q, hq, hqe⟩ := c_ex P (t := n) (by omega)
        obtain ⟨j, hj⟩ := List.getElem?_of_mem hq
        have hjl := (List.getElem?_eq_some_iff.mp hj).1
        have hne : ((enumS ps).filter fun z : Int × Pk => decide (cN ps (n - z.2.1.toNat) + z.2.2 = cN ps n)) ≠ [] := fun z => by
          have hem : ((j : Int), q) ∈ enumS ps := by
            have hjl2 : j < (enumS ps).length := by rw [enumS_len]; exact hjl
            obtain ⟨p, hp, e⟩ := enumS_get (List.getElem?_eq_getElem hjl2)
            rw [hj] at hp
            cases hp
            rw [← e]
            exact List.getElem_mem hjl2
          have : ((j : Int), q) ∈ (enumS ps).filter fun z : Int × Pk => decide (cN ps (n - z.2.1.toNat) + z.2.2 = cN ps n) := List.mem_filter.mpr ⟨hem, decide_eq_true hqe.symm⟩
          rw [z] at this
          cases this
        obtain ⟨z, r, hzr⟩ := List.exists_cons_of_ne_nil hne
        have hz : z ∈ (enumS ps).filter fun z : Int × Pk => decide (cN ps (n - z.2.1.toNat) + z.2.2 = cN ps n) := by rw [hzr]; exact List.mem_cons_self
        obtain ⟨hz1, hz2⟩ := List.mem_filter.mp hz
        have hz2 := of_decide_eq_true hz2
        obtain ⟨i, hi⟩ := List.getElem?_of_mem hz1
        obtain ⟨p, hp, rfl⟩ := enumS_get hi
        have hil := (List.getElem?_eq_some_iff.mp hp).1
        have p1 := P.sz p (List.mem_of_getElem? hp)
        dsimp only at hz2
        rw [hzr, List.map_cons, gI_0, Option.bind_some]
        dsimp only
        have hfi : found[i]? = some found[i] := List.getElem?_eq_getElem (by omega)
        have hb := h4 found[i] (List.getElem_mem (by omega))
        rw [gI_nat hfi, Option.bind_some, lt_eqU, setI_at (by omega), Option.bind_some, gI_nat hp, Option.bind_some, lt_eqU]
        refine ⟨_, rfl, ⟨n - p.1.toNat, by dsimp only; omega, by omega, by simp [h3], fun x hx => ?_, ?_, ?_⟩, ?_⟩
        · dsimp only at hx
          rcases List.mem_or_eq_of_mem_set hx with hx | rfl
          · have := h4 x hx; omega
          · omega
        · dsimp only
          rw [dG_set (fun p => p.1) hfi hp]; omega
        · dsimp only
          rw [dG_set (fun p => p.2) hfi hp]; omega
        · dsimp only; omega
  obtain ⟨b, e, h⟩ := main
  exact ⟨b, e, h⟩
end
end Law

namespace Law
open PySem PySem.Spec L2 Mini
theorem modI_pos {x : Int} {m : Nat} (h : 1 ≤ m) : modI x (m : Int) = some (x % (m : Int)) := if_pos (by omega)
/-- one rest of a pass -/
def restF (m : Int) (size : Int) (rest : Int) (found4 : Fl0) (changed1 : Bool) : Option (Fl0 × Bool) :=
  (gI found4 rest).bind fun x1 =>
  (if x1.isSome then ((gI found4 rest).bind fun x2 =>
  (x2).bind fun x3 =>
  lt (x3 + size) fun amount =>
  (modI amount m).bind fun x4 =>
  (gI found4 x4).bind fun x5 =>
  (if x5.isNone then some true else ((modI amount m).bind fun x6 =>
  (gI found4 x6).bind fun x7 =>
  (x7).bind fun x8 =>
  some (decide (amount < x8)))).bind fun b =>
  (if b then ((modI amount m).bind fun x9 =>
  (setI found4 x9 (some amount)).bind fun found5 =>
  some (found5, true)) else (some (found4, changed1)) : Option ((List (Option Int)) × Bool)).bind fun (found6, changed2) =>
  some (found6, changed2)) else (some (found4, changed1)) : Option ((List (Option Int)) × Bool)).bind fun (found7, changed3) =>
  some (found7, changed3)
section
variable {ps : List Pk} (P : Pks ps) {m : Nat}
include P
theorem rest_s (hm : 1 ≤ m) {p : Pk} (hp : p ∈ ps) {f : Fl0} (a : FA ps m f) {r : Nat} (hr : r < m) (ch : Bool) :
    (restF m p.1 (r : Int) f ch = some (f, ch) ∧ Cl m p.1 f r) ∨ ∃ g, restF m p.1 (r : Int) f ch = some (g, true) ∧ FA ps m g ∧ Bet g f ∧ (nnF g < nnF f ∨ (nnF g = nnF f ∧ smF g < smF f)) := by
  have p1 := P.sz p hp
  have hrl : r < f.length := by rw [a.1]; exact hr
  have g1 : gI f (r : Int) = some f[r] := gI_nat (List.getElem?_eq_getElem hrl)
  cases hx : f[r] with
  | none =>
    left
    refine ⟨?_, fun e he => ?_⟩
    · unfold restF
      rw [g1, Option.bind_some, hx]; rfl
    · rw [List.getElem?_eq_getElem hrl, hx] at he; cases he
  | some e =>
    have fr : f[r]? = some (some e) := by rw [List.getElem?_eq_getElem hrl, hx]
    obtain ⟨l, l1, l2, l3⟩ := a.2 _ _ fr
    have e0 : 0 ≤ e := by omega
    have em : (e + p.1) % (m : Int) = (((e + p.1).toNat % m : Nat) : Int) := by rw [Int.natCast_emod]; congr 1; omega
    have jl : (e + p.1).toNat % m < f.length := by rw [a.1]; exact Nat.mod_lt _ hm
    have start : ∀ b : Bool, (if (f[(e + p.1).toNat % m]).isNone then some true else (f[(e + p.1).toNat % m]).bind fun x8 => some (decide (e + p.1 < x8))) = some b →
        restF m p.1 (r : Int) f ch = if b then some (f.set ((e + p.1).toNat % m) (some (e + p.1)), true) else some (f, ch) := fun b hb => by
      unfold restF
      rw [g1, Option.bind_some, hx]
      simp only [Option.isSome_some, if_true, Option.bind_some, lt_eqU]
      rw [modI_pos hm, Option.bind_some, em, gI_nat (List.getElem?_eq_getElem jl), Option.bind_some]
      simp only [Option.bind_some]
      rw [gI_nat (List.getElem?_eq_getElem jl)]
      simp only [Option.bind_some]
      rw [hb]
      simp only [Option.bind_some]
      rw [setI_at jl]
      cases b <;> rfl
    have better : ∀ {y : Option Int}, f[(e + p.1).toNat % m] = y → (∀ x, y = some x → e + p.1 ≤ x) → Bet (f.set ((e + p.1).toNat % m) (some (e + p.1))) f := fun {y} hy h r' e' he => by
      by_cases hj : (e + p.1).toNat % m = r'
      · subst hj
        rw [List.getElem?_set_self jl]
        rw [List.getElem?_eq_getElem jl, hy] at he
        exact ⟨_, rfl, h e' (Option.some.inj he)⟩
      · rw [List.getElem?_set_ne hj]
        exact ⟨e', he, Int.le_refl _⟩
    cases hy : f[(e + p.1).toNat % m] with
    | none =>
      right
      refine ⟨_, by rw [start true (by rw [hy]; rfl)]; rfl, FA.set P hp a fr, better hy (by intro x z; cases z), .inl ?_⟩
      have := nnF_none (f := f) (r := (e + p.1).toNat % m) (a := e + p.1) (by rw [List.getElem?_eq_getElem jl, hy])
      omega
    | some x =>
      by_cases hlt : e + p.1 < x
      · right
        refine ⟨_, by rw [start true (by rw [hy]; show some (decide (e + p.1 < x)) = _; rw [decide_eq_true hlt])]; rfl, FA.set P hp a fr, better hy (by intro z hz; cases hz; omega), .inr ?_⟩
        have := nnF_some (f := f) (r := (e + p.1).toNat % m) (a := e + p.1) (x := x) (by rw [List.getElem?_eq_getElem jl, hy])
        omega
      · left
        refine ⟨by rw [start false (by rw [hy]; show some (decide (e + p.1 < x)) = _; rw [decide_eq_false hlt])]; rfl, fun e' he => ?_⟩
        rw [fr] at he
        cases he
        exact ⟨x, by rw [List.getElem?_eq_getElem jl, hy], by omega⟩
/-- one pass -/
theorem pass_s (hm : 1 ≤ m) (hm2 : m ≤ 1000) {p : Pk} (hp : p ∈ ps) {f : Fl0} (a : FA ps m f) : ∃ g ch, forO (fun (rest : Int) ((found4, changed1) : (List (Option Int)) × Bool) => restF m p.1 rest found4 changed1) ((List.range m).map fun (i : Nat) => (i : Int)) (f, false) = some (g, ch) ∧
    FA ps m g ∧ Bet g f ∧ (ch = false → g = f ∧ ∀ r, r < m → Cl m p.1 f r) ∧ (ch = true → nnF g < nnF f ∨ (nnF g = nnF f ∧ smF g < smF f)) := by
  obtain ⟨⟨g, ch⟩, e, h1, h2, h3, h4⟩ := forO_inv (f := fun (rest : Int) ((found4, changed1) : (List (Option Int)) × Bool) => restF m p.1 rest found4 changed1) (xs := (List.range m).map fun (i : Nat) => (i : Int)) (s := (f, false))
    (fun i (z : Fl0 × Bool) => FA ps m z.1 ∧ Bet z.1 f ∧ (z.2 = false → z.1 = f ∧ ∀ r, r < i → Cl m p.1 f r) ∧ (z.2 = true → nnF z.1 < nnF f ∨ (nnF z.1 = nnF f ∧ smF z.1 < smF f)))
    ⟨a, Bet.refl f, fun _ => ⟨rfl, fun r h => by omega⟩, fun h => by cases h⟩ (fun i x z hx hj => by
      obtain ⟨g, ch⟩ := z
      obtain ⟨j1, j2, j3, j4⟩ := hj
      dsimp only at j1 j2 j3 j4
      rw [List.getElem?_map] at hx
      obtain ⟨y, hy, rfl⟩ := Option.map_eq_some_iff.mp hx
      have hlt := (List.getElem?_eq_some_iff.mp hy).1
      rw [List.length_range] at hlt
      rw [List.getElem?_range hlt] at hy
      cases hy
      dsimp only
      rcases rest_s P hm hp j1 hlt ch with ⟨e, c⟩ | ⟨g', e, k1, k2, k3⟩
      · refine ⟨_, e, j1, j2, fun h => ?_, j4⟩
        obtain ⟨q1, q2⟩ := j3 h
        refine ⟨q1, fun r hr => ?_⟩
        by_cases hri : r = i
        · rw [hri]
          have q1 : g = f := q1
          rw [← q1]; exact c
        · exact q2 r (by omega)
      · refine ⟨_, e, k1, k2.trans j2, fun h => (by cases h), fun _ => ?_⟩
        cases ch with
        | true =>
          have := j4 rfl
          dsimp only
          omega
        | false =>
          have q1 : g = f := (j3 rfl).1
          subst q1
          exact k3)
  rw [List.length_map, List.length_range] at h3
  exact ⟨g, ch, e, h1, h2, h3, h4⟩
/-- one pack, to its end -/
theorem stage_s (hm : 1 ≤ m) (hm2 : m ≤ 1000) {p : Pk} (hp : p ∈ ps) {f : Fl0} (a : FA ps m f) : ∃ g, whO (fun ((found3, changed) : (List (Option Int)) × Bool) => some changed) (fun ((found3, changed) : (List (Option Int)) × Bool) =>
    (rng1 (m : Int)).bind fun is => (forO (fun (rest : Int) ((found4, changed1) : (List (Option Int)) × Bool) => restF m p.1 rest found4 changed1) is ((found3, false) : (List (Option Int)) × Bool)).bind fun (found8, changed4) => some (found8, changed4)) (f, true) = some (g, false) ∧
    FA ps m g ∧ Bet g f ∧ ∀ r, r < m → Cl m p.1 g r := by
  obtain ⟨⟨g, ch⟩, e, ⟨h1, h2, h3⟩, h4⟩ := whO_lex (c := fun ((found3, changed) : (List (Option Int)) × Bool) => some changed) (f := fun ((found3, changed) : (List (Option Int)) × Bool) =>
    (rng1 (m : Int)).bind fun is => (forO (fun (rest : Int) ((found4, changed1) : (List (Option Int)) × Bool) => restF m p.1 rest found4 changed1) is ((found3, false) : (List (Option Int)) × Bool)).bind fun (found8, changed4) => some (found8, changed4))
    (fun z : Fl0 × Bool => FA ps m z.1 ∧ Bet z.1 f ∧ (z.2 = false → ∀ r, r < m → Cl m p.1 z.1 r)) (fun z => nnF z.1) (fun z => 2 * smF z.1 + if z.2 then 1 else 0) (fun z hz => by
      obtain ⟨g, ch⟩ := z
      obtain ⟨j1, j2, j3⟩ := hz
      dsimp only at j1 j2 j3
      cases ch with
      | false => left; rfl
      | true =>
        right
        refine ⟨rfl, ?_⟩
        obtain ⟨g', ch', e, k1, k2, k3, k4⟩ := pass_s P hm hm2 hp j1
        dsimp only
        rw [rng1_nat (by omega), Option.bind_some, e, Option.bind_some]
        refine ⟨_, rfl, ⟨k1, k2.trans j2, fun h => ?_⟩, ?_⟩
        · obtain ⟨q1, q2⟩ := k3 h
          rw [q1]; exact q2
        · cases ch' with
          | true =>
            have := k4 rfl
            simp only [if_true]; omega
          | false =>
            have q1 : g' = g := (k3 rfl).1
            subst q1
            simp) (f, true) ⟨a, Bet.refl f, fun h => by cases h⟩
  have h4 : ch = false := Option.some.inj h4
  subst h4
  exact ⟨g, e, h1, h2, h3 rfl⟩
end
def firstN (ps : List Pk) : Nat := (ps.headD (1, 0)).1.toNat
theorem floor_s {ps : List Pk} (P : Pks ps) : ∃ f, S_floor ps = some f ∧ FA ps (firstN ps) f ∧ FB ps (firstN ps) (fun _ => True) f := by
  cases ps with
  | nil => exact absurd rfl P.ne
  | cons p0 l =>
    have p1 := P.sz p0 List.mem_cons_self
    have hm : firstN (p0 :: l) = p0.1.toNat := rfl
    rw [hm]
    have main : Ok (S_floor (p0 :: l)) (fun f => FA (p0 :: l) p0.1.toNat f ∧ FB (p0 :: l) p0.1.toNat (fun _ => True) f) := by
      unfold S_floor
      refine Ok.eq gI_0 (Ok.lt ?_)
      have e0 : p0.1 = ((p0.1.toNat : Nat) : Int) := by omega
      generalize hmm : p0.1.toNat = m at *
      rw [e0]
      refine Ok.eq (repL_1 none (by omega)) (Ok.eq (setI_at (k := 0) (by simp; omega)) ?_)
      rw [cutG_1, List.drop_one, List.tail_cons]
      have a0 : FA (p0 :: l) m ((List.replicate m none).set 0 (some 0)) := ⟨by simp, fun r e he => by
        by_cases hr : r = 0
        · subst hr
          rw [List.getElem?_set_self (by simp; omega)] at he
          cases he
          exact ⟨[], by simp, rfl, by simp [szL]⟩
        · rw [List.getElem?_set_ne (Ne.symm hr), List.getElem?_replicate] at he
          split at he <;> cases he⟩
      have b0 : FB (p0 :: l) m (fun q => q = p0 ∨ q ∈ l.take 0) ((List.replicate m none).set 0 (some 0)) := fun z hz => by
        have : szL z % m = 0 := by
          have : ∀ {z : List Pk}, (∀ p ∈ z, p = p0) → szL z % m = 0 := by
            intro z
            induction z with
            | nil => intro _; simp [szL]
            | cons q z ih =>
              intro h
              have := ih fun r hr => h r (List.mem_cons_of_mem _ hr)
              rw [szL, h q List.mem_cons_self, hmm, Nat.add_mod, this, Nat.mod_self]; rfl
          exact this fun p hp => (hz p hp).2.resolve_right (by simp)
        rw [this]
        exact ⟨0, List.getElem?_set_self (by simp; omega), by omega⟩
      refine Ok.forO (fun i f => FA (p0 :: l) m f ∧ FB (p0 :: l) m (fun q => q = p0 ∨ q ∈ l.take i) f) ⟨a0, b0⟩ (fun i p f hx hj => ?_) fun f hj => ?_
      · obtain ⟨j1, j2⟩ := hj
        have hpm : p ∈ p0 :: l := List.mem_cons_of_mem _ (List.mem_of_getElem? hx)
        obtain ⟨g, e, k1, k2, k3⟩ := stage_s P (m := m) (by omega) (by omega) hpm j1
        obtain ⟨size, u⟩ := p
        refine Ok.eq e (Ok.ret ⟨k1, ?_⟩)
        have := FB.more P hpm k1 (j2.bet k2) k3
        refine fun z hz => this z fun q hq => ⟨(hz q hq).1, ?_⟩
        rcases (hz q hq).2 with h | h
        · exact .inl (.inl h)
        · rw [List.take_add_one, hx] at h
          rcases List.mem_append.mp h with h | h
          · exact .inl (.inr h)
          · right
            simpa using h
      · obtain ⟨j1, j2⟩ := hj
        refine Ok.ret ⟨j1, fun z hz => j2 z fun q hq => ⟨(hz q hq).1, ?_⟩⟩
        rw [List.take_length]
        exact List.mem_cons.mp (hz q hq).1
    obtain ⟨f, e, h⟩ := main
    exact ⟨f, e, h⟩
/-- what is left over, told by the least amount -/
theorem over_s {ps : List Pk} (P : Pks ps) (s : Nat) {l : List Pk} (hl : ∀ p ∈ l, p ∈ ps) (hs : s ≤ szL l) (hmin : ∀ l', (∀ p ∈ l', p ∈ ps) → s ≤ szL l' → szL l ≤ szL l') : S_least_over ps (s : Int) = some ((szL l : Int) - s) := by
  obtain ⟨f, ef, fa, fb⟩ := floor_s P
  cases ps with
  | nil => exact absurd rfl P.ne
  | cons p0 r =>
    have p1 := P.sz p0 List.mem_cons_self
    have hm : firstN (p0 :: r) = p0.1.toNat := rfl
    rw [hm] at fa fb
    refine Ok.get ?_
    unfold S_least_over
    refine Ok.eq gI_0 (Ok.lt (Ok.eq ef ?_))
    have e0 : p0.1 = ((p0.1.toNat : Nat) : Int) := by omega
    generalize hmm : p0.1.toNat = m at *
    rw [e0]
    let v : Int → Int := fun e => if (s : Int) ≤ e then e - s else (e - s) % m
    have hfl : f.length ≤ 40 := by rw [fa.1]; omega
    refine Ok.eq (a := (f.filterMap id).map v) ?_ ?_
    · have key : ∀ (g : Fl0) (rows : List Int), rows.length + g.length ≤ 1000 → forO (fun (entry : (Option Int)) (rows : (List Int)) => (if entry.isSome then ((entry).bind fun x2 => (if decide ((s : Int) ≤ x2) then (some (x2 - (s : Int))) else ((modI (x2 - (s : Int)) (m : Int)).bind fun x3 => some x3)).bind fun x4 => (appX rows x4).bind fun rows1 => some rows1) else (some rows) : Option ((List Int))).bind fun rows2 => some rows2) g rows = some (rows ++ (g.filterMap id).map v) := by
        intro g
        induction g with
        | nil => intro rows _; simp [forO]
        | cons o g ih =>
          intro rows hr
          rw [List.length_cons] at hr
          rw [forO]
          cases o with
          | none =>
            simp only [Option.isSome_none, Bool.false_eq_true, if_false, Option.bind_some]
            rw [ih rows (by omega)]; rfl
          | some e =>
            simp only [Option.isSome_some, if_true, Option.bind_some]
            have hv : (if decide ((s : Int) ≤ e) then (some (e - (s : Int))) else ((modI (e - (s : Int)) (m : Int)).bind fun x3 => some x3)) = some (v e) := by
              show _ = some (if (s : Int) ≤ e then e - s else (e - s) % m)
              by_cases hc : (s : Int) ≤ e
              · rw [if_pos (decide_eq_true hc), if_pos hc]
              · rw [if_neg (by rw [decide_eq_false hc]; decide), if_neg hc, modI_pos (by omega)]; rfl
            rw [hv, Option.bind_some, appX_ok (by omega)]
            simp only [Option.bind_some]
            rw [ih (rows ++ [v e]) (by rw [List.length_append, List.length_singleton]; omega)]
            simp
      have := key f [] (by simp; omega)
      rw [List.nil_append] at this
      exact this
    · have hne : (f.filterMap id).map v ≠ [] := fun z => by
        obtain ⟨e, h3, _⟩ := fb [] (by simp)
        have : v e ∈ (f.filterMap id).map v := List.mem_map.mpr ⟨e, List.mem_filterMap.mpr ⟨some e, List.mem_of_getElem? h3, rfl⟩, rfl⟩
        rw [z] at this
        cases this
      obtain ⟨w, hw, _⟩ := minL_ok hne
      have := over_is P (m := m) (by omega) ⟨p0, List.mem_cons_self, e0⟩ fa fb s (v := v) (fun e => rfl) rfl hw hl hs hmin
      refine Ok.eq hw (Ok.ret ?_)
      omega
end Law

namespace Law
open PySem PySem.Spec L2 Mini
theorem ladC_ext {ps qs : List Pk} {g : Int → Int} (h : ∀ t, cN qs t = g (cN ps t)) (n : Nat) : ladC qs n = (ladC ps n).map g := by
  refine List.ext_getElem? fun j => ?_
  rw [List.getElem?_map]
  by_cases hj : j ≤ n
  · rw [ladC_get qs hj, ladC_get ps hj, h]; rfl
  · rw [List.getElem?_eq_none (by rw [ladC_len]; omega), List.getElem?_eq_none (by rw [ladC_len]; omega)]; rfl
theorem Pq.map {ps : List Pk} (P : Pq ps) {f : Pk → Pk} (hf : ∀ p, (f p).1 = p.1) (h2 : ∀ p ∈ ps, 0 ≤ (f p).2 ∧ (f p).2 ≤ 1000000) : Pq (ps.map f) :=
  ⟨P.toPks.map hf h2, List.pairwise_map.mpr (P.srt.imp fun h => by rw [hf, hf]; exact h), by rw [List.length_map]; exact P.len⟩
theorem law_ok {ns : List Int} (h : ns.length ≤ 63) : S_law ns = some true := by
  refine Ok.get ?_
  obtain ⟨st, e, v⟩ := tapeS_ok h
  unfold S_law
  refine Ok.eq e (Ok.eq (rng1_int (by decide) (by decide)) ?_)
  refine Ok.forF Tp v (fun turn _ st1 v1 => ?_) fun st7 _ => Ok.flM (Ok.ret rfl)
  refine Ok.bind (packs_ok v1 (by decide) (by decide) (by decide) (by decide)) ?_
  rintro ⟨ps, st2⟩ ⟨P, hl4, hps, v2⟩
  replace P : Pq ps := P
  replace hps : ∀ q ∈ ps, q.1 ≤ 12 ∧ q.2 ≤ 1000 := hps
  replace v2 : Tp st2 := v2
  have PP := P.toPks
  dsimp only
  refine Ok.take v2 (by decide) (by decide) fun x1 st3 a0 a1 v3 => ?_
  dsimp only
  refine Ok.take v3 (by decide) (by decide) fun x2 st4 b0 b1 v4 => ?_
  dsimp only
  obtain ⟨s, rfl⟩ : ∃ s : Nat, x1 = (s : Int) := ⟨x1.toNat, by omega⟩
  obtain ⟨t, rfl⟩ : ∃ t : Nat, x2 = (t : Int) := ⟨x2.toNat, by omega⟩
  -- prices that are the sizes
  refine Ok.lt ?_
  have Qp : Pq (ps.map fun ((size, price) : Pk) => (size, size)) := P.map (fun p => rfl) fun p hp => by have := PP.sz p hp; show 0 ≤ p.1 ∧ p.1 ≤ 1000000; omega
  refine Ok.eq (ladder_s Qp.toPks (by omega)) (Ok.eq (ladC_last _ s) ?_)
  obtain ⟨l, l1, l2, l3, l4⟩ := c_plain PP (f := fun ((size, price) : Pk) => (size, size)) (fun p => rfl) Qp.toPks s
  refine Ok.eq (over_s PP s l1 l2 l4) ?_
  refine Ok.bind (P := fun b => b = false) (Ok.iteF ?_ ?_) fun b hb => Ok.iteF hb ?_
  · rw [l3]; simp; omega
  · have e12 : powI 10 12 = some 1000000000000 := if_pos ⟨by decide, by decide, by decide⟩
    refine Ok.eq e12 ?_
    have en : (1000000000000 : Int) + (s : Int) = ((1000000000000 + s : Nat) : Int) := by omega
    rw [en]
    refine Ok.eq (far_s Qp (by omega)) (Ok.eq e12 (Ok.eq e12 ?_))
    obtain ⟨l', m1, m2, m3, m4⟩ := c_plain PP (f := fun ((size, price) : Pk) => (size, size)) (fun p => rfl) Qp.toPks (1000000000000 + s)
    rw [en]
    refine Ok.eq (over_s PP _ m1 m2 m4) (Ok.ret ?_)
    rw [m3]; simp; omega
  -- all prices 1
  refine Ok.lt ?_
  have Q1 : Pq (ps.map fun ((size1, price1) : Pk) => (size1, (1 : Int))) := P.map (fun p => rfl) fun p hp => by show (0 : Int) ≤ 1 ∧ (1 : Int) ≤ 1000000; omega
  obtain ⟨q, hq, hl1, hl2⟩ := last_s P
  have hmx := max_b P
  refine Ok.eq (ladder_s Q1.toPks (by omega)) (Ok.eq (ladC_last _ s) (Ok.eq hl1 (Ok.eq hl1 ?_)))
  rw [hl2]
  refine Ok.eq (divI_b (g := maxP ps) (n := 10) (by omega) (by omega) (by decide)) ?_
  refine Ok.bind (P := fun b => b = false) (Ok.iteF ?_ ?_) fun b hb => Ok.iteF hb ?_
  · rw [c_ones PP (f := fun ((size1, price1) : Pk) => (size1, (1 : Int))) (fun p => rfl) Q1.toPks hmx.1 (maxP_le P) hq hl2 s]
    have : (s : Int) + (maxP ps : Int) - 1 = ((s + maxP ps - 1 : Nat) : Int) := by omega
    rw [this, Int.natCast_ediv]; simp
  · refine Ok.eq (best_s Q1.toPks) (Ok.eq hl1 (Ok.ret ?_))
    rw [hl2]
    have hB := bestP_best Q1.toPks
    generalize bestP (ps.map fun ((size1, price1) : Pk) => (size1, (1 : Int))) = B at hB
    obtain ⟨p, hp, rfl⟩ := List.mem_map.mp hB.mem
    have h1 := maxP_le P p hp
    have h2 : 1 * q.1 ≤ 1 * p.1 := hB.le (q.1, 1) (List.mem_map.mpr ⟨q, hq, rfl⟩)
    have : p.1 = (maxP ps : Int) := by omega
    show decide (((p.1, (1 : Int)) : Pk) ≠ ((maxP ps : Int), 1)) = false
    rw [this]; simp
  -- twice the prices
  refine Ok.eq (ladder_s PP (by omega)) ?_
  refine Ok.eq (a := ps.map fun p => (p.1, 2 * p.2)) (mapO_some fun p hp => ?_) ?_
  · have := PP.sz p hp
    obtain ⟨size, price⟩ := p
    dsimp only at this ⊢
    rw [mul_s PP (by decide) (by omega)]; rfl
  have Q2 : Pq (ps.map fun p => (p.1, 2 * p.2)) := P.map (fun p => rfl) fun p hp => by have := PP.sz p hp; have := hps p hp; show 0 ≤ 2 * p.2 ∧ 2 * p.2 ≤ 1000000; omega
  have c2 : ∀ n, cN (ps.map fun p => (p.1, 2 * p.2)) n = 2 * cN ps n := fun n => c_times PP (f := fun p => (p.1, 2 * p.2)) (g := 2) (by decide) (fun p => rfl) (fun p => rfl) Q2.toPks n
  refine Ok.eq (ladder_s Q2.toPks (by omega)) ?_
  rw [ladC_ext c2]
  refine Ok.eq (a := (ladC ps s).map fun x => 2 * x) (mapO_some fun c hc => ?_) ?_
  · obtain ⟨j, hj⟩ := List.getElem?_of_mem hc
    have hjl := (List.getElem?_eq_some_iff.mp hj).1
    rw [ladC_len] at hjl
    rw [ladC_get ps (by omega)] at hj
    cases hj
    have := c_nn PP j
    have := c_bound PP j
    rw [mul_s PP (by decide) (by omega)]; rfl
  refine Ok.eq (same_TI (by rw [List.length_map, ladC_len]; omega)) (Ok.iteF rfl ?_)
  -- packs that are beaten left out
  refine Ok.lt ?_
  rw [List.map_id']
  obtain ⟨Qg, cg⟩ := c_good PP (gd := fun (pack : Pk) => (!((ps.map (fun (other : Pk) => ((decide (pack.1 < other.1)) && (decide (other.2 ≤ pack.2))))).any id))) fun p hp => by
    rw [Bool.not_eq_true', ← Bool.not_eq_true, List.any_eq_true]
    refine not_congr ⟨fun ⟨b, h1, h2⟩ => ?_, fun ⟨o, ho, g1, g2⟩ => ⟨true, List.mem_map.mpr ⟨o, ho, by rw [decide_eq_true g1, decide_eq_true g2]; rfl⟩, rfl⟩⟩
    obtain ⟨o, ho, rfl⟩ := List.mem_map.mp h1
    have h2 : (decide (p.1 < o.1) && decide (o.2 ≤ p.2)) = true := h2
    rw [Bool.and_eq_true] at h2
    exact ⟨o, ho, of_decide_eq_true h2.1, of_decide_eq_true h2.2⟩
  refine Ok.eq (ladder_s Qg (by omega)) ?_
  rw [ladC_ext (g := id) cg, List.map_id]
  refine Ok.eq (same_TI (by rw [ladC_len]; omega)) (Ok.iteF rfl ?_)
  -- both needs together
  have est : (s : Int) + (t : Int) = ((s + t : Nat) : Int) := by omega
  rw [est]
  have fst := far_s P (n := s + t) (by omega)
  have fs := far_s P (n := s) (by omega)
  have ft := far_s P (n := t) (by omega)
  refine Ok.eq fst (Ok.eq fs (Ok.eq ft ?_))
  refine Ok.bind (P := fun b => b = false) (Ok.iteF ?_ (Ok.eq fst (Ok.eq fs (Ok.eq ft (Ok.ret ?_))))) fun b hb => Ok.iteF hb ?_
  · have := c_sub PP s t
    exact decide_eq_false (by omega)
  · have := c_mono PP (a := s) (b := s + t) (by omega)
    have := c_mono PP (a := t) (b := s + t) (by omega)
    exact decide_eq_false (by omega)
  -- what is bought
  obtain ⟨b, eb, bl, bb, b3, b4⟩ := cheapest_s PP P.len (s := s) (by omega)
  have bb' : ∀ x ∈ b, 0 ≤ x ∧ x ≤ 1000000 := fun x hx => by have := bb x hx; omega
  refine Ok.eq eb (Ok.eq (amount_s PP bb') ?_)
  refine Ok.bind (P := fun b => b = false) (Ok.iteF (decide_eq_false (by omega)) (Ok.eq (price_s PP bb') (Ok.eq (gI_nat (ladC_get ps (Nat.le_refl s))) (Ok.iteF ?_ ?_)))) fun b hb => Ok.iteF hb (Ok.nx v4)
  · rw [b4]; simp
  · refine Ok.eq (rng1_nat (by omega)) (Ok.eq (a := ((List.range s).map fun (i : Nat) => (i : Int)).map fun _ => false) (mapO_some fun k hk => ?_) (Ok.ret ?_))
    · obtain ⟨i, hi, rfl⟩ := List.mem_map.mp hk
      have hi := List.mem_range.mp hi
      have ei : (i : Int) + 1 = ((i + 1 : Nat) : Int) := by omega
      rw [gI_nat (ladC_get ps (by omega)), Option.bind_some, ei, gI_nat (ladC_get ps (by omega)), Option.bind_some]
      have := c_mono PP (a := i) (b := i + 1) (by omega)
      rw [decide_eq_false (by omega)]
    · rw [List.any_eq_false]
      intro x hx
      obtain ⟨_, _, rfl⟩ := List.mem_map.mp hx
      decide
theorem law_true (ns : List Int) (h : ns.length ≤ 63) : retOf (callN (tbOf es) 40) 13 [.sc ns] = some (.v (.bool true)) := R_law (by decide) (law_ok h)
end Law

namespace Law
open PySem PySem.Spec L2 Mini
abbrev sMix : Stmt := top 13
abbrev sTape : Stmt := top 14
abbrev sTake : Stmt := top 15
section
variable {P : Program} {w : World} {K : PySem.W.Frag} {mg : Str → Option Value} {base : Heap}
def ifBody : Stmt → List Stmt
  | .If _ b _ _ => b
  | _ => []
def ifElse : Stmt → List Stmt
  | .If _ _ b _ => b
  | _ => []
theorem scM : FnScope ["number"] ["number"] (defScope sMix) := ⟨rfl, rfl, rfl, by decide +kernel, rfl, by decide +kernel, by decide +kernel⟩
theorem ok_mix {f : Addr} {fd : FuncData} (F : Fun K "_law_mix" "_law_mix" sMix f fd) (mi : mg "int" = none) : FnOk P w K mg base CX0 1 f fd ["number"] spMix := by
  refine F.ok scM (fun vs H Q E h => ?_) (fun cdv A outer s H vs Q E hr h => ?_)
  · obtain ⟨n, rfl, _⟩ := h
    rfl
  obtain ⟨n, rfl, q⟩ := h
  refine ⟨_, pss_cons (ps_set (i := 0) scM.nd rfl (Or.inl rfl) (pe_op op_mod (pe_callTy call_int1 (by rfl) mi PyProof.Rows.boot_int (pa_cons (pe_op op_add (pe_op op_mul (pv 0) pe_int) pe_int) pa_nil)) pe_int))
    (pss_one (ps_ret (pe_op op_mod (pe_callTy call_int1 (by rfl) mi PyProof.Rows.boot_int (pa_cons (pe_op op_add (pe_op op_fdivW (pe_op op_mul (pv 0) (pv 0)) pe_int) (pe_op op_mul (pv 0) pe_int)) pa_nil)) pe_int))), ?_⟩
  have hr1 : 0 ≤ (n * 6364136223846793005 + 1442695040888963407) % 18446744073709551616 := Int.emod_nonneg _ (by decide)
  have hr2 : (n * 6364136223846793005 + 1442695040888963407) % 18446744073709551616 < 18446744073709551616 := Int.emod_lt_of_pos _ (by decide)
  refine ⟨_, rfl, _, _, rfl, rfl, cmulR (by decide), _, _, rfl, rfl, .inl ⟨_, rfl, _, _, rfl, rfl, (by show (0 : Int) < 18446744073709551616; decide), ?_⟩⟩
  refine ⟨_, rfl, _, rfl, _, _, rfl, rfl, cmulR ⟨by omega, by omega⟩, _, _, rfl, rfl, (show divOk 4294967296 from ⟨by decide, by decide⟩), _, rfl, _, _, rfl, rfl, cmulR (by decide), _, _, rfl, rfl, .inl ⟨_, rfl, _, _, rfl, rfl, (by show (0 : Int) < 18446744073709551557; decide), ?_⟩⟩
  exact q
theorem scT : FnScope ["tape", "many", "cell", "digit"] ["tape", "many"] (defScope sTake) := ⟨rfl, rfl, rfl, by decide +kernel, rfl, by decide +kernel, by decide +kernel⟩
theorem ok_take0 {f g : Addr} {fd gd : FuncData} (F : Fun K "_law_take" "_law_take" sTake f fd) (G : FnOk P w K mg base CX0 1 g gd ["number"] spMix) (bG : Binds K gd ["number"] []) (kG : PySem.W.keepIn K (.ref g) = true) (mG : mg "_law_mix" = some (.ref g)) (ml : mg "len" = none) (mi : mg "int" = none) : FnOk P w K mg base CX0 2 f fd ["tape", "many"] spTake := by
  refine F.ok scT (fun vs H Q E h => ?_) (fun cdv A outer s H vs Q E hr h => ?_)
  · obtain ⟨a, c, cs, p, size, seed, many, rfl, _⟩ := h
    rfl
  obtain ⟨a, c, cs, p, size, seed, many, rfl, ha, hc, ne, hm, hp, q⟩ := h
  let D : Ends := { nx := fun _ H' => Q .non H', rt := Q }
  obtain ⟨tt, htt, hq⟩ : ∃ t, PSs (cxOf CX0 P w K mg base ["tape", "many", "cell", "digit"] "_law_take" (defScope sTake) f cdv A outer s H E).nox ((defBody sTake).drop 1) t ∧
      ∀ (c1 : Option V) (H1 : Hp) (pz sz sd : Int), H1 a = some (.lst [.ref c, .int pz, .int sz, .int sd]) → Q (.int (sz % many)) (upd H1 a (.lst [.ref c, .int pz, .int (sz / many), .int sd])) → t D [some (.ref a), some (.int many), c1, none] H1 := by
    refine ⟨_, pss_cons (ps_set (i := 3) scT.nd rfl (Or.inl rfl) (pe_op op_mod (pe_callTy call_int1 (by rfl) mi PyProof.Rows.boot_int (pa_cons (pe_ix ix_list (pv 0) pe_int (fun _ _ => rfl)) pa_nil)) (pv 1)))
      (pss_cons (ps_asg (pe_op op_fdivW (pe_ix ix_list (pv 0) pe_int (fun _ _ => rfl)) (pv 1)) (pg_sub (pv 0) pe_int set_list))
      (pss_one (ps_ret (pv 3)))), fun c1 H1 pz sz sd h1 q1 => ?_⟩
    refine ⟨_, rfl, a, _, 2, _, rfl, rfl, SqL.of h1, rfl, .inl ⟨_, rfl, _, rfl, _, _, rfl, rfl, hm.1, ?_⟩⟩
    refine ⟨_, rfl, a, _, 2, _, rfl, rfl, SqL.of h1, rfl, _, rfl, _, _, rfl, rfl, hm, ?_⟩
    refine ⟨_, rfl, a, _, 2, 2, rfl, rfl, h1, rfl, ?_⟩
    exact ⟨_, rfl, q1⟩
  /- the last two statements of a loading from a cell -/
  obtain ⟨t2, ht2, hq2⟩ : ∃ t, PSs (cxOf CX0 P w K mg base ["tape", "many", "cell", "digit"] "_law_take" (defScope sTake) f cdv A outer s H E).nox ((ifBody ((ifBody ((defBody sTake).getD 0 (.Pass ⟨0, 0, 0, 0⟩))).getD 0 (.Pass ⟨0, 0, 0, 0⟩))).drop 2) t ∧
      ∀ (z : Int), Q (.int ((if 1000000000000000000 ≤ z then z else tapeMix (tapeMix z + (p + 1))) % many)) (upd H a (.lst [.ref c, .int (p + 1), .int ((if 1000000000000000000 ≤ z then z else tapeMix (tapeMix z + (p + 1))) / many), .int (tapeMix (seed + z))])) → t { D with nx := tt D } [some (.ref a), some (.int many), some (.int z), none] H := by
    refine ⟨_, pss_cons (ps_asg (pe_op op_add (pe_ix ix_list (pv 0) pe_int (fun _ _ => rfl)) pe_int) (pg_sub (pv 0) pe_int set_list))
      (pss_cons (ps_asg (pe_call G hr rfl mG kG bG .nil pass0 (pa_cons (pe_op op_add (pe_ix ix_list (pv 0) pe_int (fun _ _ => rfl)) (pv 2)) pa_nil)) (pg_sub (pv 0) pe_int set_list))
      (pss_one (ps_asg (pe_ifExp (pt_cmpR op_ge (pv 2) (pe_op op_pow pe_int pe_int) (nomark _)) (pv 2) (pe_call G hr rfl mG kG bG .nil pass0 (pa_cons (pe_op op_add (pe_call G hr rfl mG kG bG .nil pass0 (pa_cons (pv 2) pa_nil)) (pe_ix ix_list (pv 0) pe_int (fun _ _ => rfl))) pa_nil))) (pg_sub (pv 0) pe_int set_list)))), fun z q1 => ?_⟩
    refine ⟨_, rfl, a, _, 1, _, rfl, rfl, SqL.of ha, rfl, _, _, rfl, rfl, ?_⟩
    refine ⟨_, rfl, a, _, 1, 1, rfl, rfl, ha, rfl, ?_⟩
    refine ⟨_, rfl, a, _, 3, _, rfl, rfl, SqL.of upd_same, rfl, _, rfl, _, _, rfl, rfl, _, rfl, ?_⟩
    refine ⟨_, rfl, a, _, 3, 3, rfl, rfl, upd_same, rfl, ?_⟩
    rw [upd_upd]
    refine ⟨_, rfl, _, _, rfl, rfl, ⟨by decide, by decide, by decide⟩, _, _, rfl, rfl, _, rfl, ?_⟩
    have e18 : (10 : Int) ^ (18 : Int).toNat = 1000000000000000000 := by decide +kernel
    rw [e18]
    by_cases hb : (1000000000000000000 : Int) ≤ z
    · rw [decide_eq_true hb]
      rw [if_pos hb] at q1
      refine iteT ⟨_, rfl, ?_⟩
      refine ⟨_, rfl, a, _, 2, 2, rfl, rfl, upd_same, rfl, ?_⟩
      refine hq _ _ _ _ _ upd_same ?_
      rw [upd_upd, upd_upd]
      exact q1
    · rw [decide_eq_false hb]
      rw [if_neg hb] at q1
      refine iteF ?_
      refine ⟨_, rfl, _, rfl, _, rfl, a, _, 1, _, rfl, rfl, SqL.of upd_same, rfl, _, _, rfl, rfl, _, rfl, ?_⟩
      refine ⟨_, rfl, a, _, 2, 2, rfl, rfl, upd_same, rfl, ?_⟩
      refine hq _ _ _ _ _ upd_same ?_
      rw [upd_upd, upd_upd]
      exact q1
  refine ⟨_, pss_cons (ps_if (pt_cmpR op_lt (pe_ix ix_list (pv 0) pe_int (fun _ _ => rfl)) (pv 1) (nomark _))
    (pss_one (ps_if (pt_cmpR op_lt (pe_ix ix_list (pv 0) pe_int (fun _ _ => rfl)) (pe_callB call_len_seq (by rfl) ml PySem.boot_len (pa_cons (pe_ix ix_list (pv 0) pe_int (fun _ _ => rfl)) pa_nil)) (nomark _))
      (pss_cons (ps_set (i := 2) scT.nd rfl (Or.inl rfl) (pe_ix ix_list (pe_ix ix_list (pv 0) pe_int (fun _ _ => rfl)) (pe_ix ix_list (pv 0) pe_int (fun _ _ => rfl)) (fun _ _ => rfl)))
      (pss_cons (ps_set (i := 2) scT.nd rfl (Or.inl rfl) (pe_ifExp (pt_cmpR op_ge (pv 2) pe_int (nomark _)) (pe_op op_mul pe_int (pv 2)) (pe_op op_sub (pe_op op_mul (pe_un un_neg pe_int) (pv 2)) pe_int)))
      ht2))
      (pss_cons (ps_asg (pe_call G hr rfl mG kG bG .nil pass0 (pa_cons (pe_op op_add (pe_ix ix_list (pv 0) pe_int (fun _ _ => rfl)) pe_int) pa_nil)) (pg_sub (pv 0) pe_int set_list))
      (pss_one (ps_asg (pe_ix ix_list (pv 0) pe_int (fun _ _ => rfl)) (pg_sub (pv 0) pe_int set_list)))))) pss_nil) htt, ?_⟩
  have lm : (cs.map V.int).length = cs.length := List.length_map _
  refine ⟨_, rfl, a, _, 2, _, rfl, rfl, SqL.of ha, rfl, _, rfl, _, _, rfl, rfl, _, rfl, ?_⟩
  by_cases hs : size < many
  · rw [decide_eq_true hs]
    have e1 : tapeTake cs p size seed many = ((tapeLoad cs p seed).2.1 % many, (tapeLoad cs p seed).1, (tapeLoad cs p seed).2.1 / many, (tapeLoad cs p seed).2.2) := if_pos hs
    rw [e1] at q
    refine iteT ?_
    refine ⟨_, rfl, a, _, 1, _, rfl, rfl, SqL.of ha, rfl, _, rfl, a, _, 0, _, rfl, rfl, SqL.of ha, rfl, c, _, rfl, .inl (SqL.of hc), _, _, rfl, rfl, _, rfl, ?_⟩
    rw [lm]
    by_cases hl : p < (cs.length : Int)
    · rw [decide_eq_true hl]
      have e2 : tapeLoad cs p seed = (p + 1, if 1000000000000000000 ≤ (if 0 ≤ cs.getD p.toNat 0 then 2 * cs.getD p.toNat 0 else -2 * cs.getD p.toNat 0 - 1) then (if 0 ≤ cs.getD p.toNat 0 then 2 * cs.getD p.toNat 0 else -2 * cs.getD p.toNat 0 - 1) else tapeMix (tapeMix (if 0 ≤ cs.getD p.toNat 0 then 2 * cs.getD p.toNat 0 else -2 * cs.getD p.toNat 0 - 1) + (p + 1)), tapeMix (seed + (if 0 ≤ cs.getD p.toNat 0 then 2 * cs.getD p.toNat 0 else -2 * cs.getD p.toNat 0 - 1))) := if_pos hl
      rw [e2] at q
      refine iteT ?_
      have hpl : p.toNat < cs.length := by omega
      have hat : atI (cs.map V.int) p = some (V.int (cs.getD p.toNat 0)) := by
        have hpl2 : p < ((cs.map V.int).length : Int) := by rw [lm]; exact hl
        unfold atI ixN
        rw [if_pos hp, if_pos hpl2, Option.bind_some, List.getElem?_map, List.getD_eq_getElem?_getD, List.getElem?_eq_getElem hpl]; rfl
      refine ⟨_, rfl, a, _, 0, _, rfl, rfl, SqL.of ha, rfl, _, rfl, a, _, 1, _, rfl, rfl, SqL.of ha, rfl, c, _, p, _, rfl, rfl, SqL.of hc, hat, ?_⟩
      generalize cs.getD p.toNat 0 = z at q
      refine ⟨_, rfl, _, _, rfl, rfl, _, rfl, ?_⟩
      by_cases hz : (0 : Int) ≤ z
      · rw [decide_eq_true hz]
        simp only [if_pos hz] at q
        refine iteT ?_
        refine ⟨_, rfl, _, _, rfl, rfl, cmulL (by decide), ?_⟩
        exact hq2 _ (q _ upd_same fun b h1 => upd_ne h1)
      · rw [decide_eq_false hz]
        simp only [if_neg hz] at q
        refine iteF ?_
        refine ⟨_, rfl, _, rfl, _, _, rfl, rfl, cmulL (by decide), _, _, rfl, rfl, ?_⟩
        exact hq2 _ (q _ upd_same fun b h1 => upd_ne h1)
    · rw [decide_eq_false hl]
      have e2 : tapeLoad cs p seed = (p, tapeMix (seed + 1), tapeMix (seed + 1)) := if_neg hl
      rw [e2] at q
      refine iteF ?_
      refine ⟨_, rfl, a, _, 3, _, rfl, rfl, SqL.of ha, rfl, _, _, rfl, rfl, _, rfl, ?_⟩
      refine ⟨_, rfl, a, _, 3, 3, rfl, rfl, ha, rfl, ?_⟩
      refine ⟨_, rfl, a, _, 3, _, rfl, rfl, SqL.of upd_same, rfl, ?_⟩
      refine ⟨_, rfl, a, _, 2, 2, rfl, rfl, upd_same, rfl, ?_⟩
      refine hq _ _ _ _ _ upd_same ?_
      rw [upd_upd, upd_upd]
      exact q _ upd_same fun b h1 => upd_ne h1
  · rw [decide_eq_false hs]
    have e1 : tapeTake cs p size seed many = (size % many, p, size / many, seed) := if_neg hs
    rw [e1] at q
    refine iteF ?_
    exact hq _ H p size seed ha (q _ upd_same fun b h1 => upd_ne h1)
/-- .. as an entry of the table -/
theorem ok_take {f : Addr} {fd : FuncData} (F : FnOk P w K mg base CX0 2 f fd ["tape", "many"] spTake) : FnOk P w K mg base CX0 2 f fd ["tape", "many"] (spF K (fun _ as => primTake as) 0) := by
  refine F.imp fun vs H Q E h => ?_
  obtain ⟨O, as, r, as', wa, e, q⟩ := h
  dsimp only at e
  unfold primTake at e
  split at e
  case h_2 => cases e
  rename_i cs p size seed many
  split at e
  case isFalse => cases e
  rename_i hm
  have hl := wa.len
  match vs, hl, wa, q with
  | [vb, vm], hl, wa, q =>
    rcases wa.rep 0 _ rfl with z | ⟨u, h1, h2⟩
    · cases z
    rcases wa.rep 1 _ rfl with z | ⟨u2, h3, h4⟩
    · cases z
    simp at h1 h3
    subst h1 h3
    have h4 : vm = .int many := by simpa only [RepS, RepD] using h4
    subst h4
    obtain ⟨a, c, rfl, ha, hc, oa, oc⟩ := h2
    have ne : a ≠ c := fun z => by
      subst z
      rw [ha] at hc
      cases cs with
      | nil => simp at hc
      | cons x xs => simp at hc
    refine ⟨a, c, cs, p, size, seed, many, rfl, ha, hc, ne, hm.1, hm.2, fun H' g1 g3' => ?_⟩
    have g2 : H' c = some (.lst (cs.map V.int)) := by rw [g3' c ne.symm]; exact hc
    have g3 : ∀ b, b ≠ a → b ≠ c → H' b = H b := fun b h1 _ => g3' b h1
    have e := Option.some.inj e
    injection e with e1 e2
    subst e1 e2
    have st : Mini.Step O H (fun b => b = a ∨ b = c) O H' (fun b => b = a ∨ b = c) := by
      refine ⟨⟨wa.own, fun b o hb nb => ?_, fun b hb => .inl hb, fun b hb => ?_⟩, fun b hb => ?_, fun b hb nf => ⟨hb, g3 b (fun z => nf (.inl z)) fun z => nf (.inr z)⟩, fun b hb => .inl hb⟩
      · rw [g3 b (fun z => nb (z ▸ oa)) fun z => nb (z ▸ oc)]; exact hb
      · by_cases h5 : b = a
        · rw [h5, g1]; exact Option.some_ne_none _
        · by_cases h6 : b = c
          · rw [h6, g2]; exact Option.some_ne_none _
          · rw [g3 b h5 h6]; exact hb
      · by_cases h5 : b = a
        · rw [h5]; exact ⟨_, g1, .l _⟩
        · by_cases h6 : b = c
          · rw [h6]; exact ⟨_, g2, .l _⟩
          · rw [g3 b h5 h6]; exact wa.own b hb
    have fpa : ∀ b, (b = a ∨ b = c) → FpE H [Sl.bx cs [p, size, seed], Sl.v (PyData.int many)] ([V.ref a, V.int many].map some) b := fun b hb => ⟨0, _, .ref a, rfl, rfl, hb.elim (fun z => .inl (by rw [z])) fun z => Or.inr ⟨a, [V.int p, V.int size, V.int seed], rfl, by rw [z]; exact ha⟩⟩
    have at0 : ∀ (x : Sl) (i : Nat) (s : Sl), ([x, Sl.no] : En)[i]? = some s → (i = 0 ∧ s = x) ∨ s = .no := fun x i s z => by
      match i, z with
      | 0, z => exact .inl ⟨rfl, by simpa using z.symm⟩
      | 1, z => exact .inr (by simpa using z.symm)
      | i + 2, z => simp at z
    have w2 : W K O H' [Sl.bx cs [(tapeTake cs p size seed many).2.1, (tapeTake cs p size seed many).2.2.1, (tapeTake cs p size seed many).2.2.2], Sl.no] ([V.ref a, V.int many].map some) := by
      refine ⟨st.own, rfl, fun i s z => ?_, fun i j s t v u b n z1 z2 z3 z4 f1 f2 => ?_⟩
      · rcases at0 _ i s z with ⟨rfl, rfl⟩ | z
        · exact .inr ⟨.ref a, rfl, a, c, rfl, g1, g2, oa, oc⟩
        · exact .inl z
      · rcases at0 _ i s z1 with ⟨rfl, rfl⟩ | rfl
        · rcases at0 _ j t z2 with ⟨rfl, rfl⟩ | rfl
          · exact n rfl
          · exact f2
        · exact f1
    have fp2 : ∀ b, FpE H' [Sl.bx cs [(tapeTake cs p size seed many).2.1, (tapeTake cs p size seed many).2.2.1, (tapeTake cs p size seed many).2.2.2], Sl.no] ([V.ref a, V.int many].map some) b → b = a ∨ b = c := fun b ⟨i, s, v, z1, z2, z3⟩ => by
      rcases at0 _ i s z1 with ⟨rfl, rfl⟩ | rfl
      · simp at z2; subst z2
        rcases z3 with z3 | ⟨a', r', z3, z4⟩
        · cases z3; exact .inl rfl
        · cases z3; rw [g1] at z4; cases z4; exact .inr rfl
      · exact z3.elim
    refine q O H' (.int (tapeTake cs p size seed many).1) ((st.wide fpa).sub fun b f => f.elim (fp2 b) fun z => z.elim) ⟨w2, by simp only [RepS, RepD], fun b f => f.elim⟩
  | [], hl, _, _ => simp at hl
  | [_], hl, _, _ => simp at hl
  | _ :: _ :: _ :: _, hl, _, _ => simp at hl
theorem scP : FnScope ["script"] ["script"] (defScope sTape) := ⟨rfl, rfl, rfl, by decide +kernel, rfl, by decide +kernel, by decide +kernel⟩
/-- the tape is made -/
theorem ok_tape {f : Addr} {fd : FuncData} (F : Fun K "_law_tape" "_law_tape" sTape f fd) (ml : mg "len" = none) (mt : mg "list" = none) : FnOk P w K mg base CX0 1 f fd ["script"] (spF K (fun _ as => primTape as) 0) := by
  refine F.ok scP (fun vs H Q E h => ?_) (fun cdv A outer s H vs Q E hr h => ?_)
  · obtain ⟨O, as, r, as', wa, e, _⟩ := h
    dsimp only at e
    unfold primTape at e
    split at e
    case h_2 => cases e
    have := wa.len
    simp at this
    simp [this]
  obtain ⟨O, as, r, as', wa, e, q⟩ := h
  dsimp only at e
  unfold primTape at e
  split at e
  case h_2 => cases e
  rename_i ns
  split at e
  case isFalse => cases e
  rename_i hns
  have e := Option.some.inj e
  injection e with e1 e2
  subst e1 e2
  have hl := wa.len
  match vs, hl, wa, q with
  | [], hl, _, _ => simp at hl
  | _ :: _ :: _, hl, _, _ => simp at hl
  | [vb], hl, wa, q =>
    rcases wa.rep 0 _ rfl with z | ⟨u, h1, h2⟩
    · cases z
    simp at h1
    subst h1
    obtain ⟨a, rfl, hs⟩ := h2
    refine ⟨_, pss_one (ps_ret (L2.pe_lst (pa_cons (pe_callTy call_list_of (by rfl) mt PyProof.Rows.boot_list (pa_cons (pe_slice sl_list (pv 0) po_none (po_some pe_int)) pa_nil)) (pa_cons pe_int (pa_cons pe_int (pa_cons (pe_op op_add pe_int (pe_callB call_len_seq (by rfl) ml PySem.boot_len (pa_cons (pv 0) pa_nil))) pa_nil)))))), ?_⟩
    have hcut : cutV (ns.map V.int) none (some 80) = ns.map V.int := by
      apply cutV_whole
      have : (ns.map V.int).length ≤ 63 := by simpa using hns
      constructor
      · rfl
      · show HT.sIx (ns.map V.int).length (ns.map V.int).length (some 80) = (ns.map V.int).length
        unfold HT.sIx
        simp
        omega
    refine ⟨_, rfl, _, rfl, a, _, rfl, hs.sq, fun p1 hp1 => ?_⟩
    rw [hcut]
    refine ⟨p1, _, rfl, .inl (SqL.of upd_same), fun c hc => ?_⟩
    have s1 : Same H (upd H p1 (.lst (ns.map V.int))) := fun b o hb => by rw [upd_ne (ne_of_none hb hp1)]; exact hb
    have s2 : Same (upd H p1 (.lst (ns.map V.int))) (upd (upd H p1 (.lst (ns.map V.int))) c (.lst (ns.map V.int))) := fun b o hb => by rw [upd_ne (ne_of_none hb hc)]; exact hb
    refine ⟨_, rfl, a, _, rfl, .inl ((s1.trans s2).seq hs.sq), _, _, rfl, rfl, (by show 4 ≤ sizeLine; decide), fun b hb => ?_⟩
    have s3 : Same (upd (upd H p1 (.lst (ns.map V.int))) c (.lst (ns.map V.int))) (upd (upd (upd H p1 (.lst (ns.map V.int))) c (.lst (ns.map V.int))) b (.lst [.ref c, .int 0, .int 0, .int (1 + ((ns.map V.int).length : Nat))])) := fun x o hx => by rw [upd_ne (ne_of_none hx hb)]; exact hx
    have sall := (s1.trans s2).trans s3
    have Hc : H c = none := s1.free hc
    have Hb : H b = none := (s1.trans s2).free hb
    have nbc : b ≠ c := fun z => by subst z; rw [upd_same] at hb; cases hb
    have hcb : (upd (upd (upd H p1 (.lst (ns.map V.int))) c (.lst (ns.map V.int))) b (.lst [.ref c, .int 0, .int 0, .int (1 + ((ns.map V.int).length : Nat))])) c = some (.lst (ns.map V.int)) := by rw [upd_ne (Ne.symm nbc), upd_same]
    have hln : ((ns.map V.int).length : Int) = (ns.length : Int) := by simp
    have st : Mini.Step O H F0 (fun x => O x ∨ x = b ∨ x = c) (upd (upd (upd H p1 (.lst (ns.map V.int))) c (.lst (ns.map V.int))) b (.lst [.ref c, .int 0, .int 0, .int (1 + ((ns.map V.int).length : Nat))])) (fun x => x = b ∨ x = c) := by
      refine ⟨⟨wa.own, fun x o hx _ => sall x o hx, fun x hx => ?_, fun x hx => ?_⟩, fun x hx => ?_, fun x hx _ => ?_, fun x hx => ?_⟩
      · rcases hx with hx | rfl | rfl
        · exact .inl hx
        · exact .inr Hb
        · exact .inr Hc
      · cases hq : H x with
        | none => exact absurd hq hx
        | some o => rw [sall x o hq]; exact Option.some_ne_none _
      · rcases hx with hx | rfl | rfl
        · obtain ⟨ys, hy, hw⟩ := wa.own x hx
          exact ⟨ys, sall x _ hy, hw⟩
        · exact ⟨_, upd_same, .l _⟩
        · exact ⟨_, hcb, .l _⟩
      · obtain ⟨ys, hy, _⟩ := wa.own x hx
        exact ⟨.inl hx, by rw [sall x _ hy, hy]⟩
      · rcases hx with rfl | rfl
        · exact .inr Hb
        · exact .inr Hc
    have nf : ∀ x, ¬ FpE H [Sl.sc ns] ([V.ref a].map some) x := fun x ⟨i, s, v, z1, z2, z3⟩ => by
      match i, z1 with
      | 0, z1 => have e : s = .sc ns := by simpa using z1.symm
                 subst e; exact z3
      | i + 1, z1 => simp at z1
    have at0 : ∀ (i : Nat) (s : Sl), ([Sl.no] : En)[i]? = some s → s = .no := fun i s z => by
      match i, z with
      | 0, z => simpa using z.symm
      | i + 1, z => simp at z
    have w2 : W K (fun x => O x ∨ x = b ∨ x = c) (upd (upd (upd H p1 (.lst (ns.map V.int))) c (.lst (ns.map V.int))) b (.lst [.ref c, .int 0, .int 0, .int (1 + ((ns.map V.int).length : Nat))])) [Sl.no] ([V.ref a].map some) :=
      ⟨st.own, rfl, fun i s z => .inl (at0 i s z), fun i j s t v u x n z1 z2 z3 z4 f1 f2 => by rw [at0 i s z1] at f1; exact f1⟩
    have nf2 : ∀ x, ¬ FpE (upd (upd (upd H p1 (.lst (ns.map V.int))) c (.lst (ns.map V.int))) b (.lst [.ref c, .int 0, .int 0, .int (1 + ((ns.map V.int).length : Nat))])) [Sl.no] ([V.ref a].map some) x := fun x ⟨i, s, v, z1, z2, z3⟩ => by rw [at0 i s z1] at z3; exact z3
    refine q _ _ (.ref b) ⟨st.evo, st.own, fun x hx _ => st.keepO x hx id, fun x f => ?_⟩ ⟨w2, ⟨b, c, rfl, ?_, hcb, .inr (.inl rfl), .inr (.inr rfl)⟩, fun x f => nf2 x⟩
    · rcases f with f | f
      · exact (nf2 x f).elim
      · rcases f with f | ⟨a', r', f, g⟩
        · cases f; exact .inr Hb
        · cases f; rw [upd_same] at g; cases g; exact .inr Hc
    · rw [upd_same, hln]; rfl
end
section
variable {P : Program} {w : World} {K : PySem.W.Frag} {mg : Str → Option Value} {base : Heap}
set_option maxHeartbeats 0 in
theorem all_mk {l : PySem.W.OpenLaw} {h : Heap} {fa : Addr} (X : K.In h) (G : h.Ns mainGlobals mg) (hfa : mg "law" = some (.ref fa))
    {f0 : Addr} {od0 an0 : Option Addr} {sl0 : Array (Option Value)} {oc0 kV0 dc0 pm0 cd0 ct0 : Value}
    {f1 : Addr} {od1 an1 : Option Addr} {sl1 : Array (Option Value)} {oc1 kV1 dc1 pm1 cd1 ct1 : Value}
    {f2 : Addr} {od2 an2 : Option Addr} {sl2 : Array (Option Value)} {oc2 kV2 dc2 pm2 cd2 ct2 : Value}
    {f3 : Addr} {od3 an3 : Option Addr} {sl3 : Array (Option Value)} {oc3 kV3 dc3 pm3 cd3 ct3 : Value}
    {f4 : Addr} {od4 an4 : Option Addr} {sl4 : Array (Option Value)} {oc4 kV4 dc4 pm4 cd4 ct4 : Value}
    {f5 : Addr} {od5 an5 : Option Addr} {sl5 : Array (Option Value)} {oc5 kV5 dc5 pm5 cd5 ct5 : Value}
    {f6 : Addr} {od6 an6 : Option Addr} {sl6 : Array (Option Value)} {oc6 kV6 dc6 pm6 cd6 ct6 : Value}
    {f7 : Addr} {od7 an7 : Option Addr} {sl7 : Array (Option Value)} {oc7 kV7 dc7 pm7 cd7 ct7 : Value}
    {f8 : Addr} {od8 an8 : Option Addr} {sl8 : Array (Option Value)} {oc8 kV8 dc8 pm8 cd8 ct8 : Value}
    {f9 : Addr} {od9 an9 : Option Addr} {sl9 : Array (Option Value)} {oc9 kV9 dc9 pm9 cd9 ct9 : Value}
    {f10 : Addr} {od10 an10 : Option Addr} {sl10 : Array (Option Value)} {oc10 kV10 dc10 pm10 cd10 ct10 : Value}
    {f11 : Addr} {od11 an11 : Option Addr} {sl11 : Array (Option Value)} {oc11 kV11 dc11 pm11 cd11 ct11 : Value}
    {f12 : Addr} {od12 an12 : Option Addr} {sl12 : Array (Option Value)} {oc12 kV12 dc12 pm12 cd12 ct12 : Value}
    {f13 : Addr} {od13 an13 : Option Addr} {sl13 : Array (Option Value)} {oc13 kV13 dc13 pm13 cd13 ct13 : Value}
    {f14 : Addr} {od14 an14 : Option Addr} {sl14 : Array (Option Value)} {oc14 kV14 dc14 pm14 cd14 ct14 : Value}
    (a0 : PySem.W.nsIn K mainGlobals "amount_of" = some (some (.ref f0))) (l0 : K.lookup f0 = some ⟨oc0, od0, .func (PySem.W.fnOf "amount_of" "amount_of" (defArgs (top 1)) (defBody (top 1)) (defScope (top 1)) .none kV0 dc0 pm0 an0 cd0 ct0), sl0⟩) (c0 : PySem.W.codeIn K cd0 "amount_of" = true) (k0 : PySem.W.keepIn K (.ref f0) = true)
    (a1 : PySem.W.nsIn K mainGlobals "price_of" = some (some (.ref f1))) (l1 : K.lookup f1 = some ⟨oc1, od1, .func (PySem.W.fnOf "price_of" "price_of" (defArgs (top 2)) (defBody (top 2)) (defScope (top 2)) .none kV1 dc1 pm1 an1 cd1 ct1), sl1⟩) (c1 : PySem.W.codeIn K cd1 "price_of" = true) (k1 : PySem.W.keepIn K (.ref f1) = true)
    (a2 : PySem.W.nsIn K mainGlobals "cost_ladder" = some (some (.ref f2))) (l2 : K.lookup f2 = some ⟨oc2, od2, .func (PySem.W.fnOf "cost_ladder" "cost_ladder" (defArgs (top 3)) (defBody (top 3)) (defScope (top 3)) .none kV2 dc2 pm2 an2 cd2 ct2), sl2⟩) (c2 : PySem.W.codeIn K cd2 "cost_ladder" = true) (k2 : PySem.W.keepIn K (.ref f2) = true)
    (a3 : PySem.W.nsIn K mainGlobals "cheapest" = some (some (.ref f3))) (l3 : K.lookup f3 = some ⟨oc3, od3, .func (PySem.W.fnOf "cheapest" "cheapest" (defArgs (top 4)) (defBody (top 4)) (defScope (top 4)) .none kV3 dc3 pm3 an3 cd3 ct3), sl3⟩) (c3 : PySem.W.codeIn K cd3 "cheapest" = true) (k3 : PySem.W.keepIn K (.ref f3) = true)
    (a4 : PySem.W.nsIn K mainGlobals "best_pack" = some (some (.ref f4))) (l4 : K.lookup f4 = some ⟨oc4, od4, .func (PySem.W.fnOf "best_pack" "best_pack" (defArgs (top 6)) (defBody (top 6)) (defScope (top 6)) .none kV4 dc4 pm4 an4 cd4 ct4), sl4⟩) (c4 : PySem.W.codeIn K cd4 "best_pack" = true) (k4 : PySem.W.keepIn K (.ref f4) = true)
    (a5 : PySem.W.nsIn K mainGlobals "turning_point" = some (some (.ref f5))) (l5 : K.lookup f5 = some ⟨oc5, od5, .func (PySem.W.fnOf "turning_point" "turning_point" (defArgs (top 7)) (defBody (top 7)) (defScope (top 7)) .none kV5 dc5 pm5 an5 cd5 ct5), sl5⟩) (c5 : PySem.W.codeIn K cd5 "turning_point" = true) (k5 : PySem.W.keepIn K (.ref f5) = true)
    (a6 : PySem.W.nsIn K mainGlobals "cost_far" = some (some (.ref f6))) (l6 : K.lookup f6 = some ⟨oc6, od6, .func (PySem.W.fnOf "cost_far" "cost_far" (defArgs (top 8)) (defBody (top 8)) (defScope (top 8)) .none kV6 dc6 pm6 an6 cd6 ct6), sl6⟩) (c6 : PySem.W.codeIn K cd6 "cost_far" = true) (k6 : PySem.W.keepIn K (.ref f6) = true)
    (a7 : PySem.W.nsIn K mainGlobals "floor" = some (some (.ref f7))) (l7 : K.lookup f7 = some ⟨oc7, od7, .func (PySem.W.fnOf "floor" "floor" (defArgs (top 10)) (defBody (top 10)) (defScope (top 10)) .none kV7 dc7 pm7 an7 cd7 ct7), sl7⟩) (c7 : PySem.W.codeIn K cd7 "floor" = true) (k7 : PySem.W.keepIn K (.ref f7) = true)
    (a8 : PySem.W.nsIn K mainGlobals "least_over" = some (some (.ref f8))) (l8 : K.lookup f8 = some ⟨oc8, od8, .func (PySem.W.fnOf "least_over" "least_over" (defArgs (top 11)) (defBody (top 11)) (defScope (top 11)) .none kV8 dc8 pm8 an8 cd8 ct8), sl8⟩) (c8 : PySem.W.codeIn K cd8 "least_over" = true) (k8 : PySem.W.keepIn K (.ref f8) = true)
    (a9 : PySem.W.nsIn K mainGlobals "_law_tape" = some (some (.ref f9))) (l9 : K.lookup f9 = some ⟨oc9, od9, .func (PySem.W.fnOf "_law_tape" "_law_tape" (defArgs (top 14)) (defBody (top 14)) (defScope (top 14)) .none kV9 dc9 pm9 an9 cd9 ct9), sl9⟩) (c9 : PySem.W.codeIn K cd9 "_law_tape" = true) (k9 : PySem.W.keepIn K (.ref f9) = true)
    (a10 : PySem.W.nsIn K mainGlobals "_law_take" = some (some (.ref f10))) (l10 : K.lookup f10 = some ⟨oc10, od10, .func (PySem.W.fnOf "_law_take" "_law_take" (defArgs (top 15)) (defBody (top 15)) (defScope (top 15)) .none kV10 dc10 pm10 an10 cd10 ct10), sl10⟩) (c10 : PySem.W.codeIn K cd10 "_law_take" = true) (k10 : PySem.W.keepIn K (.ref f10) = true)
    (a11 : PySem.W.nsIn K mainGlobals "_law_same" = some (some (.ref f11))) (l11 : K.lookup f11 = some ⟨oc11, od11, .func (PySem.W.fnOf "_law_same" "_law_same" (defArgs (top 16)) (defBody (top 16)) (defScope (top 16)) .none kV11 dc11 pm11 an11 cd11 ct11), sl11⟩) (c11 : PySem.W.codeIn K cd11 "_law_same" = true) (k11 : PySem.W.keepIn K (.ref f11) = true)
    (a12 : PySem.W.nsIn K mainGlobals "_law_packs" = some (some (.ref f12))) (l12 : K.lookup f12 = some ⟨oc12, od12, .func (PySem.W.fnOf "_law_packs" "_law_packs" (defArgs (top 17)) (defBody (top 17)) (defScope (top 17)) .none kV12 dc12 pm12 an12 cd12 ct12), sl12⟩) (c12 : PySem.W.codeIn K cd12 "_law_packs" = true) (k12 : PySem.W.keepIn K (.ref f12) = true)
    (a13 : PySem.W.nsIn K mainGlobals "law" = some (some (.ref f13))) (l13 : K.lookup f13 = some ⟨oc13, od13, .func (PySem.W.fnOf "law" "law" (defArgs (top 18)) (defBody (top 18)) (defScope (top 18)) .none kV13 dc13 pm13 an13 cd13 ct13), sl13⟩) (c13 : PySem.W.codeIn K cd13 "law" = true) (k13 : PySem.W.keepIn K (.ref f13) = true)
    (a14 : PySem.W.nsIn K mainGlobals "_law_mix" = some (some (.ref f14))) (l14 : K.lookup f14 = some ⟨oc14, od14, .func (PySem.W.fnOf "_law_mix" "_law_mix" (defArgs (top 13)) (defBody (top 13)) (defScope (top 13)) .none kV14 dc14 pm14 an14 cd14 ct14), sl14⟩) (c14 : PySem.W.codeIn K cd14 "_law_mix" = true) (k14 : PySem.W.keepIn K (.ref f14) = true)
    (z_len : PySem.W.nsIn K mainGlobals "len" = some none)
    (z_all : PySem.W.nsIn K mainGlobals "all" = some none)
    (z_any : PySem.W.nsIn K mainGlobals "any" = some none)
    (z_sum : PySem.W.nsIn K mainGlobals "sum" = some none)
    (z_min : PySem.W.nsIn K mainGlobals "min" = some none)
    (z_max : PySem.W.nsIn K mainGlobals "max" = some none)
    (z_abs : PySem.W.nsIn K mainGlobals "abs" = some none)
    (z_tuple : PySem.W.nsIn K mainGlobals "tuple" = some none)
    (z_list : PySem.W.nsIn K mainGlobals "list" = some none)
    (z_int : PySem.W.nsIn K mainGlobals "int" = some none)
    (z_sorted : PySem.W.nsIn K mainGlobals "sorted" = some none)
    (z_str : PySem.W.nsIn K mainGlobals "str" = some none)
    (z_bool : PySem.W.nsIn K mainGlobals "bool" = some none)
    (z_isinstance : PySem.W.nsIn K mainGlobals "isinstance" = some none)
    (z_range : PySem.W.nsIn K mainGlobals "range" = some none)
    (z_enumerate : PySem.W.nsIn K mainGlobals "enumerate" = some none)
    (z_zip : PySem.W.nsIn K mainGlobals "zip" = some none)
    (z_reversed : PySem.W.nsIn K mainGlobals "reversed" = some none)
    (z_set : PySem.W.nsIn K mainGlobals "set" = some none) :
    ∃ fd : FuncData, (∀ (s : Shared) (v : Value), BindsTo s fd ⟨[v], []⟩ [("script", v)]) ∧ ∀ base : Heap, K.In base → base.Ns mainGlobals mg → FnOk l.prog w K mg base CX0 40 fa fd ["script"] (spLaw K) := by
  have e := hfa.symm.trans (PySem.W.mg_of X G a13)
  cases e
  have F0 := fun_mk (st := top 1) l0 c0 k0
  have b0 := F0.binds (ps := ["packs", "purchase"]) fun _ _ _ _ _ _ us hl => match us, hl with | [_, _], _ => rfl
  have m0 := PySem.W.mg_of X G a0
  have F1 := fun_mk (st := top 2) l1 c1 k1
  have b1 := F1.binds (ps := ["packs", "purchase"]) fun _ _ _ _ _ _ us hl => match us, hl with | [_, _], _ => rfl
  have m1 := PySem.W.mg_of X G a1
  have F2 := fun_mk (st := top 3) l2 c2 k2
  have b2 := F2.binds (ps := ["packs", "s"]) fun _ _ _ _ _ _ us hl => match us, hl with | [_, _], _ => rfl
  have m2 := PySem.W.mg_of X G a2
  have F3 := fun_mk (st := top 4) l3 c3 k3
  have b3 := F3.binds (ps := ["packs", "s"]) fun _ _ _ _ _ _ us hl => match us, hl with | [_, _], _ => rfl
  have m3 := PySem.W.mg_of X G a3
  have F4 := fun_mk (st := top 6) l4 c4 k4
  have b4 := F4.binds (ps := ["packs"]) fun _ _ _ _ _ _ us hl => match us, hl with | [_], _ => rfl
  have m4 := PySem.W.mg_of X G a4
  have F5 := fun_mk (st := top 7) l5 c5 k5
  have b5 := F5.binds (ps := ["packs"]) fun _ _ _ _ _ _ us hl => match us, hl with | [_], _ => rfl
  have m5 := PySem.W.mg_of X G a5
  have F6 := fun_mk (st := top 8) l6 c6 k6
  have b6 := F6.binds (ps := ["packs", "s"]) fun _ _ _ _ _ _ us hl => match us, hl with | [_, _], _ => rfl
  have m6 := PySem.W.mg_of X G a6
  have F7 := fun_mk (st := top 10) l7 c7 k7
  have b7 := F7.binds (ps := ["packs"]) fun _ _ _ _ _ _ us hl => match us, hl with | [_], _ => rfl
  have m7 := PySem.W.mg_of X G a7
  have F8 := fun_mk (st := top 11) l8 c8 k8
  have b8 := F8.binds (ps := ["packs", "s"]) fun _ _ _ _ _ _ us hl => match us, hl with | [_, _], _ => rfl
  have m8 := PySem.W.mg_of X G a8
  have F9 := fun_mk (st := top 14) l9 c9 k9
  have b9 := F9.binds (ps := ["script"]) fun _ _ _ _ _ _ us hl => match us, hl with | [_], _ => rfl
  have m9 := PySem.W.mg_of X G a9
  have F10 := fun_mk (st := top 15) l10 c10 k10
  have b10 := F10.binds (ps := ["tape", "many"]) fun _ _ _ _ _ _ us hl => match us, hl with | [_, _], _ => rfl
  have m10 := PySem.W.mg_of X G a10
  have F11 := fun_mk (st := top 16) l11 c11 k11
  have b11 := F11.binds (ps := ["a", "b"]) fun _ _ _ _ _ _ us hl => match us, hl with | [_, _], _ => rfl
  have m11 := PySem.W.mg_of X G a11
  have F12 := fun_mk (st := top 17) l12 c12 k12
  have b12 := F12.binds (ps := ["tape", "many", "most"]) fun _ _ _ _ _ _ us hl => match us, hl with | [_, _, _], _ => rfl
  have m12 := PySem.W.mg_of X G a12
  have F13 := fun_mk (st := top 18) l13 c13 k13
  have b13 := F13.binds (ps := ["script"]) fun _ _ _ _ _ _ us hl => match us, hl with | [_], _ => rfl
  have m13 := PySem.W.mg_of X G a13
  have F14 := fun_mk (st := top 13) l14 c14 k14
  have b14 := F14.binds (ps := ["number"]) fun _ _ _ _ _ _ us hl => match us, hl with | [_], _ => rfl
  have m14 := PySem.W.mg_of X G a14
  have n_len := PySem.W.mg_none_of X G z_len
  have n_all := PySem.W.mg_none_of X G z_all
  have n_any := PySem.W.mg_none_of X G z_any
  have n_sum := PySem.W.mg_none_of X G z_sum
  have n_min := PySem.W.mg_none_of X G z_min
  have n_max := PySem.W.mg_none_of X G z_max
  have n_abs := PySem.W.mg_none_of X G z_abs
  have n_tuple := PySem.W.mg_none_of X G z_tuple
  have n_list := PySem.W.mg_none_of X G z_list
  have n_int := PySem.W.mg_none_of X G z_int
  have n_sorted := PySem.W.mg_none_of X G z_sorted
  have n_str := PySem.W.mg_none_of X G z_str
  have n_bool := PySem.W.mg_none_of X G z_bool
  have n_isinstance := PySem.W.mg_none_of X G z_isinstance
  have n_range := PySem.W.mg_none_of X G z_range
  have n_enumerate := PySem.W.mg_none_of X G z_enumerate
  have n_zip := PySem.W.mg_none_of X G z_zip
  have n_reversed := PySem.W.mg_none_of X G z_reversed
  have n_set := PySem.W.mg_none_of X G z_set
  have T : Top gls K mg := by
    refine ⟨gls_of fun p hp => ?_, fun b => by cases b <;> assumption, fun t => by cases t <;> assumption, n_isinstance, n_range, n_enumerate, n_zip, n_reversed, n_set⟩
    simp only [gls, List.mem_cons, List.not_mem_nil, or_false] at hp
  refine ⟨PySem.W.fnOf "law" "law" (defArgs (top 18)) (defBody (top 18)) (defScope (top 18)) .none kV13 dc13 pm13 an13 cd13 ct13, fun s v => .of_eq rfl, fun base _ _ => ?_⟩
  have all : Lvl l.prog w K mg base fns (callN (tbOf es) 39) 39 := all_ok (gl := gls) T rfl (fun j x e hx he => by
    match j, hx, he with
    | 0, hx, he => cases hx; cases he; exact ⟨_, _, rfl, F0, k_amount_of, m0, b0⟩
    | 1, hx, he => cases hx; cases he; exact ⟨_, _, rfl, F1, k_price_of, m1, b1⟩
    | 2, hx, he => cases hx; cases he; exact ⟨_, _, rfl, F2, k_cost_ladder, m2, b2⟩
    | 3, hx, he => cases hx; cases he; exact ⟨_, _, rfl, F3, k_cheapest, m3, b3⟩
    | 4, hx, he => cases hx; cases he; exact ⟨_, _, rfl, F4, k_best_pack, m4, b4⟩
    | 5, hx, he => cases hx; cases he; exact ⟨_, _, rfl, F5, k_turning_point, m5, b5⟩
    | 6, hx, he => cases hx; cases he; exact ⟨_, _, rfl, F6, k_cost_far, m6, b6⟩
    | 7, hx, he => cases hx; cases he; exact ⟨_, _, rfl, F7, k_floor, m7, b7⟩
    | 8, hx, he => cases hx; cases he; exact ⟨_, _, rfl, F8, k_least_over, m8, b8⟩
    | 9, hx, he => cases hx; cases he; exact ⟨f9, _, ["script"], ok_tape F9 n_len n_list, m9, F9.kp, b9⟩
    | 10, hx, he => cases hx; cases he; exact ⟨f10, _, ["tape", "many"], ok_take (ok_take0 F10 (ok_mix F14 n_int) b14 F14.kp m14 n_len n_int), m10, F10.kp, b10⟩
    | 11, hx, he => cases hx; cases he; exact ⟨_, _, rfl, F11, k__law_same, m11, b11⟩
    | 12, hx, he => cases hx; cases he; exact ⟨_, _, rfl, F12, k__law_packs, m12, b12⟩
    | 13, hx, he => cases hx; cases he; exact ⟨_, _, rfl, F13, k_law, m13, b13⟩
    | j + 14, hx, he => simp [fns] at hx) 39
  exact law_imp (j := 13) (P := callN (tbOf es) 40) (fn_body F13 k_law T all (fun as => call_user rfl as)) law_true
end
theorem walk {l : PySem.W.OpenLaw} {q : Program} {loose : List Str} {XP : (Str → Option Value) → Heap → Prop} {YP : World → Heap → Prop} {d : DefRec} {K : Params → PySem.W.Frag} (hn : l.most = some 63) (hdf : d.params.defaults = [])
    (hY : ∀ (w : World) (h : Heap), YP w h → (K w.params).In h)
    (F : ∀ (w : World) (mg : Str → Option Value) (fa : Addr) (h : Heap), (K w.params).In h → h.Ns mainGlobals mg → mg d.name = some (.ref fa) →
      ∃ fd : FuncData, (∀ (s : Shared) (u : Value), BindsTo s fd ⟨[u], []⟩ [("script", u)]) ∧ ∀ base : Heap, (K w.params).In base → base.Ns mainGlobals mg → FnOk l.prog w (K w.params) mg base CX0 40 fa fd ["script"] (spLaw (K w.params))) :
    PySem.W.WalkO q loose XP YP l.row.toRowW d [] (fun f vs => PySem.call f vs) :=
  L2.walk_of (n := 63) (k := 40) (x := "script") (CX := fun _ => CX0) (sp := fun w => spLaw (K w.params)) hn (by decide) hdf ⟨rfl, by decide, by decide⟩ hY F (fun _ _ a ns hl o hS => spLaw_of hl o hS) fun _ _ _ _ _ z => z
end Law
open PySem PySem.W PyProof.Rows
set_option maxHeartbeats 0 in
theorem PySem.Challenge.cw_pantrykept_k10_whole_costs_and_floors_holds : PySem.Challenge.rw_pantrykept_k10_whole_costs_and_floors.Holds := by
  w_on; o_law; k_head; (case hw => w_witness2)
  k_fill
  refine Law.walk (l := PySem.Challenge.rw_pantrykept_k10_whole_costs_and_floors) rfl rfl (fun w h Y => PySem.W.kIn_of Y) ?F
  case F =>
    intro w mg fa h KX G hmg
    refine' Law.all_mk KX G hmg ?a0 ?l0 ?c0 ?k0 ?a1 ?l1 ?c1 ?k1 ?a2 ?l2 ?c2 ?k2 ?a3 ?l3 ?c3 ?k3 ?a4 ?l4 ?c4 ?k4 ?a5 ?l5 ?c5 ?k5 ?a6 ?l6 ?c6 ?k6 ?a7 ?l7 ?c7 ?k7 ?a8 ?l8 ?c8 ?k8 ?a9 ?l9 ?c9 ?k9 ?a10 ?l10 ?c10 ?k10 ?a11 ?l11 ?c11 ?k11 ?a12 ?l12 ?c12 ?k12 ?a13 ?l13 ?c13 ?k13 ?a14 ?l14 ?c14 ?k14 ?z_len ?z_all ?z_any ?z_sum ?z_min ?z_max ?z_abs ?z_tuple ?z_list ?z_int ?z_sorted ?z_str ?z_bool ?z_isinstance ?z_range ?z_enumerate ?z_zip ?z_reversed ?z_set
    (case a0 => k_is)
    (case l0 => k_is)
    (case c0 => k_is)
    (case k0 => k_is)
    (case a1 => k_is)
    (case l1 => k_is)
    (case c1 => k_is)
    (case k1 => k_is)
    (case a2 => k_is)
    (case l2 => k_is)
    (case c2 => k_is)
    (case k2 => k_is)
    (case a3 => k_is)
    (case l3 => k_is)
    (case c3 => k_is)
    (case k3 => k_is)
    (case a4 => k_is)
    (case l4 => k_is)
    (case c4 => k_is)
    (case k4 => k_is)
    (case a5 => k_is)
    (case l5 => k_is)
    (case c5 => k_is)
    (case k5 => k_is)
    (case a6 => k_is)
    (case l6 => k_is)
    (case c6 => k_is)
    (case k6 => k_is)
    (case a7 => k_is)
    (case l7 => k_is)
    (case c7 => k_is)
    (case k7 => k_is)
    (case a8 => k_is)
    (case l8 => k_is)
    (case c8 => k_is)
    (case k8 => k_is)
    (case a9 => k_is)
    (case l9 => k_is)
    (case c9 => k_is)
    (case k9 => k_is)
    (case a10 => k_is)
    (case l10 => k_is)
    (case c10 => k_is)
    (case k10 => k_is)
    (case a11 => k_is)
    (case l11 => k_is)
    (case c11 => k_is)
    (case k11 => k_is)
    (case a12 => k_is)
    (case l12 => k_is)
    (case c12 => k_is)
    (case k12 => k_is)
    (case a13 => k_is)
    (case l13 => k_is)
    (case c13 => k_is)
    (case k13 => k_is)
    (case a14 => k_is)
    (case l14 => k_is)
    (case c14 => k_is)
    (case k14 => k_is)
    (case z_len => k_is)
    (case z_all => k_is)
    (case z_any => k_is)
    (case z_sum => k_is)
    (case z_min => k_is)
    (case z_max => k_is)
    (case z_abs => k_is)
    (case z_tuple => k_is)
    (case z_list => k_is)
    (case z_int => k_is)
    (case z_sorted => k_is)
    (case z_str => k_is)
    (case z_bool => k_is)
    (case z_isinstance => k_is)
    (case z_range => k_is)
    (case z_enumerate => k_is)
    (case z_zip => k_is)
    (case z_reversed => k_is)
    (case z_set => k_is)
