import PyProof.Rows.All
import Wide.All
import OpenK.AllK
import Wide.FinOn
import HandS.ForMost
import HandS.Wide
import HandS.IsInst
import HandS.Flow
import HandS.TupAny
import HandS.Deep
import HandS.TupMul
import HandS.TupLe
import HandS.SortOrd
import HandS.Style
import HandS.Conv
import HandS.Text
import KE.GoesNew
import KE.GoesMore
import HandS.Iter
import HandS.Zip
import HandS.SetFor
import HandS.Strs
import KE.GoesEnum
import HandS.WideMore
import HandS.Ends
import PySem.Challenge.RW_pantrykept_k18_whole_menus_judged
set_option Elab.async false
set_option linter.all false
set_option maxRecDepth 100000
set_option autoImplicit false
namespace Mini
open PySem L2
/-! A small evaluator over plain data: values by value, owned lists in slots. -/
abbrev D := PyData
inductive Sl where
  | no | v (d : D) | l (xs : List D) | bx (cs rs : List Int) | sc (ns : List Int)
abbrev En := List Sl
inductive Opd where
  | d (x : D) | s (i : Nat)
def Sl.frz : Sl → Option D
  | .v d => some d
  | .l xs => some (.list xs)
  | _ => none
def Sl.rd : Sl → Option D
  | .v d => some d
  | .l xs => some (.list xs)
  | _ => none
def Sl.isBx : Sl → Bool
  | .bx _ _ => true
  | _ => false
def Opd.get (env : En) : Opd → Option D
  | .d x => some x
  | .s i => (env[i]?).bind Sl.rd
inductive T where
  | nm (i : Nat) | tp (ts : List T)
inductive IK where
  | seq | rng | enum | zip | rev
inductive Ty where
  | int | bool | tuple | list | str
inductive Bl where
  | len | all | any | sum | min | max | abs | tuple | list | int | sorted | str
inductive Mt where
  | index
inductive E where
  | var (i : Nat) | cst (d : D)
  | bin (op : Operator) (a b : E) | neg (a : E)
  | cmp (op : CmpOp) (a b : E) | chn (op op2 : CmpOp) (a b c : E)
  | isn (ng : Bool) (a : E)
  | bop (o : BoolOp) (es : List E)
  | not (a : E)
  | ite (c a b : E)
  | tup (es : List E) | lst (es : List E)
  | idx (a i : E) | slc (a : E) (lo hi : List E)
  | call (f : Nat) (es : List E) | callB (f : Nat) (i : Nat) (es : List E) | callS (f : Nat) (i : Nat)
  | blt (b : Bl) (es : List E)
  | isi (a : E) (t : Ty)
  | lc (t : T) (k : IK) (its : List E) (cond : List E) (elt : E) (own : List Nat)
  | pop (i : Nat)
  | mth (m : Mt) (a e : E)
  | rev (a : E) | isb (ng k : Bool) (a : E) | rgv (tup : Bool) (es : List E) | upper (a : E) | sset (a : E)
inductive C where
  | asg (t : T) (e : E)
  | seti (x : Nat) (i e : E)
  | aug (i : Nat) (op : Operator) (e : E)
  | augi (x : Nat) (i : E) (op : Operator) (e : E)
  | app (x : Nat) (e : E) | ext (x : Nat) (e : E)
  | expr (e : E)
  | ret (e : E)
  | ife (c : E) (a b : List C)
  | wh (c : E) (b : List C)
  | fr (t : T) (k : IK) (its : List E) (b : List C)
  | brk | cont | pass | never
inductive Out where
  | nx (e : En) | rt (s : Sl) (e : En) | bk (e : En) | ct (e : En)
structure M where
  val : En → Option (Sl × En)
  opd : En → Option (Opd × En)
  tst : En → Option (Bool × En)
/-! data -/
def truth : D → Option Bool
  | .none => some false
  | .bool b => some b
  | .int i => some (i != 0)
  | .str s => if s.length ≤ sizeLine then some ((s.length : Int) != 0) else none
  | .list xs => some !xs.isEmpty
  | .tuple xs => some !xs.isEmpty
  | .dict _ => none
def mulOk (i j : Int) : Prop := i.natAbs.log2 + j.natAbs.log2 < 1000000 ∨ CMul i j
instance (i j : Int) : Decidable (CMul i j) := by unfold CMul; infer_instance
instance (i j : Int) : Decidable (mulOk i j) := by unfold mulOk; infer_instance
def divOk (j : Int) : Prop := 0 < j ∧ j.natAbs.log2 < 9000
instance (j : Int) : Decidable (divOk j) := by unfold divOk; infer_instance
def powOk (i j : Int) : Prop := 0 ≤ j ∧ j ≤ 1000000 ∧ i.natAbs < 2 ^ 64
instance (i j : Int) : Decidable (powOk i j) := by unfold powOk; infer_instance
def binD : Operator → D → D → Option Sl
  | .Add, .int i, .int j => some (.v (.int (i + j)))
  | .Add, .str i, .str j => if i.length + j.length ≤ sizeLine then some (.v (.str (i ++ j))) else none
  | .Add, .tuple xs, .tuple ys => if xs.length + ys.length ≤ sizeLine then some (.v (.tuple (xs ++ ys))) else none
  | .Add, .list xs, .list ys => if xs.length + ys.length ≤ sizeLine then some (.l (xs ++ ys)) else none
  | .Sub, .int i, .int j => some (.v (.int (i - j)))
  | .Mult, .int i, .int j => if mulOk i j then some (.v (.int (i * j))) else none
  | .Mult, .list xs, .int k => if -(2 ^ 63) ≤ k ∧ k < 2 ^ 63 ∧ xs.length * k.toNat ≤ sizeLine then some (.l (List.replicate k.toNat xs).flatten) else none
  | .Mult, .tuple xs, .int k => if xs ≠ [] ∧ 2 ≤ k ∧ k ≤ 1000 ∧ xs.length ≤ 1000 then some (.v (.tuple (List.replicate k.toNat xs).flatten)) else if k = 1 then some (.v (.tuple xs)) else if k = 0 ∧ xs ≠ [] then some (.v (.tuple [])) else none
  | .FloorDiv, .int i, .int j => if divOk j then some (.v (.int (i / j))) else none
  | .Mod, .int i, .int j => if 0 < j then some (.v (.int (i % j))) else none
  | .Pow, .int i, .int j => if powOk i j then some (.v (.int (i ^ j.toNat))) else none
  | _, _, _ => none
def augD : Operator → D → D → Option Sl
  | .Add, .int i, .int j => some (.v (.int (i + j)))
  | .Add, .tuple xs, .tuple ys => if xs.length + ys.length ≤ sizeLine then some (.v (.tuple (xs ++ ys))) else none
  | .Sub, .int i, .int j => some (.v (.int (i - j)))
  | .Mult, .int i, .int j => if CMul i j then some (.v (.int (i * j))) else none
  | .Mod, .int i, .int j => if 0 < j then some (.v (.int (i % j))) else none
  | .FloorDiv, .int i, .int j => if divOk j then some (.v (.int (i / j))) else none
  | _, _, _ => none
def negD : D → Option Sl
  | .int i => some (.v (.int (-i)))
  | _ => none
def b2s (b : Bool) : Option Sl := some (.v (.bool b))
def intsL : List D → Option (List Int)
  | [] => some []
  | .int i :: r => (intsL r).map (i :: ·)
  | _ => none
def cmpD : CmpOp → D → D → Option Sl
  | .Eq, a, b => if SeqAt.shaped a = true ∧ SeqAt.shaped b = true then b2s (PyData.eqv a b) else none
  | .NotEq, a, b => if SeqAt.shaped a = true ∧ SeqAt.shaped b = true then b2s (!PyData.eqv a b) else none
  | .Lt, .int i, .int j => b2s (decide (i < j))
  | .LtE, .int i, .int j => b2s (decide (i ≤ j))
  | .Gt, .int i, .int j => b2s (decide (j < i))
  | .GtE, .int i, .int j => b2s (decide (j ≤ i))
  | .In, a, .list ds => if SeqAt.shaped a = true ∧ SeqAt.shaped (.list ds) = true then b2s (ds.any fun z => PyData.eqv z a) else none
  | .Lt, .tuple xs, .tuple ys => (intsL xs).bind fun ns => (intsL ys).bind fun ms => b2s (HT.lexLt ns ms)
  | .In, a, .tuple ds => if SeqAt.shaped a = true ∧ SeqAt.shaped (.tuple ds) = true then b2s (ds.any fun z => PyData.eqv z a) else none
  | .NotIn, a, .tuple ds => if SeqAt.shaped a = true ∧ SeqAt.shaped (.tuple ds) = true then b2s (!ds.any fun z => PyData.eqv z a) else none
  | .NotIn, a, .list ds => if SeqAt.shaped a = true ∧ SeqAt.shaped (.list ds) = true then b2s (!ds.any fun z => PyData.eqv z a) else none
  | _, _, _ => none
def isnD (ng : Bool) : D → Option Sl
  | .none => b2s (!ng)
  | _ => b2s ng
def isbD (ng k : Bool) : D → Option Sl
  | .bool b => b2s (if ng then !decide (b = k) else decide (b = k))
  | _ => none
def revD : D → Option Sl
  | .list xs => some (.l xs.reverse)
  | .tuple xs => some (.v (.tuple xs.reverse))
  | _ => none
def upperD : D → Option Sl
  | .str s => if s.length ≤ 5592405 then some (.v (.str (Txt.upper s))) else none
  | _ => none
def insU (x : Int) : List Int → List Int
  | [] => [x]
  | y :: ys => if x < y then x :: y :: ys else if x = y then y :: ys else y :: insU x ys
def sset : List Int → List Int
  | [] => []
  | n :: ns => insU n (sset ns)
def ssetD : D → Option Sl
  | .tuple xs => (intsL xs).bind fun ns => if ns.length < 64 then some (.l ((sset ns).map .int)) else none
  | _ => none
def idxD : D → D → Option Sl
  | .list xs, .int i => (atI xs i).map .v
  | .tuple xs, .int i => (atI xs i).map .v
  | _, _ => none
def cutD (xs : List D) (lo hi : Option Int) : List D := (xs.drop (HT.sIx xs.length 0 lo)).take (HT.sIx xs.length xs.length hi - HT.sIx xs.length 0 lo)
def slcD : D → Option Int → Option Int → Option Sl
  | .list xs, lo, hi => some (.l (cutD xs lo hi))
  | .tuple xs, lo, hi => some (.v (.tuple (cutD xs lo hi)))
  | _, _, _ => none
def isiD : D → Ty → Bool
  | .int _, .int => true
  | .bool _, .int => true
  | .bool _, .bool => true
  | .tuple _, .tuple => true
  | .list _, .list => true
  | .str _, .str => true
  | _, _ => false
def boolsL : List D → Option (List Bool)
  | [] => some []
  | .bool i :: r => (boolsL r).map (i :: ·)
  | _ => none
def maxL : List Int → Option Int
  | [] => none
  | x :: r => some (r.foldl max x)
def minL : List Int → Option Int
  | [] => none
  | x :: r => some (r.foldl min x)
def bltD : Bl → List D → Option Sl
  | .len, [.list xs] => some (.v (.int xs.length))
  | .len, [.tuple xs] => some (.v (.int xs.length))
  | .len, [.str s] => if s.length ≤ sizeLine then some (.v (.int s.length)) else none
  | .all, [.list xs] => (boolsL xs).map fun bs => .v (.bool (bs.all id))
  | .any, [.list xs] => (boolsL xs).map fun bs => .v (.bool (bs.any id))
  | .sum, [.list xs] => (intsL xs).map fun is => .v (.int is.sum)
  | .max, [.list xs] => (intsL xs).bind fun is => (maxL is).map fun m => .v (.int m)
  | .min, [.list xs] => (intsL xs).bind fun is => (minL is).map fun m => .v (.int m)
  | .max, [.int i, .int j] => some (.v (.int (if j > i then j else i)))
  | .min, [.int i, .int j] => some (.v (.int (if j < i then j else i)))
  | .abs, [.int i] => some (.v (.int (if i < 0 then -i else i)))
  | .int, [.int i] => some (.v (.int i))
  | .int, [.bool i] => some (.v (.int (if i then 1 else 0)))
  | .str, [.int i] => if i.natAbs.log2 < 1920 then some (.v (.str (toString i))) else none
  | .tuple, [.list xs] => some (.v (.tuple xs))
  | .tuple, [.tuple xs] => some (.v (.tuple xs))
  | .list, [.list xs] => some (.l xs)
  | .list, [.tuple xs] => some (.l xs)
  | _, _ => none
def rngOk (i : Int) : Prop := -(2 ^ 62) ≤ i ∧ i < 2 ^ 62
instance (j : Int) : Decidable (rngOk j) := by unfold rngOk; infer_instance
def rngL (lo : Int) (n : Nat) : List D := (List.range n).map fun (i : Nat) => .int (lo + i)
def enumL (xs : List D) (k : Nat) : List D := match xs with
  | [] => []
  | x :: r => .tuple [.int k, x] :: enumL r (k + 1)
def seqD : D → Option (List D)
  | .list xs => some xs
  | .tuple xs => some xs
  | _ => none
def zipL3 : List D → List D → List D → List D
  | x :: xs, y :: ys, z :: zs => .tuple [x, y, z] :: zipL3 xs ys zs
  | _, _, _ => []
def zipL : List D → List D → List D
  | x :: xs, y :: ys => .tuple [x, y] :: zipL xs ys
  | _, _ => []
def itemsOf : IK → List D → Option (List D)
  | .seq, [.list xs] => some xs
  | .seq, [.tuple xs] => some xs
  | .rng, [.int n] => if rngOk n ∧ n ≤ sizeLine then some (rngL 0 n.toNat) else none
  | .rng, [.int a, .int b] => if rngOk a ∧ rngOk b ∧ b - a ≤ sizeLine then some (rngL a (b - a).toNat) else none
  | .enum, [.list xs] => some (enumL xs 0)
  | .enum, [.tuple xs] => some (enumL xs 0)
  | .zip, [.list xs, .list ys] => some (zipL xs ys)
  | .zip, [.tuple xs, .tuple ys] => some (zipL xs ys)
  | .zip, [.list xs, .tuple ys] => some (zipL xs ys)
  | .zip, [.tuple xs, .list ys] => some (zipL xs ys)
  | .zip, [a, b, c] => (seqD a).bind fun xs => (seqD b).bind fun ys => (seqD c).map fun zs => zipL3 xs ys zs
  | .rev, [.list xs] => some xs.reverse
  | _, _ => none
instance (a b : Int) : Decidable (RgOk a b) := by unfold RgOk; infer_instance
def rgvD (tup : Bool) : List D → Option Sl
  | [.int n] => if RgOk 0 n then some (if tup then .v (.tuple (rngL 0 n.toNat)) else .l (rngL 0 n.toNat)) else none
  | [.int a, .int b] => if RgOk a b then some (if tup then .v (.tuple (rngL a (b - a).toNat)) else .l (rngL a (b - a).toNat)) else none
  | _ => none
/-! environments -/
def setS (i : Nat) (s : Sl) (env : En) : Option En := match env[i]? with
  | none => none
  | some (.bx _ _) => none
  | some _ => some (env.set i s)
mutual
def asgT : T → D → En → Option En
  | .nm i, d, env => setS i (.v d) env
  | .tp ts, .tuple ds, env => asgTs ts ds env
  | .tp _, _, _ => none
def asgTs : List T → List D → En → Option En
  | [], [], env => some env
  | t :: ts, d :: ds, env => (asgT t d env).bind (asgTs ts ds)
  | _, _, _ => none
end
def wipeE (env : En) : List Nat → En
  | [] => env
  | v :: vs => (wipeE env vs).set v .no
def frzM (f : En → Option (Sl × En)) (env : En) : Option (D × En) := (f env).bind fun (s, e1) => s.frz.map fun d => (d, e1)
def trM (g : En → Option (Opd × En)) (env : En) : Option (Bool × En) := (g env).bind fun (p, e1) => (p.get e1).bind fun d => (truth d).map fun b => (b, e1)
def M.ofVal (f : En → Option (Sl × En)) : M :=
  { val := f
    opd := fun env => (frzM f env).map fun (d, e1) => (.d d, e1)
    tst := trM fun env => (frzM f env).map fun (d, e1) => (.d d, e1) }
def varM (i : Nat) : M :=
  let o : En → Option (Opd × En) := fun env => match env[i]? with
    | some (.v d) => some (.d d, env)
    | some (.l _) => some (.s i, env)
    | _ => none
  { val := fun env => match env[i]? with
      | some (.v d) => some (.v d, env)
      | some (.l xs) => some (.v (.list xs), env.set i (.v (.list xs)))
      | _ => none
    opd := o
    tst := trM o }
def op1 (f : D → Option Sl) (a : M) : M := .ofVal fun env => (a.opd env).bind fun (p, e1) => (p.get e1).bind fun x => (f x).map fun r => (r, e1)
def op2 (f : D → D → Option Sl) (a b : M) : M := .ofVal fun env => (a.opd env).bind fun (p, e1) => (b.opd e1).bind fun (q, e2) => (p.get e2).bind fun x => (q.get e2).bind fun y => (f x y).map fun r => (r, e2)
def bOf : Sl → Option Bool
  | .v (.bool b) => some b
  | _ => none
/-- a comparison as a test -/
def M.cmp (f : En → Option (Sl × En)) : M := { M.ofVal f with tst := fun env => (f env).bind fun (s, e1) => (bOf s).map fun b => (b, e1) }
def cmpM (op : CmpOp) (a b : M) : M := .cmp (op2 (cmpD op) a b).val
def chnM (op op2 : CmpOp) (a b c : M) : M := .cmp fun env => (a.opd env).bind fun (p, e1) => (b.opd e1).bind fun (q, e2) => (p.get e2).bind fun x => (q.get e2).bind fun y =>
  (cmpD op x y).bind fun r => (bOf r).bind fun k => if k then (c.opd e2).bind fun (t, e3) => (q.get e3).bind fun y2 => (t.get e3).bind fun z => (cmpD op2 y2 z).map fun r2 => (r2, e3) else some (.v (.bool false), e2)
def isnM (ng : Bool) (a : M) : M := .cmp (op1 (isnD ng) a).val
def notM (a : M) : M :=
  { M.ofVal (fun env => (trM a.opd env).map fun (b, e1) => (.v (.bool !b), e1)) with tst := fun env => (a.tst env).map fun (b, e1) => (!b, e1) }
def isAnd : BoolOp → Bool
  | .And => true
  | .Or => false
def bopV (o : BoolOp) : List M → En → Option (D × En)
  | [], _ => none
  | [a], env => frzM a.val env
  | a :: r, env => (frzM a.val env).bind fun (d, e1) => (truth d).bind fun k => if k == isAnd o then bopV o r e1 else some (d, e1)
def bopT (o : BoolOp) : List M → En → Option (Bool × En)
  | [], _ => none
  | [a], env => a.tst env
  | a :: r, env => (a.tst env).bind fun (k, e1) => if k == isAnd o then bopT o r e1 else some (k, e1)
def bopM (o : BoolOp) (es : List M) : M := { M.ofVal (fun env => (bopV o es env).map fun (d, e1) => (.v d, e1)) with tst := bopT o es }
def iteM (c a b : M) : M := { M.ofVal (fun env => (c.tst env).bind fun (k, e1) => if k then a.val e1 else b.val e1) with tst := fun env => (c.tst env).bind fun (k, e1) => if k then a.tst e1 else b.tst e1 }
/-- arguments, frozen, from the left -/
def argsM : List M → En → Option (List D × En)
  | [], env => some ([], env)
  | a :: r, env => (frzM a.val env).bind fun (d, e1) => (argsM r e1).map fun (ds, e2) => (d :: ds, e2)
/-- operands, looked at -/
def opsM : List M → En → Option (List Opd × En)
  | [], env => some ([], env)
  | a :: r, env => (a.opd env).bind fun (p, e1) => (opsM r e1).map fun (ps, e2) => (p :: ps, e2)
def gets (env : En) : List Opd → Option (List D)
  | [] => some []
  | p :: r => (p.get env).bind fun d => (gets env r).map (d :: ·)
def tupM (es : List M) : M := .ofVal fun env => (argsM es env).bind fun (ds, e1) => if ds.length ≤ sizeLine then some (.v (.tuple ds), e1) else none
def lstM (es : List M) : M := .ofVal fun env => (argsM es env).bind fun (ds, e1) => if ds.length ≤ sizeLine then some (.l ds, e1) else none
def bltM (b : Bl) (es : List M) : M := .ofVal fun env => (opsM es env).bind fun (ps, e1) => (gets e1 ps).bind fun ds => (bltD b ds).map fun r => (r, e1)
def partM : List M → En → Option (Option Int × En)
  | [], env => some (none, env)
  | [a], env => (a.opd env).bind fun (p, e1) => (p.get e1).bind fun d => match d with
    | .int i => some (some i, e1)
    | _ => none
  | _, _ => none
def slcM (a : M) (lo hi : List M) : M := .ofVal fun env => (a.opd env).bind fun (p, e1) => (partM lo e1).bind fun (l, e2) => (partM hi e2).bind fun (h, e3) => (p.get e3).bind fun x => (slcD x l h).map fun r => (r, e3)
abbrev Ph := Nat → List Sl → Option (Sl × List Sl)
def retOf (P : Ph) (f : Nat) (as : List Sl) : Option Sl := (P f as).map fun r => r.1
def retB (P : Ph) (f : Nat) (as : List Sl) : Option (Sl × Sl) := (P f as).bind fun r => match r.2 with
  | b :: _ => some (r.1, b)
  | [] => none
def callM (P : Ph) (f : Nat) (es : List M) : M := .ofVal fun env => (argsM es env).bind fun (ds, e1) => (retOf P f (ds.map .v)).map fun r => (r, e1)
def callSM (P : Ph) (f : Nat) (i : Nat) : M := .ofVal fun env => match env[i]? with
  | some (.sc ns) => (retOf P f [.sc ns]).map fun r => (r, env)
  | _ => none
def isB : Option Sl → Bool
  | some (.bx _ _) => true
  | _ => false
def callBM (P : Ph) (f : Nat) (i : Nat) (es : List M) : M := .ofVal fun env => if isB env[i]? then (argsM es env).bind fun (ds, e1) => match e1[i]? with
  | some (.bx cs rs) => (retB P f (.bx cs rs :: ds.map .v)).bind fun (r, b) => match b with
    | .bx cs2 rs2 => some (r, e1.set i (.bx cs2 rs2))
    | _ => none
  | _ => none else none
def stillB (e0 : En) (e1 : En) : List Opd → Prop
  | [] => True
  | .d _ :: r => stillB e0 e1 r
  | .s i :: r => e1[i]? = e0[i]? ∧ stillB e0 e1 r
def condM : List M → En → Option (Bool × En)
  | [], env => some (true, env)
  | [c], env => c.tst env
  | _, _ => none
open Classical in
noncomputable def lcLoop (t : T) (cond : List M) (elt : M) (own : List Nat) (ps : List Opd) (e0 : En) : List D → En → Option (List D × En)
  | [], env => some ([], env)
  | x :: xs, env => (asgT t x env).bind fun e1 => (condM cond e1).bind fun (b, e2) =>
      if b then (frzM elt.val e2).bind fun (d, e3) => if stillB e0 (wipeE e3 own) ps then (lcLoop t cond elt own ps e0 xs (wipeE e3 own)).map fun (r, e4) => (d :: r, e4) else none
      else if stillB e0 (wipeE e2 own) ps then lcLoop t cond elt own ps e0 xs (wipeE e2 own) else none
/-- the outer names that a comprehension's own hid -/
def restE (e1 e2 : En) : List Nat → En
  | [] => e2
  | i :: r => match e1[i]? with
    | some (.v d) => (restE e1 e2 r).set i (.v d)
    | _ => restE e1 e2 r
open Classical in
noncomputable def lcM (t : T) (k : IK) (its cond : List M) (elt : M) (own : List Nat) : M := .ofVal fun env => (opsM its env).bind fun (ps, e1) => (gets e1 ps).bind fun ds => (itemsOf k ds).bind fun xs =>
  if stillB e1 (wipeE e1 own) ps then (lcLoop t cond elt own ps e1 xs (wipeE e1 own)).map fun (r, e2) => (.l r, restE e1 e2 own) else none
def popM (i : Nat) : M := .ofVal fun env => match env[i]? with
  | some (.l xs) => match xs.getLast? with
    | some d => some (.v d, env.set i (.l xs.dropLast))
    | none => none
  | _ => none
def idxOf (d : D) : List D → Nat → Option Nat
  | [], _ => none
  | x :: xs, k => if PyData.eqv x d then some k else idxOf d xs (k + 1)
def mthD : Mt → D → D → Option Sl
  | .index, .list xs, d => if SeqAt.shaped (.list xs) = true ∧ SeqAt.shaped d = true then (idxOf d xs 0).map fun (k : Nat) => .v (.int k) else none
  | _, _, _ => none
def rgvM (tup : Bool) (es : List M) : M := .ofVal fun env => (opsM es env).bind fun (ps, e1) => (gets e1 ps).bind fun ds => (rgvD tup ds).map fun r => (r, e1)
def isStr : D → Bool
  | .str _ => true
  | _ => false
def upperM (a : M) : M := .ofVal fun env => (a.opd env).bind fun (p, e1) => (p.get e1).bind fun x0 => if isStr x0 then (upperD x0).map fun r => (r, e1) else none
def isLst : D → Bool
  | .list _ => true
  | _ => false
def mthM (m : Mt) (a b : M) : M := .ofVal fun env => (a.opd env).bind fun (p, e1) => (p.get e1).bind fun x0 => if isLst x0 then (b.opd e1).bind fun (q, e2) => (p.get e2).bind fun x => (q.get e2).bind fun y => (mthD m x y).map fun r => (r, e2) else none
mutual
noncomputable def ev (P : Ph) : E → M
  | .var i => varM i
  | .cst d => .ofVal fun env => some (.v d, env)
  | .bin op a b => op2 (binD op) (ev P a) (ev P b)
  | .neg a => op1 negD (ev P a)
  | .cmp op a b => cmpM op (ev P a) (ev P b)
  | .chn op op2 a b c => chnM op op2 (ev P a) (ev P b) (ev P c)
  | .isn ng a => isnM ng (ev P a)
  | .bop o es => bopM o (evs P es)
  | .not a => notM (ev P a)
  | .ite c a b => iteM (ev P c) (ev P a) (ev P b)
  | .tup es => tupM (evs P es)
  | .lst es => lstM (evs P es)
  | .idx a i => op2 idxD (ev P a) (ev P i)
  | .slc a lo hi => slcM (ev P a) (evs P lo) (evs P hi)
  | .call f es => callM P f (evs P es)
  | .callB f i es => callBM P f i (evs P es)
  | .callS f i => callSM P f i
  | .blt b es => bltM b (evs P es)
  | .isi a t => .cmp (op1 (fun d => some (.v (.bool (isiD d t)))) (ev P a)).val
  | .lc t k its cond elt own => lcM t k (evs P its) (evs P cond) (ev P elt) own
  | .pop i => popM i
  | .mth m a e => mthM m (ev P a) (ev P e)
  | .rev a => op1 revD (ev P a)
  | .isb ng k a => .cmp (op1 (isbD ng k) (ev P a)).val
  | .rgv tup es => rgvM tup (evs P es)
  | .upper a => upperM (ev P a)
  | .sset a => op1 ssetD (ev P a)
noncomputable def evs (P : Ph) : List E → List M
  | [] => []
  | e :: es => ev P e :: evs P es
end
/-! statements -/
def Out.bind (o : Option Out) (f : En → Option Out) : Option Out := o.bind fun r => match r with
  | .nx e => f e
  | r => some r
/-- while, in at most n turns -/
def whN (c : En → Option (Bool × En)) (b : En → Option Out) : Nat → En → Option Out
  | 0, _ => none
  | n + 1, env => (c env).bind fun (k, e1) => if k then (b e1).bind fun r => match r with
      | .nx e2 => whN c b n e2
      | .ct e2 => whN c b n e2
      | .bk e2 => some (.nx e2)
      | .rt s e2 => some (.rt s e2)
    else some (.nx e1)
open Classical in
noncomputable def whC (c : En → Option (Bool × En)) (b : En → Option Out) (env : En) : Option Out :=
  if h : ∃ n r, whN c b n env = some r then some h.choose_spec.choose else none
def frL (t : T) (b : En → Option Out) : List D → En → Option Out
  | [], env => some (.nx env)
  | x :: xs, env => (asgT t x env).bind fun e1 => (b e1).bind fun r => match r with
      | .nx e2 => frL t b xs e2
      | .ct e2 => frL t b xs e2
      | .bk e2 => some (.nx e2)
      | .rt s e2 => some (.rt s e2)
/-- an operand frozen -/
def frO (m : M) : M := { m with opd := fun env => (frzM m.val env).map fun (d, e1) => (.d d, e1) }
def appS (x : Nat) (d : D) (env : En) : Option Out := match env[x]? with
  | some (.l xs) => if xs.length < sizeLine then some (.nx (env.set x (.l (xs ++ [d])))) else none
  | _ => none
def extS (x : Nat) (d : D) (env : En) : Option Out := match env[x]?, d with
  | some (.l xs), .list ys => if xs.length + ys.length ≤ sizeLine then some (.nx (env.set x (.l (xs ++ ys)))) else none
  | _, _ => none
def setiS (x : Nat) (i : D) (d : D) (env : En) : Option Out := match env[x]?, i with
  | some (.l xs), .int k => (ixN xs.length k).map fun j => .nx (env.set x (.l (xs.set j d)))
  | _, _ => none
def isL : Option Sl → Bool
  | some (.l _) => true
  | _ => false
mutual
noncomputable def ex (P : Ph) : C → En → Option Out
  | .asg (.nm i) e, env => ((ev P e).val env).bind fun (s, e1) => (setS i s e1).map .nx
  | .asg t e, env => (frzM (ev P e).val env).bind fun (d, e1) => (asgT t d e1).map .nx
  | .seti x i e, env => (frzM (ev P e).val env).bind fun (d, e1) => if isL e1[x]? then ((ev P i).opd e1).bind fun (p, e2) => (p.get e2).bind fun k => setiS x k d e2 else none
  | .aug i op e, env => match env[i]? with
    | some (.v a) => (frzM (ev P e).val env).bind fun (d, e1) => (augD op a d).bind fun r => (setS i r e1).map .nx
    | _ => none
  | .augi x i op e, env => if isL env[x]? then ((ev P i).opd env).bind fun (p, e1) => (p.get e1).bind fun k => match e1[x]?, k with
    | some (.l xs), .int n => (atI xs n).bind fun old => (frzM (ev P e).val e1).bind fun (d, e2) => (augD op old d).bind fun r => r.frz.bind fun z => setiS x k z e2
    | _, _ => none else none
  | .app x e, env => if isL env[x]? then (frzM (ev P e).val env).bind fun (d, e1) => appS x d e1 else none
  | .ext x e, env => if isL env[x]? then (frzM (ev P e).val env).bind fun (d, e1) => extS x d e1 else none
  | .expr e, env => ((ev P e).val env).map fun (_, e1) => .nx e1
  | .ret e, env => ((ev P e).val env).map fun (s, e1) => .rt s e1
  | .ife c a b, env => ((ev P c).tst env).bind fun (k, e1) => if k then exs P a e1 else exs P b e1
  | .wh c b, env => whC (ev P c).tst (exs P b) env
  | .fr t k its b, env => (opsM ((evs P its).map frO) env).bind fun (ps, e1) => (gets e1 ps).bind fun ds => (itemsOf k ds).bind fun xs => frL t (exs P b) xs e1
  | .brk, env => some (.bk env)
  | .cont, env => some (.ct env)
  | .pass, env => some (.nx env)
  | .never, _ => none
noncomputable def exs (P : Ph) : List C → En → Option Out
  | [], env => some (.nx env)
  | c :: cs, env => (ex P c env).bind fun r => match r with
    | .nx e1 => exs P cs e1
    | .rt s e1 => some (.rt s e1)
    | .bk e1 => some (.bk e1)
    | .ct e1 => some (.ct e1)
end
inductive Fn where
  | user (b : Bool) (p n : Nat) (body : List C)
  | prim (m : Nat) (g : List Sl → Option (Sl × List Sl))
def hasBx : List Sl → Bool
  | .bx _ _ :: _ => true
  | _ => false
noncomputable def runB (P : Ph) (b : Bool) (p n : Nat) (body : List C) (as : List Sl) : Option (Sl × List Sl) :=
  if as.length = p ∧ hasBx as = b then (exs P body (as ++ List.replicate (n - p) .no)).bind fun r => match r with
    | .nx e => some (.v .none, e)
    | .rt s e => some (s, e)
    | _ => none
  else none
noncomputable def callN (tb : Nat → Option Fn) : Nat → Ph
  | 0 => fun _ _ => none
  | d + 1 => fun f as => match tb f with
    | some (.user b p n body) => runB (callN tb d) b p n body as
    | some (.prim m g) => if m ≤ d then g as else none
    | none => none
end Mini

namespace Mini
open PySem PySem.Spec PyProof.Rows L2
/-! zip of two and of three, lists and tuples in any mix -/
def Sq (K : PySem.W.Frag) : Bool → Hp → Addr → List V → Prop
  | true, H, a, xs => SqL K H a xs
  | false, H, a, xs => SqT K H a xs
def HSq : Bool → Heap → Addr → Array Value → Prop
  | true, h, a, xs => h.IsList a xs
  | false, h, a, xs => h.IsTuple a xs
def HIt : Bool → Heap → Addr → Addr → Nat → Prop
  | true, h, it, a, i => h.IsListIter it a i
  | false, h, it, a, i => h.IsTupleIter it a i
def itO : Bool → Addr → Obj
  | true, a => { cls := .type "list_iterator", data := .fields #[.ref a, .int 0 0] }
  | false, a => { cls := .type "tuple_iterator", data := .fields #[.ref a, .int 0 0] }
theorem drawsB {prog : Program} {w : World} {A : Around} (b : Bool) (hh : A.handled = none) (it a : Addr) (hne : a ≠ it) (items : Array Value) :
    Draws prog w A it [it, a] items.size (fun i v => items[i]? = some v) (fun i h => HIt b h it a i ∧ HSq b h a items) := by
  cases b
  · exact .tuple hh it a hne items
  · exact .list hh it a hne items
theorem beginsB (b : Bool) (a : Addr) (items : Array Value) : Begins (.ref a) (itO b a) fun h => HSq b h a items := by
  cases b
  · exact begins_tuple a items
  · exact begins_list a items
theorem HIt.obj {b : Bool} {h : Heap} {it a : Addr} {i : Nat} (x : HIt b h it a i) : ∃ o, h.get? it = some o ∧ ∀ v, o.data ≠ .cell v := by
  cases b <;> (obtain ⟨o, e, _, d⟩ := x; exact ⟨o, e, fun v q => by rw [d] at q; cases q⟩)
theorem HIt.at {b : Bool} {h h' : Heap} {it a : Addr} {i : Nat} (x : HIt b h it a i) (k : ∀ o, h.get? it = some o → h'.get? it = some o) : HIt b h' it a i := by
  cases b
  · exact Heap.IsTupleIter.at x k
  · exact Heap.IsListIter.at x k
theorem HIt.new {b : Bool} {h : Heap} {it a : Addr} (x : h.get? it = some (itO b a)) : HIt b h it a 0 := by
  cases b
  · exact ⟨_, x, rfl, rfl⟩
  · exact ⟨_, x, rfl, rfl⟩
theorem inv_sq {b : Bool} {X : Cx} {pins : List (Addr × Obj)} {σ : L2.St} {H : Hp} {s : Shared} {a : Addr} {xs : List V} (I : Inv X pins σ H s) (h : Sq X.K b H a xs) : ∃ its : List Value, Vals xs its ∧ HSq b s.heap a its.toArray ∧ a < s.heap.objs.size := by
  cases b
  · obtain ⟨its, rv, p, _⟩ := I.tuple h
    have p' : s.heap.IsTuple a its.toArray := p
    have al : a < s.heap.objs.size := by obtain ⟨_, q, _⟩ := p'; exact Heap.lt_size q
    exact ⟨its, rv, p', al⟩
  · obtain ⟨its, rv, p, _⟩ := I.list h
    exact ⟨its, rv, p.isList, p.lt⟩
theorem sq_inj {b : Bool} {X : Cx} {pins : List (Addr × Obj)} {σ : L2.St} {H : Hp} {s : Shared} {a : Addr} {xs ys : List V} (I : Inv X pins σ H s) (h : Sq X.K b H a xs) (h' : Sq X.K b H a ys) : xs = ys := by
  cases b
  · exact I.tuple_inj h h'
  · exact I.list_inj h h'
/-- the things at a and b as they stand at each turn, the items in new pairs -/
def ItzM (K : PySem.W.Frag) (b1 b2 : Bool) (a b : Addr) : It :=
  ⟨fun i H => ∃ (xs ys : List V) (x y : V), Sq K b1 H a xs ∧ Sq K b2 H b ys ∧ xs[i]? = some x ∧ ys[i]? = some y,
    fun i H v H' => ∃ T x y, v = .ref T ∧ H T = none ∧ H' = upd H T (.tup [x, y]) ∧ (∀ xs, Sq K b1 H a xs → xs[i]? = some x) ∧ ∀ ys, Sq K b2 H b ys → ys[i]? = some y,
    fun i H => ∃ xs ys : List V, Sq K b1 H a xs ∧ Sq K b2 H b ys ∧ i = min xs.length ys.length⟩
theorem zipM_sep {n a b : Nat} (ha : a < n) (hb : b < n) : ZipSep2 (n + 4) (n + 2) (n + 3) n (n + 1) [n, a] [n + 1, b] := by
  constructor <;> simp
  · exact fun (e : (n + 4 : Nat) = a) => by omega
  · exact fun (e : (n + 3 : Nat) = a) => by omega
  · exact fun (e : (n + 4 : Nat) = b) => by omega
  · exact fun (e : (n + 3 : Nat) = b) => by omega
  · exact fun (e : (n : Nat) = b) => by omega
  · exact fun (e : (n + 1 : Nat) = a) => by omega
theorem turn_zipM {P : Program} {w : World} {K : PySem.W.Frag} {elts : List Expr} {kk : Nat} {tpos : Pos} {b1 b2 : Bool} {a b z TI TO i1 i2 : Addr} (D : ZipSep2 z TI TO i1 i2 [i1, a] [i2, b]) (ne1 : a ≠ i1) (ne2 : b ≠ i2) :
    Turn P w K (.Tuple elts kk tpos) (ItzM K b1 b2 a b) [z, TI, TO, i1, i2] z (fun i h => IsZip h z TI TO .none ∧ IsTupOf2 h TI (.ref i1) (.ref i2) ∧ (∃ x y, IsTupOf2 h TO x y) ∧ HIt b1 h i1 a i ∧ HIt b2 h i2 b i) where
  mem := by simp
  obj := fun i h st c hc => by
    obtain ⟨hz, hTI, ⟨x, y, hTO⟩, h1, h2⟩ := st
    have e' : c = z ∨ c = TI ∨ c = TO ∨ c = i1 ∨ c = i2 := by simpa using hc
    rcases e' with q | q | q | q | q
    · rw [q]; exact ⟨_, hz, fun v q => nomatch q⟩
    · rw [q]; exact ⟨_, hTI, fun v q => nomatch q⟩
    · rw [q]; exact ⟨_, hTO, fun v q => nomatch q⟩
    · rw [q]; exact h1.obj
    · rw [q]; exact h2.obj
  keep := fun i h h' st k => by
    obtain ⟨hz, hTI, ⟨x, y, hTO⟩, h1, h2⟩ := st
    exact ⟨k z (by simp) _ hz, k TI (by simp) _ hTI, ⟨x, y, k TO (by simp) _ hTO⟩, h1.at fun o q => k i1 (by simp) o q, h2.at fun o q => k i2 (by simp) o q⟩
  item := by
    intro X hP hw hK hc i pins s σ H E I hf st hg
    subst hP hw hK
    obtain ⟨hz, hTI, ⟨x0, y0, hTO⟩, h1, h2⟩ := st
    obtain ⟨xs, ys, x, y, hqx, hqy, hx, hy⟩ := hg
    obtain ⟨its, rv, p, _⟩ := inv_sq I hqx
    obtain ⟨its2, rv2, p2, _⟩ := inv_sq I hqy
    obtain ⟨u, hu, ru⟩ := rv.get hx
    obtain ⟨u2, hu2, ru2⟩ := rv2.get hy
    have l1 := rv.length
    have l2 := rv2.length
    have hlt : i < min its.toArray.size its2.toArray.size := by
      have q1 := (List.getElem?_eq_some_iff.mp hu).1
      have q2 := (List.getElem?_eq_some_iff.mp hu2).1
      simp; omega
    have hzl : z < s.heap.objs.size := Heap.lt_size hz
    refine (GoesN.zip2 (A := X.A) (elts := elts) (x1 := kk) (pos := tpos) D (drawsB b1 (A := X.A.in1) (I.ok.hd hc) i1 a ne1 its.toArray) (drawsB b2 (A := X.A.in1) (I.ok.hd hc) i2 b ne2 its2.toArray)).goes i s _ E hlt ⟨hz, hTI, ⟨x0, y0, hTO⟩, ⟨h1, p⟩, ⟨h2, p2⟩⟩ fun v h' tk hY st' hk htk => ?_
    obtain ⟨T, w1, w2, rfl, hT0, hw1, hw2, hT⟩ := hY
    obtain ⟨hz', hTI', hTO', ⟨h1', _⟩, ⟨h2', _⟩⟩ := st'
    have e1 : w1 = u := by
      have : its[i]? = some w1 := by simpa using hw1
      rw [hu] at this; cases this; rfl
    have e2 : w2 = u2 := by
      have : its2[i]? = some w2 := by simpa using hw2
      rw [hu2] at this; cases this; rfl
    subst e1 e2
    have new : ObjOk X.prog X.w (upd H T (.tup [x, y])) h' T (.tup [x, y]) :=
      ⟨by show 2 ≤ sizeLine; decide, [w1, w2], .cons ru (.cons ru2 .nil), hT⟩
    have I1 : Inv X pins σ (upd H T (.tup [x, y])) { s with heap := h', toks := tk } :=
      I.turnedNew (ch := [z, TI, TO, i1, i2]) (fun c o hb q => hk c o (fun q' => hb (by
        simp only [List.mem_cons, List.not_mem_nil, or_false] at q' ⊢
        rcases q' with q' | q' | q' | q'
        · exact .inl q'
        · exact .inr (.inr (.inl q'))
        · exact .inr (.inr (.inr (.inl q')))
        · exact .inr (.inr (.inr (.inr q'))))) q) hf hT0 new
    refine ⟨.ref T, _, I1, rfl, ⟨T, x, y, rfl, I.hok.fresh hT0, rfl, fun l hl => by rw [sq_inj I hl hqx]; exact hx, fun l hl => by rw [sq_inj I hl hqy]; exact hy⟩, ⟨hz', hTI', hTO', h1', h2'⟩, fun c hcm => ?_⟩
    have hlt2 : c < s.heap.objs.size := by
      have e' : c = z ∨ c = TI ∨ c = TO ∨ c = i1 ∨ c = i2 := by simpa using hcm
      rcases e' with q | q | q | q | q
      · rw [q]; exact hzl
      · rw [q]; exact Heap.lt_size hTI
      · rw [q]; exact Heap.lt_size hTO
      · rw [q]; obtain ⟨_, e, _⟩ := h1.obj; exact Heap.lt_size e
      · rw [q]; obtain ⟨_, e, _⟩ := h2.obj; exact Heap.lt_size e
    rw [upd_ne (Nat.ne_of_lt (Nat.lt_of_lt_of_le hlt2 hT0))]
    exact (hf c hcm).1
  done := by
    intro X hP hw hK hc i pins s σ H E I hf st hg
    subst hP hw hK
    obtain ⟨hz, hTI, ⟨x0, y0, hTO⟩, h1, h2⟩ := st
    obtain ⟨xs, ys, hqx, hqy, hend⟩ := hg
    obtain ⟨its, rv, p, _⟩ := inv_sq I hqx
    obtain ⟨its2, rv2, p2, _⟩ := inv_sq I hqy
    have l1 := rv.length
    have l2 := rv2.length
    have hi : min its.toArray.size its2.toArray.size = i := by simp; omega
    have G := (GoesN.zip2 (prog := X.prog) (w := X.w) (A := X.A) (elts := elts) (x1 := kk) (pos := tpos) D (drawsB b1 (A := X.A.in1) (I.ok.hd hc) i1 a ne1 its.toArray) (drawsB b2 (A := X.A.in1) (I.ok.hd hc) i2 b ne2 its2.toArray)).stops s (Inv X pins σ H) E
    rw [hi] at G
    refine G ⟨hz, hTI, ⟨x0, y0, hTO⟩, ⟨h1, p⟩, ⟨h2, p2⟩⟩ fun h' tk hk htk => ?_
    exact I.turnedL (ch := [z, TI, TO, i1, i2]) (fun c o hb q => hk c o (fun q' => hb (by
        simp only [List.mem_cons, List.not_mem_nil, or_false] at q' ⊢
        rcases q' with q' | q' | q' | q'
        · exact .inl q'
        · exact .inr (.inr (.inl q'))
        · exact .inr (.inr (.inr (.inl q')))
        · exact .inr (.inr (.inr (.inr q'))))) q) hf
  self := fun A i s Q E st h => wpAny_pyIter_zip st.1 h
def iZipM (K : PySem.W.Frag) (ta : TA) : TI := fun σ H R => ta σ H fun vs H1 => ∃ a b xs ys b1 b2, vs = [.ref a, .ref b] ∧ Sq K b1 H1 a xs ∧ Sq K b2 H1 b ys ∧ R (ItzM K b1 b2 a b) H1
theorem pi_zipM {X : Cx} {e e2 : Expr} {ta : TA} {p pos tpos : Pos} {elts : List Expr} {kk : Nat} (hg : Gl X "zip") (hm : X.mg "zip" = none) (ha : PA X [e, e2] ta)
    (hs : starEach [e, e2] X.env = (false, eval e X.env) :: starEach [e2] X.env := by rfl) (hpl : (backTo pos (starEach [e2] X.env)).any (·.1) = false := by rfl) :
    PI X (.Tuple elts kk tpos) (.Call (.Name "zip" p) [e, e2] [] pos) (iZipM X.K ta) := by
  refine ⟨fun pins s σ H R I h => ?_⟩
  refine Call_ (ld_blt I hg hm PyProof.Rows.boot_zip (PyProof.Rows.callWith_type1 (thn (ha.run pos pins s σ H _ I h) fun us s1 ⟨vs, H1, I1, r1, q1⟩ => ?_) hs hpl))
  obtain ⟨a, b, xs, ys, b1, b2, ex, hqx, hqy, q⟩ := q1
  subst ex
  cases r1 with
  | cons r rr =>
    cases rr with
    | cons r' rr =>
      cases rr
      cases r
      cases r'
      obtain ⟨its, rv, p1, al⟩ := inv_sq I1 hqx
      obtain ⟨its2, rv2, p2, bl⟩ := inv_sq I1 hqy
      refine zip_begins2 (beginsB b1 a its.toArray) (beginsB b2 b its2.toArray) p1 p2 fun h' hz hTI hTO g1 g2 hsz hk => wpAny_pyIter_zip hz ?_
      have I2 : Inv X pins σ H1 { s1 with heap := h' } := I1.kept (t' := s1.toks) hk
      refine ⟨s1.heap.objs.size + 4, [s1.heap.objs.size + 4, s1.heap.objs.size + 2, s1.heap.objs.size + 3, s1.heap.objs.size, s1.heap.objs.size + 1], _, _, H1, rfl, I2, turn_zipM (zipM_sep al bl) (Nat.ne_of_lt al) (Nat.ne_of_lt (Nat.lt_succ_of_lt bl)), ⟨hz, hTI, ⟨_, _, hTO⟩, .new g1, .new g2⟩, fun c hcm => ?_, q⟩
      have hle : s1.heap.objs.size ≤ c := by
        simp only [List.mem_cons, List.not_mem_nil, or_false] at hcm
        rcases hcm with z | z | z | z | z <;> rw [z] <;> first | exact Nat.le_refl _ | exact Nat.le_add_right _ _
      exact I1.fpOk hle (I1.hok.fresh hle)
/-! three -/
def ItzM3 (K : PySem.W.Frag) (b1 b2 b3 : Bool) (a b d : Addr) : It :=
  ⟨fun i H => ∃ (xs ys zs : List V) (x y z : V), Sq K b1 H a xs ∧ Sq K b2 H b ys ∧ Sq K b3 H d zs ∧ xs[i]? = some x ∧ ys[i]? = some y ∧ zs[i]? = some z,
    fun i H v H' => ∃ T x y z, v = .ref T ∧ H T = none ∧ H' = upd H T (.tup [x, y, z]) ∧ (∀ xs, Sq K b1 H a xs → xs[i]? = some x) ∧ (∀ ys, Sq K b2 H b ys → ys[i]? = some y) ∧ ∀ zs, Sq K b3 H d zs → zs[i]? = some z,
    fun i H => ∃ xs ys zs : List V, Sq K b1 H a xs ∧ Sq K b2 H b ys ∧ Sq K b3 H d zs ∧ i = min (min xs.length ys.length) zs.length⟩
theorem zipM3_sep {n a b d : Nat} (ha : a < n) (hb : b < n) (hd : d < n) : ZipSep3 (n + 5) (n + 3) (n + 4) n (n + 1) (n + 2) [n, a] [n + 1, b] [n + 2, d] := by
  have k : ∀ (i x : Nat), x < n → ¬ n + i = x := fun i x h => by omega
  have k0 : ∀ (x : Nat), x < n → ¬ n = x := fun x h => by omega
  constructor <;> simp <;> first
    | exact k _ _ ha
    | exact k _ _ hb
    | exact k _ _ hd
    | exact k0 _ ha
    | exact k0 _ hb
    | exact k0 _ hd
theorem turn_zipM3 {P : Program} {w : World} {K : PySem.W.Frag} {elts : List Expr} {kk : Nat} {tpos : Pos} {b1 b2 b3 : Bool} {a b d z TI TO i1 i2 i3 : Addr} (D : ZipSep3 z TI TO i1 i2 i3 [i1, a] [i2, b] [i3, d]) (ne1 : a ≠ i1) (ne2 : b ≠ i2) (ne3 : d ≠ i3) :
    Turn P w K (.Tuple elts kk tpos) (ItzM3 K b1 b2 b3 a b d) [z, TI, TO, i1, i2, i3] z (fun i h => IsZip h z TI TO .none ∧ IsTupOf3 h TI (.ref i1) (.ref i2) (.ref i3) ∧ (∃ x y u, IsTupOf3 h TO x y u) ∧ HIt b1 h i1 a i ∧ HIt b2 h i2 b i ∧ HIt b3 h i3 d i) where
  mem := by simp
  obj := fun i h st c hc => by
    obtain ⟨hz, hTI, ⟨x, y, u, hTO⟩, h1, h2, h3⟩ := st
    have e' : c = z ∨ c = TI ∨ c = TO ∨ c = i1 ∨ c = i2 ∨ c = i3 := by simpa using hc
    rcases e' with q | q | q | q | q | q
    · rw [q]; exact ⟨_, hz, fun v q => nomatch q⟩
    · rw [q]; exact ⟨_, hTI, fun v q => nomatch q⟩
    · rw [q]; exact ⟨_, hTO, fun v q => nomatch q⟩
    · rw [q]; exact h1.obj
    · rw [q]; exact h2.obj
    · rw [q]; exact h3.obj
  keep := fun i h h' st k => by
    obtain ⟨hz, hTI, ⟨x, y, u, hTO⟩, h1, h2, h3⟩ := st
    exact ⟨k z (by simp) _ hz, k TI (by simp) _ hTI, ⟨x, y, u, k TO (by simp) _ hTO⟩, h1.at fun o q => k i1 (by simp) o q, h2.at fun o q => k i2 (by simp) o q, h3.at fun o q => k i3 (by simp) o q⟩
  item := by
    intro X hP hw hK hc i pins s σ H E I hf st hg
    subst hP hw hK
    obtain ⟨hz, hTI, ⟨x0, y0, u0, hTO⟩, h1, h2, h3⟩ := st
    obtain ⟨xs, ys, zs, x, y, v3, hqx, hqy, hqz, hx, hy, hv⟩ := hg
    obtain ⟨its, rv, p, _⟩ := inv_sq I hqx
    obtain ⟨its2, rv2, p2, _⟩ := inv_sq I hqy
    obtain ⟨its3, rv3, p3, _⟩ := inv_sq I hqz
    obtain ⟨u, hu, ru⟩ := rv.get hx
    obtain ⟨u2, hu2, ru2⟩ := rv2.get hy
    obtain ⟨u3, hu3, ru3⟩ := rv3.get hv
    have hlt : i < min (min its.toArray.size its2.toArray.size) its3.toArray.size := by
      have q1 := (List.getElem?_eq_some_iff.mp hu).1
      have q2 := (List.getElem?_eq_some_iff.mp hu2).1
      have q3 := (List.getElem?_eq_some_iff.mp hu3).1
      simp; omega
    have hzl : z < s.heap.objs.size := Heap.lt_size hz
    refine (GoesN.zip3 (A := X.A) (elts := elts) (x1 := kk) (pos := tpos) D (drawsB b1 (A := X.A.in1) (I.ok.hd hc) i1 a ne1 its.toArray) (drawsB b2 (A := X.A.in1) (I.ok.hd hc) i2 b ne2 its2.toArray) (drawsB b3 (A := X.A.in1) (I.ok.hd hc) i3 d ne3 its3.toArray)).goes i s _ E hlt ⟨hz, hTI, ⟨x0, y0, u0, hTO⟩, ⟨h1, p⟩, ⟨h2, p2⟩, ⟨h3, p3⟩⟩ fun v h' tk hY st' hk htk => ?_
    obtain ⟨T, w1, w2, w3, rfl, hT0, hw1, hw2, hw3, hT⟩ := hY
    obtain ⟨hz', hTI', hTO', ⟨h1', _⟩, ⟨h2', _⟩, ⟨h3', _⟩⟩ := st'
    have e1 : w1 = u := by
      have : its[i]? = some w1 := by simpa using hw1
      rw [hu] at this; cases this; rfl
    have e2 : w2 = u2 := by
      have : its2[i]? = some w2 := by simpa using hw2
      rw [hu2] at this; cases this; rfl
    have e3 : w3 = u3 := by
      have : its3[i]? = some w3 := by simpa using hw3
      rw [hu3] at this; cases this; rfl
    subst e1 e2 e3
    have new : ObjOk X.prog X.w (upd H T (.tup [x, y, v3])) h' T (.tup [x, y, v3]) :=
      ⟨by show 3 ≤ sizeLine; decide, [w1, w2, w3], .cons ru (.cons ru2 (.cons ru3 .nil)), hT⟩
    have I1 : Inv X pins σ (upd H T (.tup [x, y, v3])) { s with heap := h', toks := tk } :=
      I.turnedNew (ch := [z, TI, TO, i1, i2, i3]) (fun c o hb q => hk c o (fun q' => hb (by
        simp only [List.mem_cons, List.not_mem_nil, or_false] at q' ⊢
        rcases q' with q' | q' | q' | q' | q'
        · exact .inl q'
        · exact .inr (.inr (.inl q'))
        · exact .inr (.inr (.inr (.inl q')))
        · exact .inr (.inr (.inr (.inr (.inl q'))))
        · exact .inr (.inr (.inr (.inr (.inr q')))))) q) hf hT0 new
    refine ⟨.ref T, _, I1, rfl, ⟨T, x, y, v3, rfl, I.hok.fresh hT0, rfl, fun l hl => by rw [sq_inj I hl hqx]; exact hx, fun l hl => by rw [sq_inj I hl hqy]; exact hy, fun l hl => by rw [sq_inj I hl hqz]; exact hv⟩, ⟨hz', hTI', hTO', h1', h2', h3'⟩, fun c hcm => ?_⟩
    have hlt2 : c < s.heap.objs.size := by
      have e' : c = z ∨ c = TI ∨ c = TO ∨ c = i1 ∨ c = i2 ∨ c = i3 := by simpa using hcm
      rcases e' with q | q | q | q | q | q
      · rw [q]; exact hzl
      · rw [q]; exact Heap.lt_size hTI
      · rw [q]; exact Heap.lt_size hTO
      · rw [q]; obtain ⟨_, e, _⟩ := h1.obj; exact Heap.lt_size e
      · rw [q]; obtain ⟨_, e, _⟩ := h2.obj; exact Heap.lt_size e
      · rw [q]; obtain ⟨_, e, _⟩ := h3.obj; exact Heap.lt_size e
    rw [upd_ne (Nat.ne_of_lt (Nat.lt_of_lt_of_le hlt2 hT0))]
    exact (hf c hcm).1
  done := by
    intro X hP hw hK hc i pins s σ H E I hf st hg
    subst hP hw hK
    obtain ⟨hz, hTI, ⟨x0, y0, u0, hTO⟩, h1, h2, h3⟩ := st
    obtain ⟨xs, ys, zs, hqx, hqy, hqz, hend⟩ := hg
    obtain ⟨its, rv, p, _⟩ := inv_sq I hqx
    obtain ⟨its2, rv2, p2, _⟩ := inv_sq I hqy
    obtain ⟨its3, rv3, p3, _⟩ := inv_sq I hqz
    have l1 := rv.length
    have l2 := rv2.length
    have l3 := rv3.length
    have hi : min (min its.toArray.size its2.toArray.size) its3.toArray.size = i := by simp; omega
    have G := (GoesN.zip3 (prog := X.prog) (w := X.w) (A := X.A) (elts := elts) (x1 := kk) (pos := tpos) D (drawsB b1 (A := X.A.in1) (I.ok.hd hc) i1 a ne1 its.toArray) (drawsB b2 (A := X.A.in1) (I.ok.hd hc) i2 b ne2 its2.toArray) (drawsB b3 (A := X.A.in1) (I.ok.hd hc) i3 d ne3 its3.toArray)).stops s (Inv X pins σ H) E
    rw [hi] at G
    refine G ⟨hz, hTI, ⟨x0, y0, u0, hTO⟩, ⟨h1, p⟩, ⟨h2, p2⟩, ⟨h3, p3⟩⟩ fun h' tk hk htk => ?_
    exact I.turnedL (ch := [z, TI, TO, i1, i2, i3]) (fun c o hb q => hk c o (fun q' => hb (by
        simp only [List.mem_cons, List.not_mem_nil, or_false] at q' ⊢
        rcases q' with q' | q' | q' | q' | q'
        · exact .inl q'
        · exact .inr (.inr (.inl q'))
        · exact .inr (.inr (.inr (.inl q')))
        · exact .inr (.inr (.inr (.inr (.inl q'))))
        · exact .inr (.inr (.inr (.inr (.inr q')))))) q) hf
  self := fun A i s Q E st h => wpAny_pyIter_zip st.1 h
def iZipM3 (K : PySem.W.Frag) (ta : TA) : TI := fun σ H R => ta σ H fun vs H1 => ∃ a b d xs ys zs b1 b2 b3, vs = [.ref a, .ref b, .ref d] ∧ Sq K b1 H1 a xs ∧ Sq K b2 H1 b ys ∧ Sq K b3 H1 d zs ∧ R (ItzM3 K b1 b2 b3 a b d) H1
theorem pi_zipM3 {X : Cx} {e e2 e3 : Expr} {ta : TA} {p pos tpos : Pos} {elts : List Expr} {kk : Nat} (hg : Gl X "zip") (hm : X.mg "zip" = none) (ha : PA X [e, e2, e3] ta)
    (hs : starEach [e, e2, e3] X.env = (false, eval e X.env) :: starEach [e2, e3] X.env := by rfl) (hpl : (backTo pos (starEach [e2, e3] X.env)).any (·.1) = false := by rfl) :
    PI X (.Tuple elts kk tpos) (.Call (.Name "zip" p) [e, e2, e3] [] pos) (iZipM3 X.K ta) := by
  refine ⟨fun pins s σ H R I h => ?_⟩
  refine Call_ (ld_blt I hg hm PyProof.Rows.boot_zip (PyProof.Rows.callWith_type1 (thn (ha.run pos pins s σ H _ I h) fun us s1 ⟨vs, H1, I1, r1, q1⟩ => ?_) hs hpl))
  obtain ⟨a, b, d, xs, ys, zs, b1, b2, b3, ex, hqx, hqy, hqz, q⟩ := q1
  subst ex
  cases r1 with
  | cons r rr =>
    cases rr with
    | cons r' rr =>
      cases rr with
      | cons r'' rr =>
        cases rr
        cases r
        cases r'
        cases r''
        obtain ⟨its, rv, p1, al⟩ := inv_sq I1 hqx
        obtain ⟨its2, rv2, p2, bl⟩ := inv_sq I1 hqy
        obtain ⟨its3, rv3, p3, dl⟩ := inv_sq I1 hqz
        refine zip_begins3 (beginsB b1 a its.toArray) (beginsB b2 b its2.toArray) (beginsB b3 d its3.toArray) p1 p2 p3 fun h' hz hTI hTO g1 g2 g3 hsz hk => wpAny_pyIter_zip hz ?_
        have I2 : Inv X pins σ H1 { s1 with heap := h' } := I1.kept (t' := s1.toks) hk
        refine ⟨s1.heap.objs.size + 5, [s1.heap.objs.size + 5, s1.heap.objs.size + 3, s1.heap.objs.size + 4, s1.heap.objs.size, s1.heap.objs.size + 1, s1.heap.objs.size + 2], _, _, H1, rfl, I2, turn_zipM3 (zipM3_sep al bl dl) (Nat.ne_of_lt al) (Nat.ne_of_lt (Nat.lt_succ_of_lt bl)) (Nat.ne_of_lt (Nat.lt_succ_of_lt (Nat.lt_succ_of_lt dl))), ⟨hz, hTI, ⟨_, _, _, hTO⟩, .new g1, .new g2, .new g3⟩, fun c hcm => ?_, q⟩
        have hle : s1.heap.objs.size ≤ c := by
          simp only [List.mem_cons, List.not_mem_nil, or_false] at hcm
          rcases hcm with z | z | z | z | z | z <;> rw [z] <;> first | exact Nat.le_refl _ | exact Nat.le_add_right _ _
        exact I1.fpOk hle (I1.hok.fresh hle)
end Mini

namespace Mini
open PySem L2
abbrev Own := Addr → Prop
mutual
def RepD (K : PySem.W.Frag) (O : Own) (H : Hp) : D → V → Prop
  | .none, v => v = .non
  | .bool b, v => v = .bl b
  | .int i, v => v = .int i
  | .str s, v => v = .str s
  | .tuple ds, v => ∃ a vs, v = .ref a ∧ SqT K H a vs ∧ RepDs K O H ds vs
  | .list ds, v => ∃ a vs, v = .ref a ∧ H a = some (.lst vs) ∧ ¬ O a ∧ RepDs K O H ds vs
  | .dict _, _ => False
def RepDs (K : PySem.W.Frag) (O : Own) (H : Hp) : List D → List V → Prop
  | [], vs => vs = []
  | d :: ds, vs => ∃ v r, vs = v :: r ∧ RepD K O H d v ∧ RepDs K O H ds r
end
def OwnOk (O : Own) (H : Hp) : Prop := ∀ b, O b → ∃ xs, H b = some (.lst xs)
/-- what stays as it is -/
structure Evo (O : Own) (H : Hp) (O' : Own) (H' : Hp) : Prop where
  own : OwnOk O H
  keepH : ∀ b o, H b = some o → ¬ O b → H' b = some o
  newO : ∀ b, O' b → O b ∨ H b = none
  there : ∀ b, H b ≠ none → H' b ≠ none
theorem Rd.evo {O O' : Own} {H H' : Hp} (e : Evo O H O' H') {a : Addr} {u : HO} (r : Rd H a u) (hn : ¬ O a) : Rd H' a u := by
  rcases r with r | ⟨o, r⟩
  · exact .inl (e.keepH a _ r hn)
  · exact .inr ⟨o, e.keepH a _ r hn⟩
theorem SqT.evo {K : PySem.W.Frag} {O O' : Own} {H H' : Hp} (e : Evo O H O' H') {a : Addr} {xs : List V} (r : SqT K H a xs) : SqT K H' a xs := by
  rcases r with r | r
  · refine .inl (Rd.evo e r fun ho => ?_)
    obtain ⟨ys, h⟩ := e.own a ho
    rcases r with r | ⟨o, r⟩ <;> (rw [h] at r; cases r)
  · exact .inr r
mutual
theorem RepD.evo {K : PySem.W.Frag} {O O' : Own} {H H' : Hp} (e : Evo O H O' H') : ∀ (d : D) (v : V), RepD K O H d v → RepD K O' H' d v
  | .none, v, h => h
  | .bool _, v, h => h
  | .int _, v, h => h
  | .str _, v, h => h
  | .tuple ds, v, h => by
    simp only [RepD] at h ⊢
    obtain ⟨a, vs, rfl, h1, h2⟩ := h
    exact ⟨a, vs, rfl, SqT.evo e h1, RepDs.evo e ds vs h2⟩
  | .list ds, v, h => by
    simp only [RepD] at h ⊢
    obtain ⟨a, vs, rfl, h1, h3, h2⟩ := h
    refine ⟨a, vs, rfl, e.keepH _ _ h1 h3, fun ho => ?_, RepDs.evo e ds vs h2⟩
    rcases e.newO a ho with z | z
    · exact h3 z
    · rw [z] at h1; cases h1
  | .dict _, v, h => h
theorem RepDs.evo {K : PySem.W.Frag} {O O' : Own} {H H' : Hp} (e : Evo O H O' H') : ∀ (ds : List D) (vs : List V), RepDs K O H ds vs → RepDs K O' H' ds vs
  | [], vs, h => h
  | d :: ds, vs, h => by
    simp only [RepDs] at h ⊢
    obtain ⟨v, r, rfl, h1, h2⟩ := h
    exact ⟨v, r, rfl, RepD.evo e d v h1, RepDs.evo e ds r h2⟩
end
section
variable {K : PySem.W.Frag} {O O' : Own} {H H' : Hp}
theorem RepDs.length : ∀ {ds : List D} {vs : List V}, RepDs K O H ds vs → ds.length = vs.length
  | [], vs, h => by simp only [RepDs] at h; rw [h]; rfl
  | d :: ds, vs, h => by
    simp only [RepDs] at h
    obtain ⟨v, r, rfl, h1, h2⟩ := h
    simp [RepDs.length h2]
theorem RepDs.get : ∀ {ds : List D} {vs : List V} {i : Nat} {d : D}, RepDs K O H ds vs → ds[i]? = some d → ∃ v, vs[i]? = some v ∧ RepD K O H d v
  | [], _, i, d, _, e => by simp at e
  | x :: ds, vs, i, d, h, e => by
    simp only [RepDs] at h
    obtain ⟨v, r, rfl, h1, h2⟩ := h
    cases i with
    | zero => simp at e; subst e; exact ⟨v, by simp, h1⟩
    | succ i => simpa using RepDs.get (i := i) h2 (by simpa using e)
theorem RepDs.append : ∀ {ds es : List D} {vs us : List V}, RepDs K O H ds vs → RepDs K O H es us → RepDs K O H (ds ++ es) (vs ++ us)
  | [], es, vs, us, h, g => by simp only [RepDs] at h; subst h; exact g
  | d :: ds, es, vs, us, h, g => by
    simp only [RepDs, List.cons_append] at h ⊢
    obtain ⟨v, r, rfl, h1, h2⟩ := h
    exact ⟨v, r ++ us, rfl, h1, RepDs.append h2 g⟩
theorem RepDs.set : ∀ {ds : List D} {vs : List V} {d : D} {v : V} (j : Nat), RepDs K O H ds vs → RepD K O H d v → RepDs K O H (ds.set j d) (vs.set j v)
  | [], vs, d, v, j, h, g => by simp only [RepDs] at h; subst h; simp [RepDs]
  | x :: ds, vs, d, v, j, h, g => by
    simp only [RepDs] at h
    obtain ⟨y, r, rfl, h1, h2⟩ := h
    cases j with
    | zero => exact ⟨v, r, rfl, g, h2⟩
    | succ j => exact ⟨y, r.set j v, rfl, h1, RepDs.set j h2 g⟩
theorem RepDs.drop : ∀ {ds : List D} {vs : List V} (n : Nat), RepDs K O H ds vs → RepDs K O H (ds.drop n) (vs.drop n)
  | ds, vs, 0, h => by simpa using h
  | [], vs, n + 1, h => by simp only [RepDs] at h; subst h; simp [RepDs]
  | d :: ds, vs, n + 1, h => by
    simp only [RepDs] at h
    obtain ⟨y, r, rfl, h1, h2⟩ := h
    simpa using RepDs.drop n h2
theorem RepDs.take : ∀ {ds : List D} {vs : List V} (n : Nat), RepDs K O H ds vs → RepDs K O H (ds.take n) (vs.take n)
  | ds, vs, 0, h => by simp [RepDs]
  | [], vs, n + 1, h => by simp only [RepDs] at h; subst h; simp [RepDs]
  | d :: ds, vs, n + 1, h => by
    simp only [RepDs] at h
    obtain ⟨y, r, rfl, h1, h2⟩ := h
    exact ⟨y, r.take n, rfl, h1, RepDs.take n h2⟩
theorem RepDs.flat : ∀ {ds : List D} {vs : List V} (n : Nat), RepDs K O H ds vs → RepDs K O H (List.replicate n ds).flatten (List.replicate n vs).flatten
  | ds, vs, 0, h => by simp [RepDs]
  | ds, vs, n + 1, h => by
    simp only [List.replicate_succ, List.flatten_cons]
    exact RepDs.append h (RepDs.flat n h)
theorem RepDs.ints : ∀ (ns : List Int), RepDs K O H (ns.map PyData.int) (ns.map V.int)
  | [] => by simp [RepDs]
  | n :: ns => ⟨.int n, _, rfl, rfl, RepDs.ints ns⟩
theorem RepDs.intsOf : ∀ {ds : List D} {vs : List V} {ns : List Int}, RepDs K O H ds vs → intsL ds = some ns → vs = ns.map V.int
  | [], vs, ns, h, e => by simp only [RepDs] at h; subst h; simp [intsL] at e; subst e; rfl
  | d :: ds, vs, ns, h, e => by
    simp only [RepDs] at h
    obtain ⟨v, r, rfl, h1, h2⟩ := h
    cases d with
    | int i =>
      simp only [intsL, Option.map_eq_some_iff] at e
      obtain ⟨m, e1, rfl⟩ := e
      simp only [RepD] at h1
      subst h1
      rw [RepDs.intsOf h2 e1]; rfl
    | _ => simp [intsL] at e
theorem RepDs.boolsOf : ∀ {ds : List D} {vs : List V} {ns : List Bool}, RepDs K O H ds vs → boolsL ds = some ns → vs = ns.map V.bl
  | [], vs, ns, h, e => by simp only [RepDs] at h; subst h; simp [boolsL] at e; subst e; rfl
  | d :: ds, vs, ns, h, e => by
    simp only [RepDs] at h
    obtain ⟨v, r, rfl, h1, h2⟩ := h
    cases d with
    | bool i =>
      simp only [boolsL, Option.map_eq_some_iff] at e
      obtain ⟨m, e1, rfl⟩ := e
      simp only [RepD] at h1
      subst h1
      rw [RepDs.boolsOf h2 e1]; rfl
    | _ => simp [boolsL] at e
end
/-- the script's list -/
def ScL (K : PySem.W.Frag) (H : Hp) (a : Addr) (xs : List V) : Prop := (∃ o, H a = some (.frz o (.lst xs))) ∨
    ∃ (o : Obj) (its : Array Value) (n : Nat), K.lookup a = some o ∧ o.cls = .type "list" ∧ o.dict = none ∧ o.data = .seq its n ∧ its.size ≤ sizeLine ∧ Vals xs its.toList
theorem ScL.evo {K : PySem.W.Frag} {O O' : Own} {H H' : Hp} (e : Evo O H O' H') {a : Addr} {xs : List V} (r : ScL K H a xs) : ScL K H' a xs := by
  rcases r with ⟨o, r⟩ | r
  · refine .inl ⟨o, e.keepH _ _ r fun ho => ?_⟩
    obtain ⟨ys, h⟩ := e.own a ho
    rw [h] at r; cases r
  · exact .inr r
theorem ScL.sq {K : PySem.W.Frag} {H : Hp} {a : Addr} {xs : List V} (r : ScL K H a xs) : SqL K H a xs := by
  rcases r with ⟨o, r⟩ | r
  · exact .inl (.inr ⟨o, r⟩)
  · exact .inr r
/-- a slot's (or a result's) content -/
def RepS (K : PySem.W.Frag) (O : Own) (H : Hp) : Sl → V → Prop
  | .no, _ => True
  | .v d, v => RepD K O H d v
  | .l xs, v => ∃ a vs, v = .ref a ∧ H a = some (.lst vs) ∧ O a ∧ RepDs K O H xs vs
  | .sc ns, v => ∃ a, v = .ref a ∧ ScL K H a (ns.map V.int)
  | .bx cs rs, v => ∃ a c, v = .ref a ∧ H a = some (.lst (.ref c :: rs.map V.int)) ∧ H c = some (.lst (cs.map V.int)) ∧ O a ∧ O c
/-- the addresses it owns -/
def Fp (H : Hp) : Sl → V → Addr → Prop
  | .l _, v, b => v = .ref b
  | .bx _ _, v, b => v = .ref b ∨ ∃ a r, v = .ref a ∧ H a = some (.lst (.ref b :: r))
  | _, _, _ => False
theorem Fp.own {K : PySem.W.Frag} {O : Own} {H : Hp} {s : Sl} {v : V} {b : Addr} (r : RepS K O H s v) (f : Fp H s v b) : O b := by
  cases s with
  | no => cases f
  | v d => cases f
  | sc ns => cases f
  | l xs => obtain ⟨a, vs, rfl, h1, h2, _⟩ := r; cases f; exact h2
  | bx cs rs =>
    obtain ⟨a, c, rfl, h1, h2, h3, h4⟩ := r
    rcases f with f | ⟨a', r', f, g⟩
    · cases f; exact h3
    · cases f; rw [h1] at g; cases g; exact h4
/-- the environment over the frame's slots -/
structure W (K : PySem.W.Frag) (O : Own) (H : Hp) (env : En) (σ : St) : Prop where
  own : OwnOk O H
  len : env.length = σ.length
  rep : ∀ (i : Nat) (s : Sl), env[i]? = some s → s = .no ∨ ∃ v, σ[i]? = some (some v) ∧ RepS K O H s v
  sep : ∀ (i j : Nat) (s t : Sl) (v u : V) (b : Addr), i ≠ j → env[i]? = some s → env[j]? = some t → σ[i]? = some (some v) → σ[j]? = some (some u) → Fp H s v b → Fp H t u b → False
def FpE (H : Hp) (env : En) (σ : St) (b : Addr) : Prop := ∃ (i : Nat) (s : Sl) (v : V), env[i]? = some s ∧ σ[i]? = some (some v) ∧ Fp H s v b
theorem W.fpOwn {K : PySem.W.Frag} {O : Own} {H : Hp} {env : En} {σ : St} (w : W K O H env σ) {b : Addr} (f : FpE H env σ b) : O b := by
  obtain ⟨i, s, v, h1, h2, h3⟩ := f
  rcases w.rep i s h1 with rfl | ⟨u, h4, h5⟩
  · cases h3
  · rw [h2] at h4; cases h4; exact Fp.own h5 h3
/-- from (O, H) to (O', H'): what is owned out of F stays; F' is of F or new -/
structure Step (O : Own) (H : Hp) (F : Own) (O' : Own) (H' : Hp) (F' : Own) : Prop where
  evo : Evo O H O' H'
  own : OwnOk O' H'
  keepO : ∀ b, O b → ¬ F b → O' b ∧ H' b = H b
  fps : ∀ b, F' b → F b ∨ H b = none
theorem Step.refl {O : Own} {H : Hp} {F : Own} (h : OwnOk O H) : Step O H F O H F :=
  ⟨⟨h, fun _ _ e _ => e, fun _ e => .inl e, fun _ e => e⟩, h, fun _ e _ => ⟨e, rfl⟩, fun _ e => .inl e⟩
theorem Step.trans {O O1 O2 : Own} {H H1 H2 : Hp} {F F1 G1 F2 : Own} (a : Step O H F O1 H1 F1) (b : Step O1 H1 G1 O2 H2 F2) (s : ∀ x, G1 x → F1 x) : Step O H F O2 H2 F2 := by
  refine ⟨⟨a.evo.own, fun x o e n => ?_, fun x e => ?_, fun x e => b.evo.there x (a.evo.there x e)⟩, b.own, fun x e n => ?_, fun x e => ?_⟩
  · refine b.evo.keepH x o (a.evo.keepH x o e n) fun z => ?_
    rcases a.evo.newO x z with z | z
    · exact n z
    · rw [z] at e; cases e
  · rcases b.evo.newO x e with z | z
    · exact a.evo.newO x z
    · refine .inr ?_
      cases q : H x with
      | none => rfl
      | some u => exact absurd z (a.evo.there x (by rw [q]; exact Option.some_ne_none _))
  · obtain ⟨h1, h2⟩ := a.keepO x e n
    have nf : ¬ G1 x := fun z => by
      rcases a.fps x (s x z) with z | z
      · exact n z
      · obtain ⟨xs, q⟩ := a.evo.own x e
        rw [q] at z; cases z
    obtain ⟨h3, h4⟩ := b.keepO x h1 nf
    exact ⟨h3, h4.trans h2⟩
  · rcases b.fps x e with z | z
    · exact a.fps x (s x z)
    · refine .inr ?_
      cases q : H x with
      | none => rfl
      | some u => exact absurd z (a.evo.there x (by rw [q]; exact Option.some_ne_none _))
theorem Step.sub {O O' : Own} {H H' : Hp} {F F' G : Own} (a : Step O H F O' H' F') (s : ∀ x, G x → F' x) : Step O H F O' H' G := ⟨a.evo, a.own, a.keepO, fun x e => a.fps x (s x e)⟩
theorem Step.wide {O O' : Own} {H H' : Hp} {F F' G : Own} (a : Step O H F O' H' F') (s : ∀ x, F x → G x) : Step O H G O' H' F' :=
  ⟨a.evo, a.own, fun x e n => a.keepO x e fun z => n (s x z), fun x e => (a.fps x e).imp (s x) id⟩
/-- nothing owned is touched -/
def F0 : Own := fun _ => False
section
variable {K : PySem.W.Frag} {O O' : Own} {H H' : Hp} {env : En} {σ : St} {F' : Own}
/-- a slot out of the touched part -/
theorem RepS.keep {F : Own} (st : Step O H F O' H' F') {s : Sl} {v : V} (r : RepS K O H s v) (n : ∀ b, Fp H s v b → ¬ F b) : RepS K O' H' s v ∧ ∀ b, Fp H' s v b → Fp H s v b := by
  cases s with
  | no => exact ⟨trivial, fun b f => f.elim⟩
  | v d => exact ⟨RepD.evo st.evo d v r, fun b f => f.elim⟩
  | sc ns => obtain ⟨a, rfl, h⟩ := r; exact ⟨⟨a, rfl, ScL.evo st.evo h⟩, fun b f => f.elim⟩
  | l xs =>
    obtain ⟨a, vs, rfl, h1, h2, h3⟩ := r
    obtain ⟨k1, k2⟩ := st.keepO a h2 (n a rfl)
    exact ⟨⟨a, vs, rfl, k2.trans h1, k1, RepDs.evo st.evo _ _ h3⟩, fun b f => f⟩
  | bx cs rs =>
    obtain ⟨a, c, rfl, h1, h2, h3, h4⟩ := r
    obtain ⟨k1, k2⟩ := st.keepO a h3 (n a (.inl rfl))
    obtain ⟨m1, m2⟩ := st.keepO c h4 (n c (.inr ⟨a, _, rfl, h1⟩))
    refine ⟨⟨a, c, rfl, k2.trans h1, m2.trans h2, k1, m1⟩, fun b f => ?_⟩
    rcases f with f | ⟨a', r', f, g⟩
    · exact .inl f
    · cases f
      rw [k2.trans h1] at g; cases g
      exact .inr ⟨a, _, rfl, h1⟩
theorem W.keep (w : W K O H env σ) (st : Step O H F0 O' H' F') : W K O' H' env σ ∧ ∀ b, FpE H' env σ b → FpE H env σ b := by
  have kp : ∀ (i : Nat) (s : Sl) (v : V), env[i]? = some s → σ[i]? = some (some v) → s = .no ∨ (RepS K O' H' s v ∧ ∀ b, Fp H' s v b → Fp H s v b) := fun i s v e1 e2 => by
    rcases w.rep i s e1 with z | ⟨u, h1, h2⟩
    · exact .inl z
    · rw [e2] at h1; cases h1
      exact .inr (RepS.keep st h2 fun _ _ z => z)
  have fb : ∀ (i : Nat) (s : Sl) (v : V) (b : Addr), env[i]? = some s → σ[i]? = some (some v) → Fp H' s v b → Fp H s v b := fun i s v b e1 e2 f => by
    rcases kp i s v e1 e2 with rfl | h
    · exact f.elim
    · exact h.2 b f
  refine ⟨⟨st.own, w.len, fun i s e => ?_, fun i j s t v u b n e1 e2 e3 e4 f1 f2 => w.sep i j s t v u b n e1 e2 e3 e4 (fb i s v b e1 e3 f1) (fb j t u b e2 e4 f2)⟩, fun b ⟨i, s, v, e1, e2, f⟩ => ⟨i, s, v, e1, e2, fb i s v b e1 e2 f⟩⟩
  rcases w.rep i s e with z | ⟨v, h1, h2⟩
  · exact .inl z
  · rcases kp i s v e h1 with z | z
    · exact .inl z
    · exact .inr ⟨v, h1, z.1⟩
/-- a result r at v beside the environment -/
structure WR (K : PySem.W.Frag) (O : Own) (H : Hp) (env : En) (σ : St) (r : Sl) (v : V) : Prop where
  w : W K O H env σ
  val : RepS K O H r v
  sep : ∀ b, Fp H r v b → ¬ FpE H env σ b
def FpR (H : Hp) (env : En) (σ : St) (r : Sl) (v : V) : Own := fun b => FpE H env σ b ∨ Fp H r v b
end
/-! readings -/
section
variable (K : PySem.W.Frag)
def tE (f : En → Option (Sl × En)) : TE := fun σ H Q => ∃ O env r env', W K O H env σ ∧ f env = some (r, env') ∧
  ∀ O' H' v, Step O H (FpE H env σ) O' H' (FpR H' env' σ r v) → WR K O' H' env' σ r v → Q v H'
def tD (f : En → Option (D × En)) : TE := fun σ H Q => ∃ O env d env', W K O H env σ ∧ f env = some (d, env') ∧
  ∀ O' H' v, Step O H (FpE H env σ) O' H' (FpE H' env' σ) → W K O' H' env' σ → RepD K O' H' d v → Q v H'
def RepO (O : Own) (H : Hp) (σ : St) : Opd → V → Prop
  | .d d, v => RepD K O H d v
  | .s i, v => σ[i]? = some (some v)
def tO (f : En → Option (Opd × En)) : TE := fun σ H Q => ∃ O env p env', W K O H env σ ∧ f env = some (p, env') ∧
  ∀ O' H' v, Step O H (FpE H env σ) O' H' (FpE H' env' σ) → W K O' H' env' σ → RepO K O' H' σ p v → Q v H'
def tT (f : En → Option (Bool × En)) : TT := fun σ H Q => ∃ O env b env', W K O H env σ ∧ f env = some (b, env') ∧
  ∀ O' H', Step O H (FpE H env σ) O' H' (FpE H' env' σ) → W K O' H' env' σ → Q b H'
def tAr (f : En → Option (List D × En)) : TA := fun σ H Q => ∃ O env ds env', W K O H env σ ∧ f env = some (ds, env') ∧
  ∀ O' H' vs, Step O H (FpE H env σ) O' H' (FpE H' env' σ) → W K O' H' env' σ → RepDs K O' H' ds vs → Q vs H'
def RepOs (O : Own) (H : Hp) (σ : St) : List Opd → List V → Prop
  | [], vs => vs = []
  | p :: ps, vs => ∃ v r, vs = v :: r ∧ RepO K O H σ p v ∧ RepOs O H σ ps r
def tOs (f : En → Option (List Opd × En)) : TA := fun σ H Q => ∃ O env ps env', W K O H env σ ∧ f env = some (ps, env') ∧
  ∀ O' H' vs, Step O H (FpE H env σ) O' H' (FpE H' env' σ) → W K O' H' env' σ → RepOs K O' H' σ ps vs → Q vs H'
/-- a data value that may be looked at: frozen, or owned by a slot -/
def RepP (O : Own) (H : Hp) (d : D) (v : V) : Prop := RepD K O H d v ∨ ∃ xs a vs, d = .list xs ∧ v = .ref a ∧ H a = some (.lst vs) ∧ RepDs K O H xs vs
/-- what an operation may hand back -/
def RP (O : Own) (H : Hp) (r : Sl) (Q : VK) : Prop := ∀ O' H' v, Step O H F0 O' H' (fun b => Fp H' r v b) → RepS K O' H' r v → Q v H'
end
section
variable {K : PySem.W.Frag} {O O' : Own} {H H' : Hp} {env : En} {σ : St} {Q : VK}
theorem RepO.evo (e : Evo O H O' H') : ∀ {p : Opd} {v : V}, RepO K O H σ p v → RepO K O' H' σ p v
  | .d d, v, h => RepD.evo e d v h
  | .s i, v, h => h
theorem RepOs.evo (e : Evo O H O' H') : ∀ {ps : List Opd} {vs : List V}, RepOs K O H σ ps vs → RepOs K O' H' σ ps vs
  | [], vs, h => h
  | p :: ps, vs, ⟨v, r, e1, h1, h2⟩ => ⟨v, r, e1, RepO.evo e h1, RepOs.evo e h2⟩
theorem RepS.rd {s : Sl} {v : V} {d : D} (r : RepS K O H s v) (e : s.rd = some d) : RepP K O H d v := by
  cases s with
  | no => cases e
  | v d' => cases e; exact .inl r
  | l xs => cases e; obtain ⟨a, vs, rfl, h1, h2, h3⟩ := r; exact .inr ⟨xs, a, vs, rfl, rfl, h1, h3⟩
  | bx _ _ => cases e
  | sc _ => cases e
theorem RepO.get (w : W K O H env σ) {p : Opd} {v : V} {d : D} (r : RepO K O H σ p v) (e : p.get env = some d) : RepP K O H d v := by
  cases p with
  | d x => cases e; exact .inl r
  | s i =>
    simp only [Opd.get, Option.bind_eq_some_iff] at e
    obtain ⟨s, e1, e2⟩ := e
    rcases w.rep i s e1 with rfl | ⟨u, h1, h2⟩
    · cases e2
    · have r' : σ[i]? = some (some v) := r
      rw [h1] at r'; cases r'
      exact RepS.rd h2 e2
def RepPs (K : PySem.W.Frag) (O : Own) (H : Hp) : List D → List V → Prop
  | [], vs => vs = []
  | d :: ds, vs => ∃ v r, vs = v :: r ∧ RepP K O H d v ∧ RepPs K O H ds r
theorem RepOs.gets (w : W K O H env σ) : ∀ {ps : List Opd} {vs : List V} {ds : List D}, RepOs K O H σ ps vs → gets env ps = some ds → RepPs K O H ds vs
  | [], vs, ds, h, e => by
    have e' : ([] : List D) = ds := Option.some.inj e
    subst e'; exact h
  | p :: ps, vs, ds, h, e => by
    obtain ⟨v, r, rfl, h1, h2⟩ := h
    have e' : ((p.get env).bind fun d => (Mini.gets env ps).map (d :: ·)) = some ds := e
    simp only [Option.bind_eq_some_iff, Option.map_eq_some_iff] at e'
    obtain ⟨d, e1, es, e2, rfl⟩ := e'
    exact ⟨v, r, rfl, RepO.get w h1 e1, RepOs.gets w h2 e2⟩
/-! results -/
theorem RP.same {d : D} {v : V} (h : OwnOk O H) (q : RP K O H (.v d) Q) (r : RepD K O H d v) : Q v H :=
  q O H v ⟨⟨h, fun _ _ e _ => e, fun _ e => .inl e, fun _ e => e⟩, h, fun _ e _ => ⟨e, rfl⟩, fun _ e => e.elim⟩ r
theorem OwnOk.new {p : Addr} {o : HO} (h : OwnOk O H) (hp : H p = none) : Step O H F0 O (upd H p o) F0 := by
  have ne : ∀ b u, H b = some u → b ≠ p := fun b u e z => by rw [z, hp] at e; cases e
  refine ⟨⟨h, fun b u e _ => by rw [upd_ne (ne b u e)]; exact e, fun b e => .inl e, fun b e => ?_⟩, fun b e => ?_, fun b e _ => ?_, fun _ e => e.elim⟩
  · cases q : H b with
    | none => exact absurd q e
    | some u => rw [upd_ne (ne b u q), q]; exact Option.some_ne_none _
  · obtain ⟨xs, q⟩ := h b e
    exact ⟨xs, by rw [upd_ne (ne b _ q)]; exact q⟩
  · obtain ⟨xs, q⟩ := h b e
    exact ⟨e, upd_ne (ne b _ q)⟩
theorem RP.tup {ds : List D} {vs : List V} (h : OwnOk O H) (q : RP K O H (.v (.tuple ds)) Q) (r : RepDs K O H ds vs) (p : Addr) (hp : H p = none) : Q (.ref p) (upd H p (.tup vs)) :=
  q O _ _ ((OwnOk.new h hp).sub fun _ e => e.elim) (by
    show RepD K O _ _ _
    simp only [RepD]
    exact ⟨p, vs, rfl, SqT.of upd_same, RepDs.evo (OwnOk.new h hp).evo _ _ r⟩)
theorem RP.lst {ds : List D} {vs : List V} (h : OwnOk O H) (q : RP K O H (.l ds) Q) (r : RepDs K O H ds vs) (p : Addr) (hp : H p = none) : Q (.ref p) (upd H p (.lst vs)) := by
  have n := OwnOk.new (o := .lst vs) h hp
  have st : Step O H F0 (fun b => O b ∨ b = p) (upd H p (.lst vs)) (fun b => Fp (upd H p (.lst vs)) (.l ds) (.ref p) b) := by
    refine ⟨⟨h, n.evo.keepH, fun b e => ?_, n.evo.there⟩, fun b e => ?_, fun b e f => ⟨.inl e, (n.keepO b e f).2⟩, fun b e => ?_⟩
    · rcases e with e | rfl
      · exact .inl e
      · exact .inr hp
    · rcases e with e | rfl
      · exact n.own b e
      · exact ⟨vs, upd_same⟩
    · cases e; exact .inr hp
  exact q _ _ _ st ⟨p, vs, rfl, upd_same, .inr rfl, RepDs.evo st.evo _ _ r⟩
/-- an operation's end, beside an environment -/
theorem RP.end_ {env : En} {r : Sl} (w : W K O H env σ) (q : ∀ O' H' v, Step O H (FpE H env σ) O' H' (FpR H' env σ r v) → WR K O' H' env σ r v → Q v H') : RP K O H r Q := by
  intro O' H' v st rv
  obtain ⟨w', k⟩ := w.keep st
  have dis : ∀ b, Fp H' r v b → ¬ FpE H' env σ b := fun b f g => by
    rcases st.fps b f with z | z
    · exact z
    · obtain ⟨xs, e⟩ := w.own b (w.fpOwn (k b g))
      rw [z] at e; cases e
  refine q O' H' v ⟨st.evo, st.own, fun b e _ => st.keepO b e id, fun b f => ?_⟩ ⟨w', rv, dis⟩
  rcases f with f | f
  · exact .inl (k b f)
  · rcases st.fps b f with z | z
    · exact z.elim
    · exact .inr z
theorem tE.of {f : En → Option (Sl × En)} {r : Sl} {env' : En} (w : W K O H env σ) (e : f env = some (r, env')) (q : ∀ O' H' v, Step O H (FpE H env σ) O' H' (FpR H' env' σ r v) → WR K O' H' env' σ r v → Q v H') : tE K f σ H Q := ⟨O, env, r, env', w, e, q⟩
end
end Mini

namespace Mini
open PySem PySem.Spec L2
/-! rules over readings -/
theorem _root_.L2.PE.imp {X : Cx} {e : Expr} {t t' : TE} (h : PE X e t) (i : ∀ σ H Q, t' σ H Q → t σ H Q) : PE X e t' := ⟨fun pins s σ H Q I q => h.run pins s σ H Q I (i σ H Q q)⟩
theorem _root_.L2.PT.imp {X : Cx} {e : Expr} {t t' : TT} (h : PT X e t) (i : ∀ σ H Q, t' σ H Q → t σ H Q) : PT X e t' := ⟨fun pins s σ H Q I q => h.run pins s σ H Q I (i σ H Q q)⟩
theorem _root_.L2.PW.imp {X : Cx} {e : Expr} {t t' : TT} (h : PW X e t) (i : ∀ σ H Q, t' σ H Q → t σ H Q) : PW X e t' := ⟨fun wh pins s σ H Q I q => h.run wh pins s σ H Q I (i σ H Q q)⟩
theorem _root_.L2.PA.imp {X : Cx} {es : List Expr} {t t' : TA} (h : PA X es t) (i : ∀ σ H Q, t' σ H Q → t σ H Q) : PA X es t' := ⟨fun pos pins s σ H Q I q => h.run pos pins s σ H Q I (i σ H Q q)⟩
theorem _root_.L2.PS.imp {X : Cx} {e : Stmt} {t t' : TS} (h : PS X e t) (i : ∀ D σ H, t' D σ H → t D σ H) : PS X e t' := ⟨fun pins s σ H D I q => h.run pins s σ H D I (i D σ H q)⟩
theorem _root_.L2.PSs.imp {X : Cx} {e : List Stmt} {t t' : TS} (h : PSs X e t) (i : ∀ D σ H, t' D σ H → t D σ H) : PSs X e t' := ⟨fun pins s σ H D I q => h.run pins s σ H D I (i D σ H q)⟩
section
variable {K : PySem.W.Frag} {O O' : Own} {H H' : Hp} {env : En} {σ : St} {Q : VK}
/-- what is owned only shrinks: frozen stays frozen -/
theorem evo_less {O1 : Own} (h : OwnOk O H) (l : ∀ b, O1 b → O b) : Evo O H O1 H := ⟨h, fun _ _ e _ => e, fun b e => .inl (l b e), fun _ e => e⟩
/-- a result, frozen -/
theorem WR.freeze {r : Sl} {v : V} {d : D} (w : WR K O H env σ r v) (e : r.frz = some d) : ∃ O1 : Own, (∀ b, O1 b → O b) ∧ (∀ b, O b → ¬ Fp H r v b → O1 b) ∧ W K O1 H env σ ∧ RepD K O1 H d v := by
  cases r with
  | no => cases e
  | bx _ _ => cases e
  | sc _ => cases e
  | v d' => cases e; exact ⟨O, fun _ e => e, fun _ e _ => e, w.w, w.val⟩
  | l xs =>
    cases e
    obtain ⟨a, vs, rfl, h1, h2, h3⟩ := w.val
    have ev : Evo O H (fun b => O b ∧ b ≠ a) H := evo_less w.w.own fun b e => e.1
    refine ⟨fun b => O b ∧ b ≠ a, fun b e => e.1, fun b e f => ⟨e, fun z => f (by rw [z]; rfl)⟩, ⟨fun b e => w.w.own b e.1, w.w.len, fun i s e => ?_, w.w.sep⟩, ?_⟩
    · rcases w.w.rep i s e with z | ⟨u, e1, e2⟩
      · exact .inl z
      · refine .inr ⟨u, e1, ?_⟩
        have na : ∀ b, Fp H s u b → b ≠ a := fun b f z => w.sep a rfl ⟨i, s, u, e, e1, z ▸ f⟩
        cases s with
        | no => trivial
        | v d => exact RepD.evo ev _ _ e2
        | sc ns => obtain ⟨c, rfl, g⟩ := e2; exact ⟨c, rfl, ScL.evo ev g⟩
        | l ys =>
          obtain ⟨c, us, rfl, g1, g2, g3⟩ := e2
          exact ⟨c, us, rfl, g1, ⟨g2, na c rfl⟩, RepDs.evo ev _ _ g3⟩
        | bx cs rs =>
          obtain ⟨c, d, rfl, g1, g2, g3, g4⟩ := e2
          exact ⟨c, d, rfl, g1, g2, ⟨g3, na c (.inl rfl)⟩, ⟨g4, na d (.inr ⟨c, _, rfl, g1⟩)⟩⟩
    · show RepD K _ H (.list xs) (.ref a)
      simp only [RepD]
      exact ⟨a, vs, rfl, h1, fun z => z.2 rfl, RepDs.evo ev _ _ h3⟩
theorem Step.less {F F' G : Own} {O1 : Own} (st : Step O H F O' H' F') (l : ∀ b, O1 b → O' b) (k : ∀ b, O' b → (F' b → G b) → O1 b) (hg : ∀ b, F' b → ¬ G b → F b ∨ H b = none) : Step O H F O1 H' G → Step O H F O1 H' G := id
/-- a step whose result is frozen -/
theorem frz_step {r : Sl} {v : V} {env' : En} {O1 : Own} (own : OwnOk O H) (st : Step O H (FpE H env σ) O' H' (FpR H' env' σ r v)) (l : ∀ b, O1 b → O' b) (k : ∀ b, O' b → ¬ Fp H' r v b → O1 b) : Step O H (FpE H env σ) O1 H' (FpE H' env' σ) := by
  refine ⟨⟨own, st.evo.keepH, fun b e => st.evo.newO b (l b e), st.evo.there⟩, fun b e => st.own b (l b e), fun b e n => ?_, fun b f => st.fps b (.inl f)⟩
  obtain ⟨h1, h2⟩ := st.keepO b e n
  refine ⟨k b h1 fun f => ?_, h2⟩
  rcases st.fps b (.inr f) with z | z
  · exact n z
  · obtain ⟨xs, q⟩ := own b e
    rw [z] at q; cases q
theorem te_frz {f : En → Option (Sl × En)} (h : tD K (frzM f) σ H Q) : tE K f σ H Q := by
  obtain ⟨O, env, d, env', w, e, q⟩ := h
  simp only [frzM, Option.bind_eq_some_iff, Option.map_eq_some_iff] at e
  obtain ⟨⟨r, e1⟩, h1, d', h2, h3⟩ := e
  cases h3
  refine ⟨O, env, r, e1, w, h1, fun O' H' v st wr => ?_⟩
  obtain ⟨O1, l, k, w1, rd⟩ := wr.freeze h2
  exact q O1 H' v (frz_step w.own st l k) w1 rd
end
section
variable {X : Cx} {e a b : Expr} {pos : Pos}
theorem pe_frz {f : En → Option (Sl × En)} (h : PE X e (tE X.K f)) : PE X e (tD X.K (frzM f)) := h.imp fun _ _ _ q => te_frz q
theorem pe_opd {f : En → Option (D × En)} (h : PE X e (tD X.K f)) : PE X e (tO X.K fun env => (f env).map fun (d, e1) => (.d d, e1)) := h.imp fun σ H Q q => by
  obtain ⟨O, env, p, env', w, e, q⟩ := q
  simp only [Option.map_eq_some_iff] at e
  obtain ⟨⟨d, e1⟩, h1, h2⟩ := e
  cases h2
  exact ⟨O, env, d, e1, w, h1, q⟩
/-- truth -/
theorem truth_tru {K : PySem.W.Frag} {O : Own} {H : Hp} {d : D} {v : V} {k : Bool} (r : RepP K O H d v) (e : truth d = some k) : TruV K v H k := by
  rcases r with r | ⟨xs, a, vs, rfl, rfl, h1, h2⟩
  · cases d with
    | none => simp only [RepD] at r; subst r; cases e; rfl
    | bool b => simp only [RepD] at r; subst r; cases e; rfl
    | int i => simp only [RepD] at r; subst r; cases e; rfl
    | str s =>
      simp only [RepD] at r; subst r
      simp only [truth] at e
      split at e
      · rename_i h; cases e; exact ⟨h, rfl⟩
      · cases e
    | list xs =>
      simp only [RepD] at r
      obtain ⟨a, vs, rfl, h1, h2, h3⟩ := r
      cases e
      refine .inl ⟨vs, SqL.of h1, ?_⟩
      have := h3.length
      cases xs <;> cases vs <;> simp_all
    | tuple xs =>
      simp only [RepD] at r
      obtain ⟨a, vs, rfl, h1, h3⟩ := r
      cases e
      refine .inr (.inl ⟨vs, h1, ?_⟩)
      have := h3.length
      cases xs <;> cases vs <;> simp_all
    | dict _ => cases e
  · cases e
    refine .inl ⟨vs, SqL.of h1, ?_⟩
    have := h2.length
    cases xs <;> cases vs <;> simp_all
def PlainT (e : Expr) : Bool := match e with
  | .BoolOp _ _ _ => false
  | .UnaryOp .Not _ _ => false
  | .Compare _ _ _ _ => false
  | .NamedExpr _ _ _ => false
  | .IfExp _ _ _ _ => false
  | _ => true
theorem plainT {e : Expr} {env : PySem.Env} (h : PlainT e = true) (whole : Sem Value) : isTrue e env whole = (do let v ← whole; standAt e.pos; holding [v] (truthy v)) := by
  cases e with
  | UnaryOp op a p => cases op <;> first | rfl | cases h
  | _ => first | rfl | cases h
theorem pt_tr {X : Cx} {e : Expr} {g : En → Option (Opd × En)} (p : PlainT e = true) (h : PE X e (tO X.K g)) : PT X e (tT X.K (trM g)) := (pt_truth h (plainT p)).imp fun σ H Q q => by
  obtain ⟨O, env, b, env', w, e, q⟩ := q
  simp only [trM, Option.bind_eq_some_iff, Option.map_eq_some_iff] at e
  obtain ⟨⟨p, e1⟩, h1, d, h2, k, h3, h4⟩ := e
  cases h4
  refine ⟨O, env, p, e1, w, h1, fun O' H' v st w' r => ⟨_, truth_tru (RepO.get w' r h2) h3, ?_⟩⟩
  exact q O' H' st w'
/-- an expression of a plain kind -/
structure SE (X : Cx) (e : Expr) (m : M) : Prop where
  val : PE X e (tE X.K m.val)
  opd : PE X e (tO X.K m.opd)
  tst : PT X e (tT X.K m.tst)
theorem SE.ofVal {X : Cx} {e : Expr} {f : En → Option (Sl × En)} (p : PlainT e = true) (h : PE X e (tE X.K f)) : SE X e (.ofVal f) :=
  ⟨h, pe_opd (pe_frz h), pt_tr p (pe_opd (pe_frz h))⟩
theorem SE.d {X : Cx} {e : Expr} {m : M} (h : SE X e m) : PE X e (tD X.K (frzM m.val)) := pe_frz h.val
end
/-! operations of one and two operands -/
section
variable {X : Cx} {e a b : Expr} {ma mb : M} {K : PySem.W.Frag}
theorem te_op1 {f : D → Option Sl} {r : V → Hp → VK → Prop} (hop : ∀ (O : Own) (H : Hp) (d : D) (x : V) (res : Sl) (Q : VK), OwnOk O H → RepP K O H d x → f d = some res → RP K O H res Q → r x H Q) {σ : St} {H : Hp} {Q : VK} (q : tE K (op1 f ma).val σ H Q) : tO K ma.opd σ H fun x H1 => r x H1 Q := by
  obtain ⟨O, env, s, env', w, e, q⟩ := q
  simp only [op1, M.ofVal, Option.bind_eq_some_iff, Option.map_eq_some_iff] at e
  obtain ⟨⟨p, e1⟩, h1, d, h2, res, h3, h4⟩ := e
  cases h4
  refine ⟨O, env, p, e1, w, h1, fun O' H' v st w' rp => hop O' H' d v _ _ w'.own (RepO.get w' rp h2) h3 (RP.end_ w' fun O2 H2 v2 st2 wr => q O2 H2 v2 (st.trans st2 fun _ z => z) wr)⟩
theorem te_op2 {f : D → D → Option Sl} {r : R2} (hop : ∀ (O : Own) (H : Hp) (d1 d2 : D) (x y : V) (res : Sl) (Q : VK), OwnOk O H → RepP K O H d1 x → RepP K O H d2 y → f d1 d2 = some res → RP K O H res Q → r x y H Q) {σ : St} {H : Hp} {Q : VK} (q : tE K (op2 f ma mb).val σ H Q) : tOp r (tO K ma.opd) (tO K mb.opd) σ H Q := by
  obtain ⟨O, env, s, env', w, e, q⟩ := q
  simp only [op2, M.ofVal, Option.bind_eq_some_iff, Option.map_eq_some_iff] at e
  obtain ⟨⟨p, e1⟩, h1, ⟨p2, e2⟩, h2, d, h3, d2, h4, res, h5, h6⟩ := e
  cases h6
  refine ⟨O, env, p, e1, w, h1, fun O1 H1 v1 st1 w1 rp1 => ⟨O1, e1, p2, e2, w1, h2, fun O2 H2 v2 st2 w2 rp2 => ?_⟩⟩
  exact hop O2 H2 d d2 v1 v2 _ _ w2.own (RepO.get w2 (RepO.evo st2.evo rp1) h3) (RepO.get w2 rp2 h4) h5 (RP.end_ w2 fun O3 H3 v3 st3 wr => q O3 H3 v3 ((st1.trans st2 fun _ z => z).trans st3 fun _ z => z) wr)
end
end Mini

set_option maxHeartbeats 4000000
namespace Mini
open PySem PySem.Spec PyProof.Rows L2
/-! a tuple times nought, and times one -/
theorem tuple_mul1 (l : Addr) (items : Array Value) (n : Nat) (dd : Option Addr) (sl : Array (Option Value)) (u : Tok) :
    Meets (Builtin.«tuple.__mul__» ⟨[.ref l, .int 1 u], []⟩) (fun _ R s => s.heap.get? l = some { cls := .type "tuple", dict := dd, data := .seq items n, slots := sl } ∧ R (.ok (.ret (Value.ref l))) s) :=
  .of_wp fun prog w A R s h => by
    obtain ⟨hp, g, d, tk, os⟩ := s
    obtain ⟨hl, h⟩ := h
    have f1 := AutoSeq1.idx_int
    have c1 : (items.isEmpty || (1 : Int) == 1) = true := by simp
    wp_walk using wpAny_loadPart' hl
    repeat (first
      | (refine wpAny_ite_true (decide_eq_true c1) ?_; wp_walk using wpAny_loadPart' hl)
      | (refine wpAny_ite_false (by decide) ?_; wp_walk using wpAny_loadPart' hl))
    exact ⟨_, rfl, h⟩
theorem tuple_mul0 (l : Addr) (items : Array Value) (n : Nat) (dd : Option Addr) (sl : Array (Option Value)) (u : Tok) (c1 : items.isEmpty = false) :
    Meets (Builtin.«tuple.__mul__» ⟨[.ref l, .int 0 u], []⟩) (fun _ R s => s.heap.get? l = some { cls := .type "tuple", dict := dd, data := .seq items n, slots := sl } ∧
      R (.ok (.ret (Value.ref s.heap.objs.size))) { s with heap := s.heap.push { cls := Value.type "tuple", data := Data.seq #[] }, toks := s.toks }) :=
  .of_wp fun prog w A R s h => by
    obtain ⟨hp, g, d, tk, os⟩ := s
    obtain ⟨hl, h⟩ := h
    have f1 := AutoSeq1.idx_int
    have c2 : (items.isEmpty || (0 : Int) == 1) = false := by rw [c1]; rfl
    have c3 : (decide ((0 : Int) ≤ 0) || items.isEmpty) = true := by simp
    wp_walk using wpAny_loadPart' hl
    repeat (first
      | (refine wpAny_ite_false (decide_eq_false (by rw [c2]; exact Bool.false_ne_true)) ?_; wp_walk using wpAny_loadPart' hl)
      | (refine wpAny_ite_true (decide_eq_true c3) ?_; wp_walk using wpAny_loadPart' hl)
      | (refine wpAny_ite_false (by decide) ?_; wp_walk using wpAny_loadPart' hl))
    exact ⟨_, rfl, h⟩
def rRep1 (K : PySem.W.Frag) : R2 := fun x y H Q => ∃ l xs, x = .ref l ∧ y = .int 1 ∧ SqT K H l xs ∧ Q (.ref l) H
def rRep0 (K : PySem.W.Frag) : R2 := fun x y H Q => ∃ l xs, x = .ref l ∧ y = .int 0 ∧ SqT K H l xs ∧ xs ≠ [] ∧ ∀ p, H p = none → Q (.ref p) (upd H p (.tup []))
section
variable {X : Cx}
theorem op_rep1 : OpR X (binaryOp .Mult) (rRep1 X.K) := by
  intro pins s σ H x y v u Q I rx ry h
  obtain ⟨l, xs, rfl, rfl, hT, q⟩ := h
  cases rx
  obtain ⟨t, rfl⟩ := ry
  obtain ⟨its, r, ⟨⟨cls, dd, data, sl⟩, ho, hc, n, hd⟩, hs⟩ := I.tuple hT
  simp only at hc hd
  subst hc hd
  refine wpAny_binaryOp_repeat_ref (T := "tuple") (U := "int") (by decide) ⟨_, ho, rfl⟩ (fun s' => typeIs_int s' 1 t) noFill_tuple_mul F.fills_int_mul F.slot_int_rmul repeat_tuple F.slot_int_index.lookup
    (call_meets F.slot_int_rmul (typeIs_int s 1 t) F.entry_int_rmul (F.args_int_rmul_2 _ _) (int_rmul_tuple 1 t l its.toArray n dd sl)
      ⟨ho, rfl, ⟨_, ho, rfl⟩, call_meets F.slot_tuple_mul ⟨_, ho, rfl⟩ F.entry_tuple_mul (F.args_tuple_mul_2 _ _) (tuple_mul1 l its.toArray n dd sl t) ⟨ho, ?_⟩⟩)
  exact ⟨.ref l, H, I, rfl, q⟩
theorem op_rep0 : OpR X (binaryOp .Mult) (rRep0 X.K) := by
  intro pins s σ H x y v u Q I rx ry h
  obtain ⟨l, xs, rfl, rfl, hT, hne, q⟩ := h
  cases rx
  obtain ⟨t, rfl⟩ := ry
  obtain ⟨its, r, ⟨⟨cls, dd, data, sl⟩, ho, hc, n, hd⟩, hs⟩ := I.tuple hT
  simp only at hc hd
  subst hc hd
  have hle : its.length = xs.length := r.length.symm
  have hi : its.toArray.isEmpty = false := by
    cases its with
    | nil => exact absurd (List.eq_nil_of_length_eq_zero hle.symm) hne
    | cons a b => rfl
  refine wpAny_binaryOp_repeat_ref (T := "tuple") (U := "int") (by decide) ⟨_, ho, rfl⟩ (fun s' => typeIs_int s' 0 t) noFill_tuple_mul F.fills_int_mul F.slot_int_rmul repeat_tuple F.slot_int_index.lookup
    (call_meets F.slot_int_rmul (typeIs_int s 0 t) F.entry_int_rmul (F.args_int_rmul_2 _ _) (int_rmul_tuple 0 t l its.toArray n dd sl)
      ⟨ho, rfl, ⟨_, ho, rfl⟩, call_meets F.slot_tuple_mul ⟨_, ho, rfl⟩ F.entry_tuple_mul (F.args_tuple_mul_2 _ _) (tuple_mul0 l its.toArray n dd sl t hi) ⟨ho, ?_⟩⟩)
  refine ⟨.ref s.heap.objs.size, _, I.laid (t' := s.toks) (o := .tup []) (fun b ob q => Heap.get?_push_of_some _ q) (Nat.le_refl _) ?_, rfl, q _ (I.hok.fresh (Nat.le_refl _))⟩
  exact ⟨by show 0 ≤ sizeLine; exact Nat.zero_le _, [], .nil, IsTup.new _ _⟩
end
end Mini

namespace Mini
open PySem PySem.Spec L2
section
variable {K : PySem.W.Frag} {O : Own} {H : Hp}
theorem RepP.none {v : V} (r : RepP K O H .none v) : v = .non := by
  rcases r with r | ⟨_, _, _, e, _⟩
  · simpa only [RepD] using r
  · cases e
theorem RepP.bool {v : V} {b : Bool} (r : RepP K O H (.bool b) v) : v = .bl b := by
  rcases r with r | ⟨_, _, _, e, _⟩
  · simpa only [RepD] using r
  · cases e
theorem RepP.int {v : V} {i : Int} (r : RepP K O H (.int i) v) : v = .int i := by
  rcases r with r | ⟨_, _, _, e, _⟩
  · simpa only [RepD] using r
  · cases e
theorem RepP.str {v : V} {i : Str} (r : RepP K O H (.str i) v) : v = .str i := by
  rcases r with r | ⟨_, _, _, e, _⟩
  · simpa only [RepD] using r
  · cases e
theorem RepP.tuple {v : V} {ds : List D} (r : RepP K O H (.tuple ds) v) : ∃ a vs, v = .ref a ∧ SqT K H a vs ∧ RepDs K O H ds vs := by
  rcases r with r | ⟨_, _, _, e, _⟩
  · simpa only [RepD] using r
  · cases e
theorem RepP.list {v : V} {ds : List D} (r : RepP K O H (.list ds) v) : ∃ a vs, v = .ref a ∧ H a = some (.lst vs) ∧ RepDs K O H ds vs := by
  rcases r with r | ⟨_, a, vs, e, e2, h1, h2⟩
  · simp only [RepD] at r
    obtain ⟨a, vs, e, h1, _, h2⟩ := r
    exact ⟨a, vs, e, h1, h2⟩
  · cases e; exact ⟨a, vs, e2, h1, h2⟩
theorem RepP.dict {v : V} {ds : List (D × D)} (r : RepP K O H (.dict ds) v) : False := by
  rcases r with r | ⟨_, _, _, e, _⟩
  · simpa only [RepD] using r
  · cases e
mutual
theorem RepD.dp : ∀ (d : D) (v : V), RepD K O H d v → Dp K H v d
  | .none, v, h => by simp only [RepD] at h; subst h; exact .non
  | .bool b, v, h => by simp only [RepD] at h; subst h; exact .bl b
  | .int b, v, h => by simp only [RepD] at h; subst h; exact .int b
  | .str b, v, h => by simp only [RepD] at h; subst h; exact .str b
  | .tuple ds, v, h => by
    simp only [RepD] at h
    obtain ⟨a, vs, rfl, h1, h2⟩ := h
    exact .tup h1 (RepDs.dp ds vs h2)
  | .list ds, v, h => by
    simp only [RepD] at h
    obtain ⟨a, vs, rfl, h1, _, h2⟩ := h
    exact .lst (SqL.of h1) (RepDs.dp ds vs h2)
  | .dict _, v, h => by simp only [RepD] at h
theorem RepDs.dp : ∀ (ds : List D) (vs : List V), RepDs K O H ds vs → DpAll K H vs ds
  | [], vs, h => by simp only [RepDs] at h; subst h; exact .nil
  | d :: ds, vs, h => by
    simp only [RepDs] at h
    obtain ⟨v, r, rfl, h1, h2⟩ := h
    exact .cons (RepD.dp d v h1) (RepDs.dp ds r h2)
end
theorem RepP.dp {d : D} {v : V} (r : RepP K O H d v) : Dp K H v d := by
  rcases r with r | ⟨_, a, vs, rfl, rfl, h1, h2⟩
  · exact RepD.dp d v r
  · exact .lst (SqL.of h1) (RepDs.dp _ _ h2)
end
theorem _root_.L2.PE.never {X : Cx} {e : Expr} : PE X e (fun _ _ _ => False) := ⟨fun _ _ _ _ _ _ q => q.elim⟩
theorem OpR.never {X : Cx} {f : Value → Value → Sem Value} : OpR X f (fun _ _ _ _ => False) := fun _ _ _ _ _ _ _ _ _ _ _ _ q => q.elim
/-- what an operator is asked -/
def HOp2 (K : PySem.W.Frag) (f : D → D → Option Sl) (r : R2) : Prop :=
  ∀ (O : Own) (H : Hp) (d1 d2 : D) (x y : V) (res : Sl) (Q : VK), OwnOk O H → RepP K O H d1 x → RepP K O H d2 y → f d1 d2 = some res → RP K O H res Q → r x y H Q
def HOp1 (K : PySem.W.Frag) (f : D → Option Sl) (r : V → Hp → VK → Prop) : Prop :=
  ∀ (O : Own) (H : Hp) (d : D) (x : V) (res : Sl) (Q : VK), OwnOk O H → RepP K O H d x → f d = some res → RP K O H res Q → r x H Q
section
variable {X : Cx} {K : PySem.W.Frag}
def rAdd4 (K : PySem.W.Frag) : R2 := fun x y H Q => (rI0 fun i j => .int (i + j)) x y H Q ∨ ((fun x y H Q => ∃ i j, x = .str i ∧ y = .str j ∧ i.length + j.length ≤ sizeLine ∧ Q (.str (i ++ j)) H) : R2) x y H Q ∨ rCatA K x y H Q ∨ rCat x y H Q
theorem or_add : OpR X (binaryOp .Add) (rAdd4 X.K) := OpR.or op_add (OpR.or op_add_str (OpR.or op_catA op_cat))
theorem ho_add : HOp2 K (binD .Add) (rAdd4 K) := by
  intro O H d1 d2 x y res Q own h1 h2 e q
  cases d1 with
  | int i =>
    cases d2 with
    | int j => cases e; exact .inl ⟨i, j, h1.int, h2.int, q.same own (by simp only [RepD])⟩
    | _ => cases e
  | str i =>
    cases d2 with
    | str j =>
      simp only [binD] at e
      split at e
      · rename_i h; cases e; exact .inr (.inl ⟨i, j, h1.str, h2.str, h, q.same own (by simp only [RepD])⟩)
      · cases e
    | _ => cases e
  | tuple xs =>
    cases d2 with
    | tuple ys =>
      simp only [binD] at e
      split at e
      · rename_i h
        cases e
        obtain ⟨a, vs, rfl, s1, r1⟩ := h1.tuple
        obtain ⟨b, us, rfl, s2, r2⟩ := h2.tuple
        have l1 := r1.length
        have l2 := r2.length
        refine .inr (.inr (.inl ⟨a, b, vs, us, rfl, rfl, s1, s2, by omega, fun z => ?_, fun _ z => ?_, fun _ _ p hp => q.tup own (r1.append r2) p hp⟩))
        · subst z
          have : xs = [] := List.length_eq_zero_iff.mp (by simpa using l1)
          subst this
          exact q.same own (by simp only [RepD, List.nil_append]; exact ⟨b, us, rfl, s2, r2⟩)
        · subst z
          have : ys = [] := List.length_eq_zero_iff.mp (by simpa using l2)
          subst this
          exact q.same own (by simp only [RepD, List.append_nil]; exact ⟨a, vs, rfl, s1, r1⟩)
      · cases e
    | _ => cases e
  | list xs =>
    cases d2 with
    | list ys =>
      simp only [binD] at e
      split at e
      · rename_i h
        cases e
        obtain ⟨a, vs, rfl, s1, r1⟩ := h1.list
        obtain ⟨b, us, rfl, s2, r2⟩ := h2.list
        have l1 := r1.length
        have l2 := r2.length
        exact .inr (.inr (.inr ⟨a, b, vs, us, rfl, rfl, s1, s2, by omega, fun p hp => q.lst own (r1.append r2) p hp⟩))
      · cases e
    | _ => cases e
  | _ => cases e
theorem ho_int {op : Operator} {C : Int → Int → Prop} [∀ i j, Decidable (C i j)] {g : Int → Int → Int} (hb : ∀ d1 d2 res, binD op d1 d2 = some res → ∃ i j, d1 = .int i ∧ d2 = .int j ∧ C i j ∧ res = .v (.int (g i j))) : HOp2 K (binD op) (rI C fun i j => .int (g i j)) := by
  intro O H d1 d2 x y res Q own h1 h2 e q
  obtain ⟨i, j, rfl, rfl, c, rfl⟩ := hb _ _ _ e
  exact ⟨i, j, h1.int, h2.int, c, q.same own (by simp only [RepD])⟩
theorem ho_sub : HOp2 K (binD .Sub) (rI0 fun i j => .int (i - j)) := by
  intro O H d1 d2 x y res Q own h1 h2 e q
  cases d1 with
  | int i =>
    cases d2 with
    | int j => cases e; exact ⟨i, j, h1.int, h2.int, q.same own (by simp only [RepD])⟩
    | _ => cases e
  | _ => cases e
theorem ho_div : HOp2 K (binD .FloorDiv) (rI CDivW fun i j => .int (i / j)) := by
  intro O H d1 d2 x y res Q own h1 h2 e q
  cases d1 with
  | int i =>
    cases d2 with
    | int j =>
      simp only [binD] at e
      split at e
      · rename_i h; cases e; exact ⟨i, j, h1.int, h2.int, h, q.same own (by simp only [RepD])⟩
      · cases e
    | _ => cases e
  | _ => cases e
theorem ho_mod : HOp2 K (binD .Mod) (rI (fun _ j => 0 < j) fun i j => .int (i % j)) := by
  intro O H d1 d2 x y res Q own h1 h2 e q
  cases d1 with
  | int i =>
    cases d2 with
    | int j =>
      simp only [binD] at e
      split at e
      · rename_i h; cases e; exact ⟨i, j, h1.int, h2.int, h, q.same own (by simp only [RepD])⟩
      · cases e
    | _ => cases e
  | _ => cases e
theorem ho_pow : HOp2 K (binD .Pow) (rI CPow fun i j => .int (i ^ j.toNat)) := by
  intro O H d1 d2 x y res Q own h1 h2 e q
  cases d1 with
  | int i =>
    cases d2 with
    | int j =>
      simp only [binD] at e
      split at e
      · rename_i h; cases e; exact ⟨i, j, h1.int, h2.int, h, q.same own (by simp only [RepD])⟩
      · cases e
    | _ => cases e
  | _ => cases e
def rMul4 (K : PySem.W.Frag) : R2 := fun x y H Q => (rI CMulW fun i j => .int (i * j)) x y H Q ∨ (rI CMul fun i j => .int (i * j)) x y H Q ∨ rRepT K x y H Q ∨ rRep x y H Q ∨ rRep1 K x y H Q ∨ rRep0 K x y H Q
theorem or_mul : OpR X (binaryOp .Mult) (rMul4 X.K) := OpR.or op_mulW (OpR.or op_mul (OpR.or op_repT (OpR.or op_rep (OpR.or op_rep1 op_rep0))))
theorem ho_mul : HOp2 K (binD .Mult) (rMul4 K) := by
  intro O H d1 d2 x y res Q own h1 h2 e q
  cases d1 with
  | int i =>
    cases d2 with
    | int j =>
      simp only [binD] at e
      split at e
      · rename_i h
        cases e
        rcases h with h | h
        · exact .inl ⟨i, j, h1.int, h2.int, h, q.same own (by simp only [RepD])⟩
        · exact .inr (.inl ⟨i, j, h1.int, h2.int, h, q.same own (by simp only [RepD])⟩)
      · cases e
    | _ => cases e
  | tuple xs =>
    cases d2 with
    | int k =>
      simp only [binD] at e
      split at e
      · rename_i h
        cases e
        obtain ⟨a, vs, rfl, s1, r1⟩ := h1.tuple
        have l1 := r1.length
        obtain ⟨n0, n1, n2, n3⟩ := h
        refine .inr (.inr (.inl ⟨a, k, vs, rfl, h2.int, s1, fun z => n0 ?_, n1, n2, by omega, fun p hp => q.tup own (r1.flat _) p hp⟩))
        subst z
        exact List.length_eq_zero_iff.mp (by simpa using l1)
      · split at e
        · rename_i hk
          subst hk
          cases e
          obtain ⟨a, vs, rfl, s1, r1⟩ := h1.tuple
          exact .inr (.inr (.inr (.inr (.inl ⟨a, vs, rfl, h2.int, s1, q.same own (by simp only [RepD]; exact ⟨a, vs, rfl, s1, r1⟩)⟩))))
        · split at e
          · rename_i hk
            obtain ⟨rfl, hne⟩ := hk
            cases e
            obtain ⟨a, vs, rfl, s1, r1⟩ := h1.tuple
            have l1 := r1.length
            refine .inr (.inr (.inr (.inr (.inr ⟨a, vs, rfl, h2.int, s1, fun z => hne ?_, fun p hp => q.tup own (by simp only [RepDs]) p hp⟩))))
            subst z
            exact List.length_eq_zero_iff.mp (by simpa using l1)
          · cases e
    | _ => cases e
  | list xs =>
    cases d2 with
    | int k =>
      simp only [binD] at e
      split at e
      · rename_i h
        cases e
        obtain ⟨a, vs, rfl, s1, r1⟩ := h1.list
        have l1 := r1.length
        obtain ⟨n1, n2, n3⟩ := h
        exact .inr (.inr (.inr (.inl ⟨a, k, vs, rfl, h2.int, s1, n1, n2, by rw [← l1]; exact n3, fun p hp => q.lst own (r1.flat _) p hp⟩)))
      · cases e
    | _ => cases e
  | _ => cases e
/-- + - * and so on -/
def rBin (K : PySem.W.Frag) : Operator → R2
  | .Add => rAdd4 K
  | .Sub => rI0 fun i j => .int (i - j)
  | .Mult => rMul4 K
  | .FloorDiv => rI CDivW fun i j => .int (i / j)
  | .Mod => rI (fun _ j => 0 < j) fun i j => .int (i % j)
  | .Pow => rI CPow fun i j => .int (i ^ j.toNat)
  | _ => fun _ _ _ _ => False
theorem or_bin (op : Operator) : OpR X (binaryOp op) (rBin X.K op) := by
  cases op with
  | Add => exact or_add
  | Sub => exact op_sub
  | Mult => exact or_mul
  | FloorDiv => exact op_fdivW
  | Mod => exact op_mod
  | Pow => exact op_pow
  | _ => exact OpR.never
theorem ho_bin (op : Operator) : HOp2 K (binD op) (rBin K op) := by
  cases op with
  | Add => exact ho_add
  | Sub => exact ho_sub
  | Mult => exact ho_mul
  | FloorDiv => exact ho_div
  | Mod => exact ho_mod
  | Pow => exact ho_pow
  | _ => intro O H d1 d2 x y res Q own h1 h2 e q; cases d1 <;> cases d2 <;> cases e
/-- in a tuple of any data -/
def rInT (K : PySem.W.Frag) : R2 := fun x y H Q => ∃ d ds, Dp K H x d ∧ Dp K H y (.tuple ds) ∧ SeqAt.shaped d = true ∧ SeqAt.shaped (.tuple ds) = true ∧ Q (.bl (ds.any fun z => PyData.eqv z d)) H
def rNotInT (K : PySem.W.Frag) : R2 := fun x y H Q => ∃ d ds, Dp K H x d ∧ Dp K H y (.tuple ds) ∧ SeqAt.shaped d = true ∧ SeqAt.shaped (.tuple ds) = true ∧ Q (.bl (!ds.any fun z => PyData.eqv z d)) H
theorem op_inT (hu : X.A.units + 65 < cLine) : OpR X (compareOp .In) (rInT X.K) := by
  intro pins s σ H x y v u Q I rx ry h
  obtain ⟨d, ds, hd, he, sd, se, q⟩ := h
  obtain ⟨as, r1⟩ := Dp.reads I d x v hd rx
  obtain ⟨bs, r2⟩ := Dp.reads I (.tuple ds) y u he ry
  exact SeqAt.in_tuple_reads r2 r1 (SeqAt.canLay_of_shaped se) (SeqAt.canLay_of_shaped sd) (PyProof.Rows.room_in_shaped sd hu) ⟨.bl _, H, I, rfl, q⟩
theorem op_notInT (hu : X.A.units + 65 < cLine) : OpR X (compareOp .NotIn) (rNotInT X.K) := by
  intro pins s σ H x y v u Q I rx ry h
  obtain ⟨d, ds, hd, he, sd, se, q⟩ := h
  obtain ⟨as, r1⟩ := Dp.reads I d x v hd rx
  obtain ⟨bs, r2⟩ := Dp.reads I (.tuple ds) y u he ry
  exact SeqAt.notIn_tuple_reads r2 r1 (SeqAt.canLay_of_shaped se) (SeqAt.canLay_of_shaped sd) (PyProof.Rows.room_in_shaped sd hu) ⟨.bl _, H, I, rfl, q⟩
def rLt2 (K : PySem.W.Frag) : R2 := fun x y H Q => (rI0 fun i j => .bl (decide (i < j))) x y H Q ∨ rLtT K x y H Q
def rIn2 (K : PySem.W.Frag) : R2 := fun x y H Q => rInD K x y H Q ∨ rInT K x y H Q
def rNotIn2 (K : PySem.W.Frag) : R2 := fun x y H Q => rNotInD K x y H Q ∨ rNotInT K x y H Q
/-- comparisons -/
def rCmp (K : PySem.W.Frag) : CmpOp → R2
  | .Eq => rEqD K
  | .NotEq => rNeD K
  | .Lt => rLt2 K
  | .LtE => rI0 fun i j => .bl (decide (i ≤ j))
  | .Gt => rI0 fun i j => .bl (decide (j < i))
  | .GtE => rI0 fun i j => .bl (decide (j ≤ i))
  | .In => rIn2 K
  | .NotIn => rNotIn2 K
  | _ => fun _ _ _ _ => False
theorem or_cmp {k : Nat} (hr : Room k X.A) (op : CmpOp) : OpR X (compareOp op) (rCmp X.K op) := by
  have hu : X.A.units + 65 < cLine := by have := hr.un; omega
  cases op with
  | Eq => exact op_eqD hr.units
  | NotEq => exact op_neD hr.units
  | Lt => exact OpR.or op_lt (op_ltT hr.units0)
  | LtE => exact op_le
  | Gt => exact op_gt
  | GtE => exact op_ge
  | In => exact OpR.or (op_inD hu) (op_inT hu)
  | NotIn => exact OpR.or (op_notInD hu) (op_notInT hu)
  | _ => exact OpR.never
theorem ho_cmp (op : CmpOp) : HOp2 K (cmpD op) (rCmp K op) := by
  intro O H d1 d2 x y res Q own h1 h2 e q
  have eqs : ∀ (f : Bool), (if SeqAt.shaped d1 = true ∧ SeqAt.shaped d2 = true then b2s f else none) = some res → SeqAt.shaped d1 = true ∧ SeqAt.shaped d2 = true ∧ res = .v (.bool f) := fun f e => by
    split at e
    · rename_i h; cases e; exact ⟨h.1, h.2, rfl⟩
    · cases e
  cases op with
  | Eq =>
    obtain ⟨s1, s2, rfl⟩ := eqs _ e
    exact ⟨d1, d2, h1.dp, h2.dp, s1, s2, q.same own (by simp only [RepD])⟩
  | NotEq =>
    obtain ⟨s1, s2, rfl⟩ := eqs _ e
    exact ⟨d1, d2, h1.dp, h2.dp, s1, s2, q.same own (by simp only [RepD])⟩
  | Is => cases d1 <;> cases d2 <;> cases e
  | IsNot => cases d1 <;> cases d2 <;> cases e
  | In =>
    cases d2 with
    | list ds =>
      have e' : (if SeqAt.shaped d1 = true ∧ SeqAt.shaped (.list ds) = true then b2s (ds.any fun z => PyData.eqv z d1) else none) = some res := by cases d1 <;> exact e
      obtain ⟨s1, s2, rfl⟩ := eqs _ e'
      exact .inl ⟨d1, ds, h1.dp, h2.dp, s1, s2, q.same own (by simp only [RepD])⟩
    | tuple ds =>
      have e' : (if SeqAt.shaped d1 = true ∧ SeqAt.shaped (.tuple ds) = true then b2s (ds.any fun z => PyData.eqv z d1) else none) = some res := by cases d1 <;> exact e
      obtain ⟨s1, s2, rfl⟩ := eqs _ e'
      exact .inr ⟨d1, ds, h1.dp, h2.dp, s1, s2, q.same own (by simp only [RepD])⟩
    | _ => cases d1 <;> cases e
  | NotIn =>
    cases d2 with
    | list ds =>
      have e' : (if SeqAt.shaped d1 = true ∧ SeqAt.shaped (.list ds) = true then b2s (!ds.any fun z => PyData.eqv z d1) else none) = some res := by cases d1 <;> exact e
      obtain ⟨s1, s2, rfl⟩ := eqs _ e'
      exact .inl ⟨d1, ds, h1.dp, h2.dp, s1, s2, q.same own (by simp only [RepD])⟩
    | tuple ds =>
      have e' : (if SeqAt.shaped d1 = true ∧ SeqAt.shaped (.tuple ds) = true then b2s (!ds.any fun z => PyData.eqv z d1) else none) = some res := by cases d1 <;> exact e
      obtain ⟨s1, s2, rfl⟩ := eqs _ e'
      exact .inr ⟨d1, ds, h1.dp, h2.dp, s1, s2, q.same own (by simp only [RepD])⟩
    | _ => cases d1 <;> cases e
  | Lt =>
    cases d1 with
    | int i =>
      cases d2 with
      | int j => cases e; exact .inl ⟨i, j, h1.int, h2.int, q.same own (by simp only [RepD])⟩
      | _ => cases e
    | tuple xs =>
      cases d2 with
      | tuple ys =>
        simp only [cmpD, Option.bind_eq_some_iff] at e
        obtain ⟨ns, e1, ms, e2, e3⟩ := e
        cases e3
        obtain ⟨a, vs, rfl, s1, r1⟩ := h1.tuple
        obtain ⟨b, us, rfl, s2, r2⟩ := h2.tuple
        have i1 := r1.intsOf e1
        have i2 := r2.intsOf e2
        subst i1 i2
        exact .inr ⟨a, b, ns, ms, rfl, rfl, s1, s2, q.same own (by simp only [RepD])⟩
      | _ => cases e
    | _ => cases d2 <;> cases e
  | _ =>
    cases d1 with
    | int i =>
      cases d2 with
      | int j => cases e; exact ⟨i, j, h1.int, h2.int, q.same own (by simp only [RepD])⟩
      | _ => cases e
    | _ => cases d2 <;> cases e
def rIdx (K : PySem.W.Frag) : R2 := fun x y H Q => rIxL K x y H Q ∨ rIxT K x y H Q
theorem atI_rep {O : Own} {H : Hp} {xs : List D} {vs : List V} {i : Int} {d : D} (r : RepDs K O H xs vs) (e : atI xs i = some d) : ∃ v, atI vs i = some v ∧ RepD K O H d v := by
  unfold atI at e ⊢
  simp only [Option.bind_eq_some_iff] at e
  obtain ⟨j, h1, h2⟩ := e
  obtain ⟨v, h3, h4⟩ := r.get h2
  exact ⟨v, by rw [← r.length, h1]; exact h3, h4⟩
theorem ho_idx : HOp2 K idxD (rIdx K) := by
  intro O H d1 d2 x y res Q own h1 h2 e q
  cases d2 with
  | int i =>
    cases d1 with
    | list xs =>
      simp only [idxD, Option.map_eq_some_iff] at e
      obtain ⟨d, e1, rfl⟩ := e
      obtain ⟨a, vs, rfl, s1, r1⟩ := h1.list
      obtain ⟨v, e2, r2⟩ := atI_rep r1 e1
      exact .inl ⟨a, vs, i, v, rfl, h2.int, SqL.of s1, e2, q.same own r2⟩
    | tuple xs =>
      simp only [idxD, Option.map_eq_some_iff] at e
      obtain ⟨d, e1, rfl⟩ := e
      obtain ⟨a, vs, rfl, s1, r1⟩ := h1.tuple
      obtain ⟨v, e2, r2⟩ := atI_rep r1 e1
      exact .inr ⟨a, vs, i, v, rfl, h2.int, s1, e2, q.same own r2⟩
    | _ => cases e
  | _ => cases d1 <;> cases e
theorem ho_neg : HOp1 K negD (rU fun i => .int (-i)) := by
  intro O H d x res Q own h e q
  cases d with
  | int i => cases e; exact ⟨i, h.int, q.same own (by simp only [RepD])⟩
  | _ => cases e
def dNone : D → Bool
  | .none => true
  | _ => false
theorem isn_rep {O : Own} {H : Hp} {d : D} {x : V} (h : RepP K O H d x) : decide (x = .non) = dNone d := by
  cases d with
  | none => have e := h.none; subst e; rfl
  | bool b => have e := h.bool; subst e; rfl
  | int b => have e := h.int; subst e; rfl
  | str b => have e := h.str; subst e; rfl
  | list b => obtain ⟨a, vs, e, _⟩ := h.list; subst e; rfl
  | tuple b => obtain ⟨a, vs, e, _⟩ := h.tuple; subst e; rfl
  | dict b => exact h.dict.elim
theorem isnD_eq (ng : Bool) (d : D) : isnD ng d = some (.v (.bool (if ng then !dNone d else dNone d))) := by
  cases d <;> cases ng <;> rfl
end
end Mini

namespace Mini
open PySem PySem.Spec L2
section
variable {K : PySem.W.Frag} {O O' : Own} {H H' : Hp} {env : En} {σ : St} {i : Nat}
theorem W.lt (w : W K O H env σ) {s : Sl} (e : env[i]? = some s) : i < env.length ∧ i < σ.length := by
  have := (List.getElem?_eq_some_iff.mp e).1
  exact ⟨this, w.len ▸ this⟩
/-- slot i's content is replaced (σ the same there): the rest stands -/
theorem W.put {s t : Sl} {v : V} (w : W K O H env σ) (st : Step O H (Fp H s v) O' H' (Fp H' t v)) (e : env[i]? = some s) (es : σ[i]? = some (some v)) (r : RepS K O' H' t v) :
    W K O' H' (env.set i t) σ ∧ Step O H (FpE H env σ) O' H' (FpE H' (env.set i t) σ) := by
  obtain ⟨l1, l2⟩ := w.lt e
  have other : ∀ (j : Nat) (u : Sl) (x : V), j ≠ i → env[j]? = some u → σ[j]? = some (some x) → u = .no ∨ (RepS K O' H' u x ∧ ∀ b, Fp H' u x b → Fp H u x b) := fun j u x n e1 e2 => by
    rcases w.rep j u e1 with z | ⟨y, h1, h2⟩
    · exact .inl z
    · rw [e2] at h1; cases h1
      exact .inr (RepS.keep st h2 fun b f g => w.sep j i u s x v b n e1 e e2 es f g)
  have ofp : ∀ (j : Nat) (u : Sl) (x : V) (b : Addr), j ≠ i → env[j]? = some u → σ[j]? = some (some x) → Fp H' u x b → Fp H u x b := fun j u x b n e1 e2 f => by
    rcases other j u x n e1 e2 with rfl | z
    · exact f.elim
    · exact z.2 b f
  have get : ∀ (j : Nat) (u : Sl), (env.set i t)[j]? = some u → (j = i ∧ u = t) ∨ (j ≠ i ∧ env[j]? = some u) := fun j u z => by
    by_cases hj : j = i
    · subst hj; rw [List.getElem?_set_self l1] at z; exact .inl ⟨rfl, (Option.some.inj z).symm⟩
    · rw [List.getElem?_set_ne (Ne.symm hj)] at z; exact .inr ⟨hj, z⟩
  -- t's addresses are s's or new
  have tn : ∀ b, Fp H' t v b → Fp H s v b ∨ H b = none := fun b f => st.fps b f
  have apart : ∀ (j : Nat) (u : Sl) (x : V) (b : Addr), j ≠ i → env[j]? = some u → σ[j]? = some (some x) → Fp H' u x b → Fp H' t v b → False := fun j u x b n e1 e2 f g => by
    have f' := ofp j u x b n e1 e2 f
    rcases tn b g with z | z
    · exact w.sep j i u s x v b n e1 e e2 es f' z
    · obtain ⟨xs, q⟩ := w.own b (w.fpOwn ⟨j, u, x, e1, e2, f'⟩)
      rw [q] at z; cases z
  refine ⟨⟨st.own, by rw [List.length_set]; exact w.len, fun j u z => ?_, fun j k u y x z b n e1 e2 e3 e4 f1 f2 => ?_⟩, ⟨st.evo, st.own, fun b ob nf => st.keepO b ob fun f => nf ⟨i, s, v, e, es, f⟩, fun b ⟨j, u, x, e1, e2, f⟩ => ?_⟩⟩
  · rcases get j u z with ⟨rfl, rfl⟩ | ⟨n, z⟩
    · exact .inr ⟨v, es, r⟩
    · rcases w.rep j u z with q | ⟨y, h1, h2⟩
      · exact .inl q
      · rcases other j u y n z h1 with q | q
        · exact .inl q
        · exact .inr ⟨y, h1, q.1⟩
  · rcases get j u e1 with ⟨rfl, rfl⟩ | ⟨n1, q1⟩ <;> rcases get k y e2 with ⟨rfl, rfl⟩ | ⟨n2, q2⟩
    · exact n rfl
    · rw [es] at e3; cases e3; exact apart k y z b n2 q2 e4 f2 f1
    · rw [es] at e4; cases e4; exact apart j u x b n1 q1 e3 f1 f2
    · exact w.sep j k u y x z b n q1 q2 e3 e4 (ofp j u x b n1 q1 e3 f1) (ofp k y z b n2 q2 e4 f2)
  · rcases get j u e1 with ⟨rfl, rfl⟩ | ⟨n, q⟩
    · rw [es] at e2; cases e2
      rcases st.fps b f with z | z
      · exact .inl ⟨j, s, v, e, es, z⟩
      · exact .inr z
    · exact .inl ⟨j, u, x, q, e2, ofp j u x b n q e2 f⟩
/-- an owned list frozen where it stands -/
theorem W.freeze {xs : List D} (w : W K O H env σ) (e : env[i]? = some (.l xs)) : ∃ v O1, σ[i]? = some (some v) ∧ W K O1 H (env.set i (.v (.list xs))) σ ∧ Step O H (FpE H env σ) O1 H (FpE H (env.set i (.v (.list xs))) σ) ∧ RepD K O1 H (.list xs) v := by
  rcases w.rep i _ e with z | ⟨v, es, r⟩
  · cases z
  obtain ⟨a, vs, rfl, h1, h2, h3⟩ := id r
  have ev : Evo O H (fun b => O b ∧ b ≠ a) H := evo_less w.own fun b z => z.1
  have rd : RepD K (fun b => O b ∧ b ≠ a) H (.list xs) (.ref a) := by
    simp only [RepD]
    exact ⟨a, vs, rfl, h1, fun z => z.2 rfl, RepDs.evo ev _ _ h3⟩
  have st : Step O H (Fp H (.l xs) (.ref a)) (fun b => O b ∧ b ≠ a) H (Fp H (.v (.list xs)) (.ref a)) :=
    ⟨ev, fun b z => w.own b z.1, fun b z n => ⟨⟨z, fun q => n (by rw [q]; rfl)⟩, rfl⟩, fun b f => f.elim⟩
  obtain ⟨w1, s1⟩ := w.put st e es rd
  exact ⟨.ref a, _, es, w1, s1, rd⟩
/-- an owned list changed in place -/
theorem W.write {xs ys : List D} {us : List V} (w : W K O H env σ) (e : env[i]? = some (.l xs)) (a : Addr) (es : σ[i]? = some (some (.ref a))) (ry : RepDs K O H ys us) :
    W K O (upd H a (.lst us)) (env.set i (.l ys)) σ ∧ Step O H (FpE H env σ) O (upd H a (.lst us)) (FpE (upd H a (.lst us)) (env.set i (.l ys)) σ) := by
  rcases w.rep i _ e with z | ⟨v, es', r⟩
  · cases z
  rw [es] at es'; cases es'
  obtain ⟨a', vs, z, h1, h2, h3⟩ := r
  cases z
  have ev : Evo O H O (upd H a (.lst us)) := ⟨w.own, fun b o q n => by rw [upd_ne (fun z => n (by rw [z]; exact h2))]; exact q, fun b z => .inl z, fun b z => by
    by_cases hb : b = a
    · rw [hb, upd_same]; exact Option.some_ne_none _
    · rw [upd_ne hb]; exact z⟩
  have own' : OwnOk O (upd H a (.lst us)) := fun b z => by
    by_cases hb : b = a
    · rw [hb]; exact ⟨us, upd_same⟩
    · rw [upd_ne hb]; exact w.own b z
  have st : Step O H (Fp H (.l xs) (.ref a)) O (upd H a (.lst us)) (Fp (upd H a (.lst us)) (.l ys) (.ref a)) :=
    ⟨ev, own', fun b z n => ⟨z, upd_ne fun q => n (by rw [q]; rfl)⟩, fun b f => .inl f⟩
  exact w.put st e es ⟨a, us, rfl, upd_same, h2, RepDs.evo ev _ _ ry⟩
/-- a result stored: the slot's name takes it -/
theorem WR.store {r s : Sl} {v : V} (w : WR K O H env σ r v) (e : env[i]? = some s) (nb : s.isBx = false) :
    W K O H (env.set i r) (σ.set i (some v)) ∧ ∀ b, FpE H (env.set i r) (σ.set i (some v)) b → FpE H env σ b ∨ Fp H r v b := by
  obtain ⟨l1, l2⟩ := w.w.lt e
  have get : ∀ (j : Nat) (u : Sl), (env.set i r)[j]? = some u → (j = i ∧ u = r) ∨ (j ≠ i ∧ env[j]? = some u) := fun j u z => by
    by_cases hj : j = i
    · subst hj; rw [List.getElem?_set_self l1] at z; exact .inl ⟨rfl, (Option.some.inj z).symm⟩
    · rw [List.getElem?_set_ne (Ne.symm hj)] at z; exact .inr ⟨hj, z⟩
  have ge2 : ∀ (j : Nat), j ≠ i → (σ.set i (some v))[j]? = σ[j]? := fun j n => List.getElem?_set_ne (Ne.symm n)
  have ge1 : (σ.set i (some v))[i]? = some (some v) := List.getElem?_set_self l2
  refine ⟨⟨w.w.own, by rw [List.length_set, List.length_set]; exact w.w.len, fun j u z => ?_, fun j k u y x z b n e1 e2 e3 e4 f1 f2 => ?_⟩, fun b ⟨j, u, x, e1, e2, f⟩ => ?_⟩
  · rcases get j u z with ⟨rfl, rfl⟩ | ⟨n, z⟩
    · exact .inr ⟨v, ge1, w.val⟩
    · rw [ge2 j n]; exact w.w.rep j u z
  · rcases get j u e1 with ⟨rfl, rfl⟩ | ⟨n1, q1⟩ <;> rcases get k y e2 with ⟨rfl, rfl⟩ | ⟨n2, q2⟩
    · exact n rfl
    · rw [ge1] at e3; cases e3; rw [ge2 k n2] at e4; exact w.sep b f1 ⟨k, y, z, q2, e4, f2⟩
    · rw [ge1] at e4; cases e4; rw [ge2 j n1] at e3; exact w.sep b f2 ⟨j, u, x, q1, e3, f1⟩
    · rw [ge2 j n1] at e3; rw [ge2 k n2] at e4; exact w.w.sep j k u y x z b n q1 q2 e3 e4 f1 f2
  · rcases get j u e1 with ⟨rfl, rfl⟩ | ⟨n, q⟩
    · rw [ge1] at e2; cases e2; exact .inr f
    · rw [ge2 j n] at e2; exact .inl ⟨j, u, x, q, e2, f⟩
/-- a slot forgotten -/
theorem W.wipe1 (w : W K O H env σ) (i : Nat) : W K O H (env.set i .no) σ ∧ ∀ b, FpE H (env.set i .no) σ b → FpE H env σ b := by
  have get : ∀ (j : Nat) (u : Sl), (env.set i .no)[j]? = some u → u = .no ∨ env[j]? = some u := fun j u z => by
    by_cases hj : j = i
    · subst hj
      by_cases hl : j < env.length
      · rw [List.getElem?_set_self hl] at z; exact .inl (Option.some.inj z).symm
      · rw [List.getElem?_eq_none (by simpa using hl)] at z; cases z
    · rw [List.getElem?_set_ne (Ne.symm hj)] at z; exact .inr z
  refine ⟨⟨w.own, by rw [List.length_set]; exact w.len, fun j u z => ?_, fun j k u y x z b n e1 e2 e3 e4 f1 f2 => ?_⟩, fun b ⟨j, u, x, e1, e2, f⟩ => ?_⟩
  · rcases get j u z with q | q
    · exact .inl q
    · exact w.rep j u q
  · rcases get j u e1 with rfl | q1
    · exact f1
    · rcases get k y e2 with rfl | q2
      · exact f2
      · exact w.sep j k u y x z b n q1 q2 e3 e4 f1 f2
  · rcases get j u e1 with rfl | q
    · exact f.elim
    · exact ⟨j, u, x, q, e2, f⟩
theorem W.wipeE (w : W K O H env σ) : ∀ (own : List Nat), W K O H (wipeE env own) σ ∧ ∀ b, FpE H (wipeE env own) σ b → FpE H env σ b
  | [] => ⟨w, fun _ f => f⟩
  | v :: vs => by
    obtain ⟨w1, k1⟩ := W.wipeE w vs
    obtain ⟨w2, k2⟩ := w1.wipe1 v
    exact ⟨w2, fun b f => k1 b (k2 b f)⟩
end
end Mini

namespace Mini
open PySem PySem.Spec L2
theorem bOf_some {s : Sl} {k : Bool} (h : bOf s = some k) : s = .v (.bool k) := by
  unfold bOf at h
  split at h
  · cases h; rfl
  · cases h
section
variable {X : Cx} {e a b c : Expr} {ma mb mc : M} {pos : Pos}
/-! names, constants -/
theorem se_var {i : Nat} {x : Str} (hN : X.N[i]? = some x) (hv : Vis X.env.scope x) (hd : (x == ("__debug__" : Str)) = false) (hcd : (x == ("__classdict__" : Str)) = false) : SE X (.Name x pos) (varM i) := by
  have pe : PE X (.Name x pos) (tVar i) := pe_var hN hv hd hcd
  have po : PE X (.Name x pos) (tO X.K (varM i).opd) := pe.imp fun σ H Q q => by
    obtain ⟨O, env, p, env', w, h, q⟩ := q
    simp only [varM] at h
    split at h
    · rename_i d hd'
      cases h
      rcases w.rep i _ hd' with z | ⟨v, e1, e2⟩
      · cases z
      · exact ⟨v, e1, q O H v (Step.refl w.own) w e2⟩
    · rename_i xs hd'
      cases h
      rcases w.rep i _ hd' with z | ⟨v, e1, e2⟩
      · cases z
      · exact ⟨v, e1, q O H v (Step.refl w.own) w e1⟩
    · cases h
  refine ⟨pe.imp fun σ H Q q => ?_, po, pt_tr rfl po⟩
  obtain ⟨O, env, r, env', w, h, q⟩ := q
  simp only [varM] at h
  split at h
  · rename_i d hd'
    cases h
    rcases w.rep i _ hd' with z | ⟨v, e1, e2⟩
    · cases z
    · exact ⟨v, e1, q O H v ((Step.refl w.own).sub fun b f => f.elim id fun z => z.elim) ⟨w, e2, fun b f => f.elim⟩⟩
  · rename_i xs hd'
    cases h
    obtain ⟨v, O1, e1, w1, st, rd⟩ := w.freeze hd'
    exact ⟨v, e1, q O1 H v (st.sub fun b f => f.elim id fun z => z.elim) ⟨w1, rd, fun b f => f.elim⟩⟩
  · cases h
theorem te_cst {K : PySem.W.Frag} {d : D} {v : V} (r : ∀ (O : Own) (H : Hp), RepD K O H d v) {σ : St} {H : Hp} {Q : VK} (q : tE K (fun env => some (.v d, env)) σ H Q) : tC v σ H Q := by
  obtain ⟨O, env, s, env', w, h, q⟩ := q
  cases h
  exact q O H v ((Step.refl w.own).sub fun b f => f.elim id fun z => z.elim) ⟨w, r O H, fun b f => f.elim⟩
def cstD : Const → Option D
  | .none => some .none
  | .bool b => some (.bool b)
  | .int i => some (.int i)
  | .str s => some (.str s)
  | _ => none
theorem se_cst {k : Const} {j : Nat} {d : D} (h : cstD k = some d) : SE X (.Constant k j pos) (.ofVal fun env => some (.v d, env)) := by
  refine .ofVal rfl ?_
  cases k with
  | none => cases h; exact pe_non.imp fun _ _ _ q => te_cst (fun _ _ => by simp only [RepD]) q
  | bool b => cases h; exact pe_bl.imp fun _ _ _ q => te_cst (fun _ _ => by simp only [RepD]) q
  | int b => cases h; exact pe_int.imp fun _ _ _ q => te_cst (fun _ _ => by simp only [RepD]) q
  | str b => cases h; exact pe_str.imp fun _ _ _ q => te_cst (fun _ _ => by simp only [RepD]) q
  | _ => cases h
/-- a constant of the module -/
def GlOk (X : Cx) (x : Str) (d : D) : Prop := ∃ v u, X.mg x = some u ∧ RelV v u ∧ ∀ (O : Own) (H : Hp), RepD X.K O H d v
theorem se_glob {x : Str} {d : D} (hg : Gl X x) (h : GlOk X x d) (hd : (x == ("__debug__" : Str)) = false) : SE X (.Name x pos) (.ofVal fun env => some (.v d, env)) := by
  obtain ⟨v, u, hm, r, rd⟩ := h
  exact .ofVal rfl ((pe_glob hg hm r hd).imp fun _ _ _ q => te_cst rd q)
/-! operators -/
theorem se_bin {op : Operator} (ha : SE X a ma) (hb : SE X b mb) : SE X (.BinOp a op b pos) (op2 (binD op) ma mb) :=
  .ofVal rfl ((pe_op (or_bin op) ha.opd hb.opd).imp fun _ _ _ q => te_op2 (ho_bin op) q)
theorem se_neg (ha : SE X a ma) : SE X (.UnaryOp .USub a pos) (op1 negD ma) :=
  .ofVal rfl ((pe_un un_neg ha.opd).imp fun _ _ _ q => te_op1 ho_neg q)
theorem se_idx (ha : SE X a ma) (hb : SE X b mb) (hs : PlainIx b) : SE X (.Subscript a b pos) (op2 idxD ma mb) :=
  .ofVal rfl ((pe_ix (ix_list.or ix_tup) ha.opd hb.opd hs).imp fun _ _ _ q => te_op2 ho_idx q)
/-- a comparison, as a value and as a test -/
theorem se_of_cmp {f : En → Option (Sl × En)} (h : PE X e (tE X.K f)) (ht : PT X e (tT X.K (M.cmp f).tst)) : SE X e (.cmp f) :=
  ⟨h, pe_opd (pe_frz h), ht⟩
theorem tt_of_te {K : PySem.W.Frag} {f : En → Option (Sl × En)} {σ : St} {H : Hp} {Q : Bool → Hp → Prop} (q : tT K (M.cmp f).tst σ H Q) : tE K f σ H fun x H' => ∃ k, x = .bl k ∧ Q k H' := by
  obtain ⟨O, env, b, env', w, h, q⟩ := q
  simp only [M.cmp, Option.bind_eq_some_iff, Option.map_eq_some_iff] at h
  obtain ⟨⟨s, e1⟩, h1, b', h2, h3⟩ := h
  cases h3
  refine ⟨O, env, s, e1, w, h1, fun O' H' v st wr => ?_⟩
  have e2 : s = .v (.bool b) := bOf_some h2
  subst e2
  have e3 : v = .bl b := by simpa only [RepS, RepD] using wr.val
  exact ⟨b, e3, q O' H' (st.sub fun b f => .inl f) wr.w⟩
theorem se_cmp {k : Nat} (hr : Room k X.A) {op : CmpOp} (ha : SE X a ma) (hb : SE X b mb) (hm : behindInMarks op b = false) : SE X (.Compare a [op] [b] pos) (cmpM op ma mb) :=
  se_of_cmp ((pe_cmpR (or_cmp hr op) ha.opd hb.opd hm).imp fun _ _ _ q => te_op2 (ho_cmp op) q)
    ((pt_cmpR (or_cmp hr op) ha.opd hb.opd hm).imp fun σ H Q q => te_op2 (ho_cmp op) (tt_of_te q))
theorem te_isn {K : PySem.W.Frag} {ng : Bool} {σ : St} {H : Hp} {Q : VK} (q : tE K (op1 (isnD ng) ma).val σ H Q) : tO K ma.opd σ H fun x H1 => Q (.bl (if ng then !decide (x = .non) else decide (x = .non))) H1 := by
  refine te_op1 (r := fun x H Q => Q (.bl (if ng then !decide (x = .non) else decide (x = .non))) H) (fun O H d x res Q own h e q => ?_) q
  rw [isnD_eq] at e
  cases e
  rw [isn_rep h]
  exact q.same own (by simp only [RepD])
theorem se_is {j : Nat} {p : Pos} (ha : SE X a ma) : SE X (.Compare a [.Is] [.Constant .none j p] pos) (isnM false ma) :=
  se_of_cmp ((pe_cmp (pc_isN ha.opd)).imp fun _ _ _ q => te_isn (ng := false) q) ((pt_cmp (pc_isN ha.opd)).imp fun _ _ _ q => te_isn (ng := false) (tt_of_te q))
theorem se_isnot {j : Nat} {p : Pos} (ha : SE X a ma) : SE X (.Compare a [.IsNot] [.Constant .none j p] pos) (isnM true ma) :=
  se_of_cmp ((pe_cmp (pc_notN ha.opd)).imp fun _ _ _ q => te_isn (ng := true) q) ((pt_cmp (pc_notN ha.opd)).imp fun _ _ _ q => te_isn (ng := true) (tt_of_te q))
/-! a < b < c -/
theorem te_chn {K : PySem.W.Frag} {o1 o2 : CmpOp} {σ : St} {H : Hp} {Q : VK} (q : tE K (chnM o1 o2 ma mb mc).val σ H Q) : tChain (rCmp K o1) (rCmp K o2) (tO K ma.opd) (tO K mb.opd) (tO K mc.opd) σ H Q := by
  obtain ⟨O, env, s, env', w, e, q⟩ := q
  simp only [chnM, M.cmp, M.ofVal, Option.bind_eq_some_iff] at e
  obtain ⟨⟨p, e1⟩, h1, ⟨p2, e2⟩, h2, d, h3, d2, h4, r, h5, k, h6, h7⟩ := e
  have er := bOf_some h6
  subst er
  refine ⟨O, env, p, e1, w, h1, fun O1 H1 v1 st1 w1 rp1 => ⟨O1, e1, p2, e2, w1, h2, fun O2 H2 v2 st2 w2 rp2 => ?_⟩⟩
  have st12 := st1.trans st2 fun _ z => z
  refine ho_cmp o1 O2 H2 d d2 v1 v2 _ _ w2.own (RepO.get w2 (RepO.evo st2.evo rp1) h3) (RepO.get w2 rp2 h4) h5 (RP.end_ w2 fun O3 H3 v3 st3 wr => ?_)
  have e3 : v3 = .bl k := by simpa only [RepS, RepD] using wr.val
  have st123 := st12.trans st3 fun _ z => z
  refine ⟨k, e3, ?_⟩
  cases k with
  | false =>
    rw [if_neg (by decide)] at h7
    cases h7
    rw [if_neg (by decide)]
    exact q O3 H3 (.bl false) st123 ⟨wr.w, by simp only [RepS, RepD], fun b f => f.elim⟩
  | true =>
    rw [if_pos rfl] at h7
    simp only [Option.bind_eq_some_iff, Option.map_eq_some_iff] at h7
    obtain ⟨⟨p3, e4⟩, h8, y2, h9, z, h10, r2, h11, h12⟩ := h7
    cases h12
    rw [if_pos rfl]
    refine ⟨O3, e2, p3, e4, wr.w, h8, fun O4 H4 v4 st4 w4 rp4 => ?_⟩
    refine ho_cmp o2 O4 H4 y2 z v2 v4 _ _ w4.own (RepO.get w4 (RepO.evo st4.evo (RepO.evo st3.evo rp2)) h9) (RepO.get w4 rp4 h10) h11 (RP.end_ w4 fun O5 H5 v5 st5 wr5 => ?_)
    exact q O5 H5 v5 ((st123.trans st4 fun _ z => .inl z).trans st5 fun _ z => z) wr5
theorem se_chn {k : Nat} (hr : Room k X.A) {o1 o2 : CmpOp} (ha : SE X a ma) (hb : SE X b mb) (hc : SE X c mc) (pe : PE X (.Compare a [o1, o2] [b, c] pos) (tChain (rCmp X.K o1) (rCmp X.K o2) (tO X.K ma.opd) (tO X.K mb.opd) (tO X.K mc.opd)))
    (pt : PT X (.Compare a [o1, o2] [b, c] pos) (tTest (tChain (rCmp X.K o1) (rCmp X.K o2) (tO X.K ma.opd) (tO X.K mb.opd) (tO X.K mc.opd)))) : SE X (.Compare a [o1, o2] [b, c] pos) (chnM o1 o2 ma mb mc) :=
  se_of_cmp (pe.imp fun _ _ _ q => te_chn q) (pt.imp fun _ _ _ q => te_chn (tt_of_te q))
/-! not, and, or, if else -/
theorem te_tru {K : PySem.W.Frag} {g : En → Option (Opd × En)} {σ : St} {H : Hp} {Q : Bool → Hp → Prop} (q : tT K (trM g) σ H Q) : tO K g σ H fun x H' => ∃ k, TruV K x H' k ∧ Q k H' := by
  obtain ⟨O, env, b, env', w, h, q⟩ := q
  simp only [trM, Option.bind_eq_some_iff, Option.map_eq_some_iff] at h
  obtain ⟨⟨p, e1⟩, h1, d, h2, k, h3, h4⟩ := h
  cases h4
  exact ⟨O, env, p, e1, w, h1, fun O' H' v st w' r => ⟨b, truth_tru (RepO.get w' r h2) h3, q O' H' st w'⟩⟩
theorem se_not (ha : SE X a ma) : SE X (.UnaryOp .Not a pos) (notM ma) := by
  have pe : PE X (.UnaryOp .Not a pos) (tE X.K (notM ma).val) := (pe_notT ha.opd).imp fun σ H Q q => by
    obtain ⟨O, env, s, env', w, h, q⟩ := q
    simp only [notM, M.ofVal, Option.map_eq_some_iff] at h
    obtain ⟨⟨k, e1⟩, h1, h2⟩ := h
    cases h2
    exact te_tru (Q := fun k H1 => Q (.bl (!k)) H1) ⟨O, env, k, e1, w, h1, fun O' H' st w' => q O' H' (.bl (!k)) (st.sub fun b f => f.elim id fun z => z.elim) ⟨w', by simp only [RepS, RepD], fun b f => f.elim⟩⟩
  refine ⟨pe, pe_opd (pe_frz pe), (pt_not ha.tst).imp fun σ H Q q => ?_⟩
  obtain ⟨O, env, s, env', w, h, q⟩ := q
  simp only [notM, Option.map_eq_some_iff] at h
  obtain ⟨⟨k, e1⟩, h1, h2⟩ := h
  cases h2
  exact ⟨O, env, k, e1, w, h1, q⟩
/-- the items of and, or -/
inductive SEs (X : Cx) : List Expr → List M → Prop
  | nil : SEs X [] []
  | cons {e es m ms} : SE X e m → SEs X es ms → SEs X (e :: es) (m :: ms)
theorem bopV_two {o : BoolOp} {a b : M} {r : List M} {env : En} : bopV o (a :: b :: r) env = (frzM a.val env).bind fun (d, e1) => (truth d).bind fun k => if k == isAnd o then bopV o (b :: r) e1 else some (d, e1) := rfl
theorem bopT_two {o : BoolOp} {a b : M} {r : List M} {env : En} : bopT o (a :: b :: r) env = (a.tst env).bind fun (k, e1) => if k == isAnd o then bopT o (b :: r) e1 else some (k, e1) := rfl
theorem pe_bop {o : BoolOp} : ∀ {es : List Expr} {ms : List M}, es ≠ [] → SEs X es ms → PE X (.BoolOp o es pos) (tD X.K (bopV o ms))
  | [], _, n, _ => absurd rfl n
  | [e], _, _, .cons h .nil => pe_one h.d
  | e :: e2 :: es, _, _, .cons (ms := m2 :: ms) (m := m) h (.cons h2 hs) => by
    have ih := pe_bop (o := o) (es := e2 :: es) (by simp) (.cons h2 hs)
    have key : ∀ {σ : St} {H : Hp} {Q : VK}, tD X.K (bopV o (m :: m2 :: ms)) σ H Q → tD X.K (frzM m.val) σ H fun x H1 => ∃ k, TruV X.K x H1 k ∧ if (k == isAnd o) = true then tD X.K (bopV o (m2 :: ms)) σ H1 Q else Q x H1 := by
      intro σ H Q q
      obtain ⟨O, env, d, env', w, h, q⟩ := q
      rw [bopV_two] at h
      simp only [Option.bind_eq_some_iff] at h
      obtain ⟨⟨d1, e1⟩, h1, k, h2, h3⟩ := h
      refine ⟨O, env, d1, e1, w, h1, fun O1 H1 v1 st1 w1 r1 => ⟨k, truth_tru (.inl r1) h2, ?_⟩⟩
      split at h3
      · rename_i hk
        rw [if_pos hk]
        exact ⟨O1, e1, d, env', w1, h3, fun O2 H2 v2 st2 w2 r2 => q O2 H2 v2 (st1.trans st2 fun _ z => z) w2 r2⟩
      · rename_i hk
        cases h3
        rw [if_neg hk]
        exact q O1 H1 v1 st1 w1 r1
    cases o with
    | And =>
      refine (pe_andT h.d ih).imp fun σ H Q q => ?_
      obtain ⟨O, env, d, env', w, h, q⟩ := key q
      refine ⟨O, env, d, env', w, h, fun O' H' v st w' r => ?_⟩
      obtain ⟨k, t, q⟩ := q O' H' v st w' r
      refine ⟨k, t, ?_⟩
      cases k <;> exact q
    | Or =>
      refine (pe_orT h.d ih).imp fun σ H Q q => ?_
      obtain ⟨O, env, d, env', w, h, q⟩ := key q
      refine ⟨O, env, d, env', w, h, fun O' H' v st w' r => ?_⟩
      obtain ⟨k, t, q⟩ := q O' H' v st w' r
      refine ⟨k, t, ?_⟩
      cases k <;> exact q
theorem pw_bop {o : BoolOp} : ∀ {es : List Expr} {ms : List M}, es ≠ [] → SEs X es ms → PW X (.BoolOp o es pos) (tT X.K (bopT o ms))
  | [], _, n, _ => absurd rfl n
  | [e], _, _, .cons h .nil => by cases o; exact pw_and1 h.tst; exact pw_or1 h.tst
  | e :: e2 :: es, _, _, .cons (ms := m2 :: ms) (m := m) h (.cons h2 hs) => by
    have ih := pw_bop (o := o) (es := e2 :: es) (by simp) (.cons h2 hs)
    have key : ∀ {σ : St} {H : Hp} {Q : Bool → Hp → Prop}, tT X.K (bopT o (m :: m2 :: ms)) σ H Q → tT X.K m.tst σ H fun k H1 => if (k == isAnd o) = true then tT X.K (bopT o (m2 :: ms)) σ H1 Q else Q k H1 := by
      intro σ H Q q
      obtain ⟨O, env, d, env', w, h, q⟩ := q
      rw [bopT_two] at h
      simp only [Option.bind_eq_some_iff] at h
      obtain ⟨⟨k, e1⟩, h1, h3⟩ := h
      refine ⟨O, env, k, e1, w, h1, fun O1 H1 st1 w1 => ?_⟩
      split at h3
      · rename_i hk
        rw [if_pos hk]
        exact ⟨O1, e1, d, env', w1, h3, fun O2 H2 st2 w2 => q O2 H2 (st1.trans st2 fun _ z => z) w2⟩
      · rename_i hk
        cases h3
        rw [if_neg hk]
        exact q O1 H1 st1 w1
    cases o with
    | And =>
      refine (pw_and h.tst ih).imp fun σ H Q q => ?_
      obtain ⟨O, env, k, env', w, h, q⟩ := key q
      refine ⟨O, env, k, env', w, h, fun O' H' st w' => ?_⟩
      have q := q O' H' st w'
      cases k <;> exact q
    | Or =>
      refine (pw_or h.tst ih).imp fun σ H Q q => ?_
      obtain ⟨O, env, k, env', w, h, q⟩ := key q
      refine ⟨O, env, k, env', w, h, fun O' H' st w' => ?_⟩
      have q := q O' H' st w'
      cases k <;> exact q
theorem pe_v {f : En → Option (D × En)} (h : PE X e (tD X.K f)) : PE X e (tE X.K fun env => (f env).map fun (d, e1) => (.v d, e1)) := h.imp fun σ H Q q => by
  obtain ⟨O, env, s, env', w, e, q⟩ := q
  simp only [Option.map_eq_some_iff] at e
  obtain ⟨⟨d, e1⟩, h1, h2⟩ := e
  cases h2
  exact ⟨O, env, d, e1, w, h1, fun O' H' v st w' r => q O' H' v (st.sub fun b f => f.elim id fun z => z.elim) ⟨w', r, fun b f => f.elim⟩⟩
theorem se_bop {o : BoolOp} {es : List Expr} {ms : List M} (n : es ≠ []) (h : SEs X es ms) : SE X (.BoolOp o es pos) (bopM o ms) :=
  ⟨pe_v (pe_bop n h), pe_opd (pe_frz (pe_v (pe_bop n h))), (pw_bop n h).pt⟩
theorem te_ite {K : PySem.W.Frag} {σ : St} {H : Hp} {Q : VK} (q : tE K (iteM mc ma mb).val σ H Q) : tIf (tT K mc.tst) (tE K ma.val) (tE K mb.val) σ H Q := by
  obtain ⟨O, env, s, env', w, h, q⟩ := q
  simp only [iteM, M.ofVal, Option.bind_eq_some_iff] at h
  obtain ⟨⟨k, e1⟩, h1, h2⟩ := h
  refine ⟨O, env, k, e1, w, h1, fun O1 H1 st1 w1 => ?_⟩
  split at h2
  · rename_i hk
    rw [if_pos hk]
    exact ⟨O1, e1, s, env', w1, h2, fun O2 H2 v st2 wr => q O2 H2 v (st1.trans st2 fun _ z => z) wr⟩
  · rename_i hk
    rw [if_neg hk]
    exact ⟨O1, e1, s, env', w1, h2, fun O2 H2 v st2 wr => q O2 H2 v (st1.trans st2 fun _ z => z) wr⟩
theorem pt_ite (hc : PT X c (tT X.K mc.tst)) (ha : PT X a (tT X.K ma.tst)) (hb : PT X b (tT X.K mb.tst)) : PT X (.IfExp c a b pos) (tT X.K (iteM mc ma mb).tst) := by
  refine ⟨fun pins s σ H Q I q => ?_⟩
  obtain ⟨O, env, k, env', w, h, q⟩ := q
  simp only [iteM, Option.bind_eq_some_iff] at h
  obtain ⟨⟨k1, e1⟩, h1, h2⟩ := h
  have e : ∀ wh, PySem.isTrue (.IfExp c a b pos) X.env wh = (do
    if ← PySem.isTrue c X.env (eval c X.env) then PySem.isTrue a X.env (eval a X.env) else PySem.isTrue b X.env (eval b X.env)) := by
    intro wh; simp only [PySem.isTrue]
  rw [e]
  refine wpAny_bind (thn (hc.run pins s σ H (fun k H1 => if k = true then tT X.K ma.tst σ H1 Q else tT X.K mb.tst σ H1 Q) I ⟨O, env, k1, e1, w, h1, fun O1 H1 st1 w1 => ?_⟩) fun d s1 ⟨H1, I1, q1⟩ => ?_)
  · split at h2
    · rename_i hk
      rw [if_pos hk]
      exact ⟨O1, e1, k, env', w1, h2, fun O2 H2 st2 w2 => q O2 H2 (st1.trans st2 fun _ z => z) w2⟩
    · rename_i hk
      rw [if_neg hk]
      exact ⟨O1, e1, k, env', w1, h2, fun O2 H2 st2 w2 => q O2 H2 (st1.trans st2 fun _ z => z) w2⟩
  · cases d with
    | true => exact ha.run pins s1 σ H1 Q I1 q1
    | false => exact hb.run pins s1 σ H1 Q I1 q1
theorem se_ite (hc : SE X c mc) (ha : SE X a ma) (hb : SE X b mb) : SE X (.IfExp c a b pos) (iteM mc ma mb) := by
  have pe : PE X (.IfExp c a b pos) (tE X.K (iteM mc ma mb).val) := (pe_ifExp hc.tst ha.val hb.val).imp fun _ _ _ q => te_ite q
  exact ⟨pe, pe_opd (pe_frz pe), pt_ite hc.tst ha.tst hb.tst⟩
/-! argument lists -/
def notStar : Expr → Bool
  | .Starred _ _ => false
  | _ => true
theorem star_of {e : Expr} {es : List Expr} {env : PySem.Env} (h : notStar e = true) : starEach (e :: es) env = (false, eval e env) :: starEach es env := by
  cases e <;> first | rfl | cases h
theorem pa_args : ∀ {es : List Expr} {ms : List M}, es.all notStar = true → SEs X es ms → PA X es (tAr X.K (argsM ms))
  | [], _, _, .nil => pa_nil.imp fun σ H Q q => by
    obtain ⟨O, env, ds, env', w, h, q⟩ := q
    cases h
    exact q O H [] (Step.refl w.own) w (by simp only [RepDs])
  | e :: es, _, n, .cons (m := m) (ms := ms) h hs => by
    simp only [List.all_cons, Bool.and_eq_true] at n
    refine (pa_cons h.d (pa_args n.2 hs) (star_of n.1)).imp fun σ H Q q => ?_
    obtain ⟨O, env, ds, env', w, h, q⟩ := q
    simp only [argsM, Option.bind_eq_some_iff, Option.map_eq_some_iff] at h
    obtain ⟨⟨d, e1⟩, h1, ⟨ds', e2⟩, h2, h3⟩ := h
    cases h3
    refine ⟨O, env, d, e1, w, h1, fun O1 H1 v1 st1 w1 r1 => ⟨O1, e1, ds', e2, w1, h2, fun O2 H2 vs st2 w2 r2 => ?_⟩⟩
    exact q O2 H2 (v1 :: vs) (st1.trans st2 fun _ z => z) w2 (by simp only [RepDs]; exact ⟨v1, vs, rfl, RepD.evo st2.evo _ _ r1, r2⟩)
theorem pa_ops : ∀ {es : List Expr} {ms : List M}, es.all notStar = true → SEs X es ms → PA X es (tOs X.K (opsM ms))
  | [], _, _, .nil => pa_nil.imp fun σ H Q q => by
    obtain ⟨O, env, ds, env', w, h, q⟩ := q
    cases h
    exact q O H [] (Step.refl w.own) w rfl
  | e :: es, _, n, .cons (m := m) (ms := ms) h hs => by
    simp only [List.all_cons, Bool.and_eq_true] at n
    refine (pa_cons h.opd (pa_ops n.2 hs) (star_of n.1)).imp fun σ H Q q => ?_
    obtain ⟨O, env, ds, env', w, h, q⟩ := q
    simp only [opsM, Option.bind_eq_some_iff, Option.map_eq_some_iff] at h
    obtain ⟨⟨d, e1⟩, h1, ⟨ds', e2⟩, h2, h3⟩ := h
    cases h3
    refine ⟨O, env, d, e1, w, h1, fun O1 H1 v1 st1 w1 r1 => ⟨O1, e1, ds', e2, w1, h2, fun O2 H2 vs st2 w2 r2 => ?_⟩⟩
    exact q O2 H2 (v1 :: vs) (st1.trans st2 fun _ z => z) w2 ⟨v1, vs, rfl, RepO.evo st2.evo r1, r2⟩
/-- displays -/
theorem se_tup {es : List Expr} {ms : List M} {k : Nat} (n : es.all notStar = true) (h : SEs X es ms) : SE X (.Tuple es k pos) (tupM ms) :=
  .ofVal rfl ((L2.pe_tup (pa_args n h)).imp fun σ H Q q => by
    obtain ⟨O, env, s, env', w, h, q⟩ := q
    simp only [Option.bind_eq_some_iff] at h
    obtain ⟨⟨ds, e1⟩, h1, h2⟩ := h
    split at h2
    · rename_i hl
      cases h2
      refine ⟨O, env, ds, e1, w, h1, fun O1 H1 vs st1 w1 r1 => ⟨by rw [← r1.length]; exact hl, fun p hp => ?_⟩⟩
      exact RP.tup w1.own (RP.end_ w1 fun O2 H2 v2 st2 wr => q O2 H2 v2 (st1.trans st2 fun _ z => z) wr) r1 p hp
    · cases h2)
theorem se_lst {es : List Expr} {ms : List M} (n : es.all notStar = true) (h : SEs X es ms) : SE X (.List es pos) (lstM ms) :=
  .ofVal rfl ((L2.pe_lst (pa_args n h)).imp fun σ H Q q => by
    obtain ⟨O, env, s, env', w, h, q⟩ := q
    simp only [Option.bind_eq_some_iff] at h
    obtain ⟨⟨ds, e1⟩, h1, h2⟩ := h
    split at h2
    · rename_i hl
      cases h2
      refine ⟨O, env, ds, e1, w, h1, fun O1 H1 vs st1 w1 r1 => ⟨by rw [← r1.length]; exact hl, fun p hp => ?_⟩⟩
      exact RP.lst w1.own (RP.end_ w1 fun O2 H2 v2 st2 wr => q O2 H2 v2 (st1.trans st2 fun _ z => z) wr) r1 p hp
    · cases h2)
end
end Mini

namespace HT
open PySem PySem.Spec PyProof.Rows
section
variable {prog : Program} {w : World} {A : Around} {E : Value → Shared → Prop} {s : Shared}
theorem places_rev (n : Nat) : Builtin.Slice.slicePlaces ((n : Int) - 1) (-1) (-1) = n := by
  unfold Builtin.Slice.slicePlaces
  have h1 : ¬ (-1 : Int) > 0 := by omega
  simp only [h1, if_false]
  try simp
  try omega
theorem adjust_rev (n : Nat) : Builtin.Slice.sliceAdjust none none (-1) (n : Int) = ((n : Int) - 1, -1) := by
  unfold Builtin.Slice.sliceAdjust
  simp
theorem sliceApplied_rev {sl : Addr} {t : Tok} {n : Nat} {Q : Int × Int × Nat → Shared → Prop} (hs : s.heap.IsSliceOf sl .none .none (.int (-1) t))
    (h : Q ((n : Int) - 1, -1, n) s) : wpAny (model prog w) A (Builtin.Slice.sliceApplied (.ref sl) (pure (n : Int))) Q E s := by
  obtain ⟨os, hos, hcs, hds⟩ := id hs
  unfold Builtin.Slice.sliceApplied Builtin.Slice.sliceFields
  refine wpAny_bind (wpAny_bind (wpAny_field hos hds (x := .none) rfl (wpAny_bind (wpAny_field hos hds (x := .none) rfl (wpAny_bind (wpAny_field hos hds (x := .int (-1) t) rfl (wpAny_pure ?_)))))))
  refine wpAny_bind (slicePart_ (.int (-1) t) ?_)
  show wpAny _ _ (if ((-1 : Int) == 0) = true then _ else _) _ _ s
  rw [if_neg (by decide)]
  refine wpAny_bind (slicePart_ .none (wpAny_bind (slicePart_ .none (wpAny_bind (wpAny_pure ?_)))))
  show wpAny _ _ (match Builtin.Slice.sliceAdjust none none (-1) (n : Int) with | (lo, hi) => pure (lo, (-1 : Int), Builtin.Slice.slicePlaces lo hi (-1))) _ _ s
  rw [adjust_rev n]
  show wpAny _ _ (pure (((n : Int) - 1), (-1 : Int), Builtin.Slice.slicePlaces ((n : Int) - 1) (-1) (-1))) _ _ s
  rw [places_rev]
  exact wpAny_pure h
theorem fm_congr {α β : Type} {f g : α → Option β} : ∀ {xs : List α}, (∀ x ∈ xs, f x = g x) → xs.filterMap f = xs.filterMap g
  | [], _ => rfl
  | x :: xs, h => by
    rw [List.filterMap_cons, List.filterMap_cons, h x List.mem_cons_self, fm_congr fun y hy => h y (List.mem_cons_of_mem _ hy)]
theorem pick_rev (xs : Array Value) : ((List.range xs.size).filterMap fun (m : Nat) => xs[(((xs.size : Int) - 1) + (m : Int) * (-1)).toNat]?).toArray = xs.toList.reverse.toArray := by
  have e : (List.range xs.size).filterMap (fun (m : Nat) => xs[(((xs.size : Int) - 1) + (m : Int) * (-1)).toNat]?) = (List.range xs.size).filterMap (fun m => xs[xs.size - 1 - m]?) := by
    apply fm_congr
    intro m hm
    have := List.mem_range.mp hm
    have e2 : (((xs.size : Int) - 1) + (m : Int) * (-1)).toNat = xs.size - 1 - m := by omega
    rw [e2]
  rw [e]
  have e3 : (List.range xs.size).filterMap (fun m => xs[xs.size - 1 - m]?) = ((List.range xs.size).map fun k => xs.size - 1 - k).filterMap (xs[·]?) := by
    rw [List.filterMap_map]; rfl
  rw [e3, PySem.W.krv_range, List.filterMap_reverse, PySem.W.krv_all]
theorem getItem_tuple_rev {t sl : Addr} {items : Array Value} {tk : Tok} {Q : Value → Shared → Prop} (ht : IsTup s.heap t items) (hs : s.heap.IsSliceOf sl .none .none (.int (-1) tk))
    (h : Q (.ref s.heap.objs.size) { s with heap := s.heap.push { cls := .type "tuple", data := .seq items.toList.reverse.toArray } })
    (hsz : items.size ≤ sizeLine) : wpAny (model prog w) A (getItem (.ref t) (.ref sl)) Q E s := by
  have htake : sizeOk (.seq items.toList.reverse.toArray) := by
    show items.toList.reverse.toArray.size ≤ sizeLine
    rw [List.size_toArray, List.length_reverse, Array.length_toList]
    omega
  obtain ⟨os, hos, hcs, hds⟩ := id hs
  have hTs : s.TypeIs (.ref sl) "slice" := ⟨os, hos, hcs⟩
  unfold getItem
  try with_reducible refine wpAny_holding ?_
  first | refine wpAny_bind (wpAny_pure ?_) | skip
  refine wpAny_bind (wpAny_sequenceKey ht.typeIs (by decide) ?_)
  refine wpAny_bind (wpAny_callSpecial?_slot (name := Str.ofString "__getitem__") ht.typeIs PyProof.Rows.slot_tuple_getitem
    (wpAny_call_entry PyProof.Rows.slot_tuple_getitem ht.typeIs entry_tuple_getitem ?_ (args_tuple_getitem _ _)))
  show wpAny _ _ (Builtin.Tuple.tupleItemsOf (.ref t) >>= _) _ _ s
  refine wpAny_bind (tupleItemsOf_ ht ?_)
  refine wpAny_bind (wpAny_typeOf hTs ?_)
  rw [if_pos (by decide)]
  refine wpAny_bind (sliceApplied_rev hs ?_)
  have hno : ¬ ((((items.size : Int) - 1) == 0 && (-1 : Int) == 1 && items.size == items.size) = true) := by
    intro q
    rw [Bool.and_eq_true, Bool.and_eq_true] at q
    exact absurd (eq_of_beq q.1.2) (by decide)
  show wpAny _ _ (if (((items.size : Int) - 1) == 0 && (-1 : Int) == 1 && items.size == items.size) = true then _ else _) _ _ s
  rw [if_neg hno, pick_rev]
  first
    | exact wpAny_bind (m := Builtin.Tuple.tupleExact _) (wpAny_newObj_type (wpAny_pure ⟨_, rfl, wpAny_pure h⟩) htake)
    | exact wpAny_bind (m := Builtin.Tuple.tupleExact _) (wpAny_newObj_type (wpAny_bind (wpAny_pure (wpAny_pure ⟨_, rfl, wpAny_pure h⟩))) htake)
    | exact wpAny_bind (wpAny_bind (m := Builtin.Tuple.tupleExact _) (wpAny_newObj_type (wpAny_pure (wpAny_pure ⟨_, rfl, wpAny_pure h⟩)) htake))
    | exact wpAny_bind (wpAny_bind (m := Builtin.Tuple.tupleExact _) (wpAny_newObj_type (wpAny_pure ⟨_, rfl, wpAny_pure h⟩) htake))
end
end HT
namespace HT
open PySem PySem.Spec PyProof.Rows
section
variable {prog : Program} {w : World} {A : Around} {E : Value → Shared → Prop} {s : Shared}
theorem noI_tuple_add : typeLookup (.type "tuple") (dunderI "add") = pure none := by
  rw [typeLookup_type, builtinLookup_eq_fast]; kernel_rfl
theorem icat_tup0 {t b : Addr} {ws : List Value} {Q : Value → Shared → Prop} (ht : IsTup s.heap t ([] : List Value).toArray) (hb : IsTup s.heap b ws.toArray) (h : Q (.ref b) s) : wpAny (model prog w) A (inplaceOp .Add (.ref t) (.ref b)) Q E s := by
  obtain ⟨⟨cls, dd, data, sl⟩, ho, hc, n, hd⟩ := id ht
  obtain ⟨⟨cls2, dd2, data2, sl2⟩, ho2, hc2, n2, hd2⟩ := id hb
  simp only at hc hd hc2 hd2
  subst hc hd hc2 hd2
  exact wpAny_inplaceOp_concat ⟨_, ho, rfl⟩ ⟨_, ho2, rfl⟩ noI_tuple_add noFill_tuple_add seq_tuple_add (call_meets PySem.F.slot_tuple_add ⟨_, ho, rfl⟩ PySem.F.entry_tuple_add (PySem.F.args_tuple_add_2 _ _)
    (tuple_addW0 t b ([] : List Value).toArray ws.toArray n n2 dd dd2 sl sl2 (by simp)) ⟨ho, ho2, h⟩)
theorem icat_tup {t b : Addr} {vs ws : List Value} {Q : Value → Shared → Prop} (ht : IsTup s.heap t vs.toArray) (hb : IsTup s.heap b ws.toArray) (hv : vs ≠ [])
    (h1 : ws = [] → Q (.ref t) s) (h2 : ws ≠ [] → Q (.ref s.heap.objs.size) { s with heap := s.heap.push { cls := .type "tuple", data := .seq (vs ++ ws).toArray } })
    (hsz : vs.length + ws.length ≤ sizeLine) : wpAny (model prog w) A (inplaceOp .Add (.ref t) (.ref b)) Q E s := by
  obtain ⟨⟨cls, dd, data, sl⟩, ho, hc, n, hd⟩ := id ht
  obtain ⟨⟨cls2, dd2, data2, sl2⟩, ho2, hc2, n2, hd2⟩ := id hb
  simp only at hc hd hc2 hd2
  subst hc hd hc2 hd2
  have e : vs.toArray ++ ws.toArray = (vs ++ ws).toArray := by simp
  by_cases hw : ws = []
  · exact wpAny_inplaceOp_concat ⟨_, ho, rfl⟩ ⟨_, ho2, rfl⟩ noI_tuple_add noFill_tuple_add seq_tuple_add (call_meets PySem.F.slot_tuple_add ⟨_, ho, rfl⟩ PySem.F.entry_tuple_add (PySem.F.args_tuple_add_2 _ _)
      (tuple_addW1 t b vs.toArray ws.toArray n n2 dd dd2 sl sl2 (by simpa using hv) (by simp [hw])) ⟨ho, ho2, h1 hw⟩)
  · refine wpAny_inplaceOp_concat ⟨_, ho, rfl⟩ ⟨_, ho2, rfl⟩ noI_tuple_add noFill_tuple_add seq_tuple_add (call_meets PySem.F.slot_tuple_add ⟨_, ho, rfl⟩ PySem.F.entry_tuple_add (PySem.F.args_tuple_add_2 _ _)
      (tuple_addW2 t b vs.toArray ws.toArray n n2 dd dd2 sl sl2 (by simpa using hv) (by simpa using hw) (by rw [List.size_toArray, List.size_toArray]; exact hsz)) ⟨ho, ho2, ?_⟩)
    rw [e]
    exact h2 hw
end
end HT
namespace Mini
open PySem PySem.Spec L2 PyProof.Rows
/-- t += u -/
theorem iop_catA {X : Cx} : OpR X (inplaceOp .Add) (rCatA X.K) := by
  intro pins s σ H x y v u Q I rx ry h
  obtain ⟨a, b, xs, ys, rfl, rfl, ha, hb, hz, q0, q1, q2⟩ := h
  cases rx
  cases ry
  obtain ⟨its, r1, p1, _⟩ := I.tuple ha
  obtain ⟨its2, r2, p2, _⟩ := I.tuple hb
  by_cases hx : xs = []
  · subst hx
    cases r1
    exact HT.icat_tup0 p1 p2 ⟨.ref b, H, I, rfl, q0 rfl⟩
  · refine HT.icat_tup p1 p2 (fun z => hx (r1.nil_iff.mp z)) (fun z => ⟨.ref a, H, I, rfl, q1 hx (r2.nil_iff.mp z)⟩) (fun z => ?_) (by rw [← r1.length, ← r2.length]; exact hz)
    refine ⟨.ref s.heap.objs.size, _, I.laid (t' := s.toks) (o := .tup (xs ++ ys)) (fun b ob q => Heap.get?_push_of_some _ q) (Nat.le_refl _) ?_, rfl, q2 hx (fun w => z (r2.nil_iff.mpr w)) _ (I.hok.fresh (Nat.le_refl _))⟩
    exact ⟨by rw [List.length_append]; exact hz, _, r1.append r2, IsTup.new _ _⟩
/-- x[::-1], a list or a tuple -/
def tRevA (K : PySem.W.Frag) (te : TE) : TE := fun σ H Q => te σ H fun x H1 => (∃ a xs, x = .ref a ∧ SqL K H1 a xs ∧ ∀ p, H1 p = none → Q (.ref p) (upd H1 p (.lst xs.reverse))) ∨
  (∃ a xs, x = .ref a ∧ SqT K H1 a xs ∧ ∀ p, H1 p = none → Q (.ref p) (upd H1 p (.tup xs.reverse)))
theorem pe_revA {X : Cx} {e : Expr} {te : TE} {k : Nat} {p1 p2 p3 pos : Pos} (he : PE X e te) : PE X (.Subscript e (.Slice none none (some (.UnaryOp .USub (.Constant (.int 1) k p1) p2)) p3) pos) (tRevA X.K te) := by
  refine ⟨fun pins s σ H Q I h => ?_⟩
  refine Subscript_ (thn (he.run pins s σ H _ I h) fun v s1 ⟨x, H1, I1, r1, q1⟩ => ?_)
  have hst : PO X (some (.UnaryOp .USub (.Constant (.int 1) k p1) p2)) (tPart (tUn (rU fun i => .int (-i)) (tC (.int 1)))) := po_some (pe_un un_neg pe_int)
  refine wpAny_Slice (thn (po_none.run pins s1 σ H1 (fun o H2 => o = none ∧ H2 = H1) I1 ⟨rfl, rfl⟩) fun vl s2 ⟨l, H2, I2, pl, el, e2⟩ => ?_)
  subst el e2
  refine thn (po_none.run pins s2 σ H2 (fun o H3 => o = none ∧ H3 = H2) I2 ⟨rfl, rfl⟩) fun vu s3 ⟨u, H3, I3, pu, eu, e3⟩ => ?_
  subst eu e3
  refine thn (hst.run pins s3 σ H3 (fun o H4 => o = some (-1) ∧ H4 = H3) I3 ⟨1, rfl, -1, rfl, rfl, rfl⟩) fun vs s4 ⟨o, H4, I4, ps, eo, e4⟩ => ?_
  subst eo e4
  have I5 : Inv X pins σ H4 { s4 with heap := s4.heap.push { cls := .type "slice", data := .fields #[vl, vu, vs] } } := I4.kept (t' := s4.toks) fun b ob q => Heap.get?_push_of_some _ q
  rcases q1 with ⟨a, xs, ex, hx, q⟩ | ⟨a, xs, ex, hx, q⟩
  · subst ex
    cases r1
    obtain ⟨its, r, ht, hz⟩ := I5.list hx
    have hlen := r.length
    show wpAny (model X.prog X.w) X.A (subscriptTail e (.Slice none none (some (.UnaryOp .USub (.Constant (.int 1) k p1) p2)) p3) (.ref a) (.ref s4.heap.objs.size)) (EP X pins σ Q) X.xe { s4 with heap := s4.heap.push { cls := .type "slice", data := .fields #[vl, vu, vs] } }
    refine tail_any (ops := [.ref a, .ref s4.heap.objs.size]) ht.isList.typeIs (PySem.slot_list_getitem.lookup) ?_ (by with_unfolding_all rfl)
    refine wpAny_getItem_list_slice ht.isList (Heap.IsSliceOf.new _ vl vu vs) pl pu ps (by decide) ?_ (by rw [List.size_toArray]; omega)
    rw [PySem.W.krv_pick]
    refine ⟨.ref _, _, I5.laid (t' := s4.toks) (o := .lst xs.reverse) (fun b ob q => Heap.get?_push_of_some _ q) (Nat.le_refl _) ?_, rfl, q _ (I5.hok.fresh (Nat.le_refl _))⟩
    exact ⟨by rw [List.length_reverse]; exact hz, _, 0, r.reverse, Heap.get?_push_size _ rfl⟩
  · subst ex
    cases r1
    cases pl
    cases pu
    cases ps with
    | int _ tk =>
    obtain ⟨its, r, ht, hz⟩ := I5.tuple hx
    have hlen : its.toArray.size = xs.length := by rw [List.size_toArray]; exact r.length.symm
    show wpAny (model X.prog X.w) X.A (subscriptTail e (.Slice none none (some (.UnaryOp .USub (.Constant (.int 1) k p1) p2)) p3) (.ref a) (.ref s4.heap.objs.size)) (EP X pins σ Q) X.xe { s4 with heap := s4.heap.push { cls := .type "slice", data := .fields #[.none, .none, .int (-1) tk] } }
    refine tail_any (ops := [.ref a, .ref s4.heap.objs.size]) ht.typeIs PyProof.Rows.slot_tuple_getitem.lookup ?_ (by with_unfolding_all rfl)
    refine HT.getItem_tuple_rev ht (Heap.IsSliceOf.new _ .none .none (.int (-1) tk)) ?_ (by rw [hlen]; exact hz)
    refine ⟨.ref _, _, I5.laid (t' := s4.toks) (o := .tup xs.reverse) (fun b ob q => Heap.get?_push_of_some _ q) (Nat.le_refl _) ?_, rfl, q _ (I5.hok.fresh (Nat.le_refl _))⟩
    exact ⟨by rw [List.length_reverse]; exact hz, _, r.reverse, IsTup.new _ _⟩
end Mini

namespace Mini
open PySem PySem.Spec L2 PyProof.Rows
/-! sorted(set(t)), t a tuple of ints -/
theorem ins_mem {x k : Int} : ∀ {ys : List Int}, k ∈ insU x ys ↔ k = x ∨ k ∈ ys
  | [] => by simp [insU]
  | y :: ys => by
    simp only [insU]
    split
    · simp
    · split
      · rename_i h; subst h; simp
      · simp only [List.mem_cons, ins_mem (ys := ys)]
        constructor
        · rintro (h | h | h)
          · exact .inr (.inl h)
          · exact .inl h
          · exact .inr (.inr h)
        · rintro (h | h | h)
          · exact .inr (.inl h)
          · exact .inl h
          · exact .inr (.inr h)
theorem ins_asc {x : Int} : ∀ {ys : List Int}, ys.Pairwise (· < ·) → (insU x ys).Pairwise (· < ·)
  | [], _ => by simp [insU]
  | y :: ys, h => by
    obtain ⟨h1, h2⟩ := List.pairwise_cons.mp h
    simp only [insU]
    split
    · rename_i hx
      refine List.pairwise_cons.mpr ⟨fun z hz => ?_, h⟩
      rcases List.mem_cons.mp hz with rfl | hz
      · exact hx
      · have := h1 z hz; omega
    · split
      · exact h
      · refine List.pairwise_cons.mpr ⟨fun z hz => ?_, ins_asc h2⟩
        rcases ins_mem.mp hz with rfl | hz
        · omega
        · exact h1 z hz
theorem sset_mem {k : Int} : ∀ {ns : List Int}, k ∈ sset ns ↔ k ∈ ns
  | [] => by simp [sset]
  | n :: ns => by
    have ih := sset_mem (k := k) (ns := ns)
    show k ∈ insU n (sset ns) ↔ _
    rw [ins_mem, ih, List.mem_cons]
theorem sset_asc : ∀ (ns : List Int), (sset ns).Pairwise (· < ·)
  | [] => List.Pairwise.nil
  | n :: ns => ins_asc (sset_asc ns)
theorem asc_uniq : ∀ {xs ys : List Int}, xs.Pairwise (· < ·) → ys.Pairwise (· < ·) → (∀ k, k ∈ xs ↔ k ∈ ys) → xs = ys
  | [], [], _, _, _ => rfl
  | [], y :: ys, _, _, h => by have := (h y).mpr List.mem_cons_self; cases this
  | x :: xs, [], _, _, h => by have := (h x).mp List.mem_cons_self; cases this
  | x :: xs, y :: ys, h1, h2, h => by
    obtain ⟨a1, a2⟩ := List.pairwise_cons.mp h1
    obtain ⟨b1, b2⟩ := List.pairwise_cons.mp h2
    have e : x = y := by
      rcases List.mem_cons.mp ((h x).mp List.mem_cons_self) with q | q
      · exact q
      · rcases List.mem_cons.mp ((h y).mpr List.mem_cons_self) with r | r
        · exact r.symm
        · have := b1 x q; have := a1 y r; omega
    subst e
    rw [asc_uniq a2 b2 fun k => ?_]
    constructor
    · intro hk
      rcases List.mem_cons.mp ((h k).mp (List.mem_cons_of_mem _ hk)) with q | q
      · have := a1 k hk; omega
      · exact q
    · intro hk
      rcases List.mem_cons.mp ((h k).mpr (List.mem_cons_of_mem _ hk)) with q | q
      · have := b1 k hk; omega
      · exact q
/-- set(t), t a tuple of ints -/
def rSetT (K : PySem.W.Frag) (w : World) : List V → Hp → VK → Prop := fun xs H Q => ∃ (p : Addr) (ns : List Int), xs = [V.ref p] ∧ SqT K H p (ns.map V.int) ∧ ns.length ≤ 1000 ∧ ∀ (a : Addr) (c : Nat), H a = none → c ≤ ns.length → Q (.ref a) (upd H a (SetO w a (fun j => decide (j ∈ ns)) c))
theorem cr_setT {X : Cx} (hc : X.calm = true) : CallR X (.type "set") (rSetT X.K X.w) := by
  intro pins s σ H xs us Q I r h
  obtain ⟨p0, ns, rfl, hq, hl, q⟩ := h
  rw [Vals.ref1 r]
  obtain ⟨its, rv, pt, hz⟩ := I.tuple hq
  have hi : IntsAre its.toArray.toList ns := ints_of_vals rv
  refine call_set_tupI ns (I.ok.hd hc) (show s.heap.IsTuple p0 its.toArray from pt) hi (by unfold scanBound; omega) fun h' tk c R1 hcn k => ?_
  have hn : H s.heap.objs.size = none := I.hok.fresh (Nat.le_refl _)
  have J : Inv X pins σ (upd H s.heap.objs.size (SetO X.w s.heap.objs.size (fun j => decide (j ∈ ns)) c)) { s with heap := h', toks := tk } :=
    I.call (ch := []) (Un.laid k (Nat.le_refl _) hn) (I.hok.laid k (Nat.le_refl _) (setO_new R1)) I.bare (fun _ z => nomatch z)
  exact ⟨.ref s.heap.objs.size, _, J, rfl, q _ c hn hcn⟩
theorem ho_sset {K : PySem.W.Frag} {w : World} (O : Own) (H : Hp) (d : D) (x : V) (res : Sl) (Q : VK) (own : OwnOk O H) (h : RepP K O H d x) (e : ssetD d = some res) (q : RP K O H res Q) : rSetT K w [x] H fun v H2 => rSortedSet w [v] H2 Q := by
  cases d with
  | tuple xs =>
    simp only [ssetD, Option.bind_eq_some_iff] at e
    obtain ⟨ns, e1, e2⟩ := e
    split at e2
    case isFalse => cases e2
    rename_i hl
    cases e2
    have rd : RepD K O H (.tuple xs) x := by
      rcases h with h | ⟨_, _, _, z, _⟩
      · exact h
      · cases z
    simp only [RepD] at rd
    obtain ⟨a, vs, rfl, s1, r1⟩ := rd
    have i1 := r1.intsOf e1
    subst i1
    refine ⟨a, ns, rfl, s1, by omega, fun b c hb hc => ?_⟩
    refine ⟨b, _, c, rfl, upd_same, by omega, fun ms p h1 h2 h3 hp => ?_⟩
    have em : ms = sset ns := asc_uniq h1 (sset_asc ns) fun k => by rw [h2 k, sset_mem]; simp
    subst em
    have st := OwnOk.new (o := SetO w b (fun j => decide (j ∈ ns)) c) own hb
    have q2 : RP K O (upd H b (SetO w b (fun j => decide (j ∈ ns)) c)) (.l ((sset ns).map PyData.int)) Q := fun O' H' v st2 r => q O' H' v (st.trans st2 fun _ z => z) r
    exact q2.lst st.own (RepDs.ints (sset ns)) p hp
  | _ => cases e
end Mini

namespace Mini
open PySem PySem.Spec PyProof.Rows L2
/-! enumerate over a tuple -/
set_option maxHeartbeats 1000000 in
theorem enum1_new {v : Value} {o : Obj} {H : Heap → Prop} (B : Begins v o H) :
    Meets (Builtin.«enumerate.__new__» ⟨[.type "enumerate", v], []⟩) (fun _ R s => H s.heap ∧
      R (.ok (.ret (.ref (s.heap.push o).objs.size))) { s with heap := (s.heap.push o).push { cls := .type "enumerate", data := .fields #[.none, .bool false, .ref s.heap.objs.size, rawInt 0, .none, .none] } }) :=
  .of_wp fun prog w A R s h => by
    obtain ⟨hp, g, d, tk, os⟩ := s; obtain ⟨h1, h⟩ := h
    have hsub := sub_enumerate
    have q1 : ∀ {A' : Around} {E : Value → Shared → Prop} {Q : Value → Shared → Prop}, Q (.ref hp.objs.size) ⟨hp.push o, g, d, tk, os⟩ → wpAny (model prog w) A' (pyIter v) Q E ⟨hp, g, d, tk, os⟩ :=
      fun q => B.iter prog w _ _ ⟨hp, g, d, tk, os⟩ _ h1 q
    wp_walk using q1
    refine wpAny_stack_any fun st => wpAny_pure ?_
    split
    · rename_i c _ _ _ _ _
      cases (c == Value.type "enumerate")
      · wp_walk using q1
        exact ⟨_, rfl, h⟩
      · wp_walk using q1
        exact ⟨_, rfl, h⟩
    · wp_walk using q1
      exact ⟨_, rfl, h⟩
section
variable {prog : Program} {w : World} {A : Around} {E : Value → Shared → Prop} {s : Shared}
theorem enum1_begins {v : Value} {o : Obj} {H : Heap → Prop} {Q : Value → Shared → Prop} (B : Begins v o H) (h1 : H s.heap)
    (h : ∀ h', IsEnum h' (s.heap.objs.size + 1) s.heap.objs.size 0 .none → h'.get? s.heap.objs.size = some o → h'.objs.size = s.heap.objs.size + 2 →
      (∀ b o, s.heap.get? b = some o → h'.get? b = some o) → Q (.ref (s.heap.objs.size + 1)) { s with heap := h' }) :
    wpAny (model prog w) A (call (.type "enumerate") [v]) Q E s := by
  refine callType_new F.called_enumerate (by decide) (F.typeCall_enumerate_1 _) (F.newCall_enumerate_1 _) (fun obj => F.args_object_init_2 obj _) F.entry_enumerate_new
    (enum1_new B) ⟨h1, ?_⟩
  have hz : (s.heap.push o).objs.size = s.heap.objs.size + 1 := Heap.size_push ..
  show _ ∧ _
  rw [hz]
  have he : IsEnum ((s.heap.push o).push { cls := .type "enumerate", data := .fields #[.none, .bool false, .ref s.heap.objs.size, rawInt 0, .none, .none] }) (s.heap.objs.size + 1) s.heap.objs.size 0 .none := by
    have := Heap.get?_push_size (s.heap.push o) (o := { cls := .type "enumerate", data := .fields #[.none, .bool false, .ref s.heap.objs.size, rawInt 0, .none, .none] }) rfl
    rw [hz] at this; exact this
  refine ⟨⟨_, he, rfl⟩, h _ he (Heap.get?_push_of_some _ (Heap.get?_push_size _ B.free)) (by rw [Heap.size_push, hz]) fun b o x => Heap.get?_push_of_some _ (Heap.get?_push_of_some _ x)⟩
end
section
variable {prog : Program} {w : World} {A : Around} {E : Value → Shared → Prop} {s : Shared}
theorem enumT_end {e it l : Addr} {i : Nat} {items : Array Value} {old : Value} {Q : Option Value → Shared → Prop} (hh : A.handled = none)
    (he : IsEnum s.heap e it i old) (hit : s.heap.IsTupleIter it l i) (hl : s.heap.IsTuple l items) (hx : items[i]? = none)
    (hQ : ∀ h', Heap.ExtBut it s.heap h' → Q none { s with heap := h' }) : wpAny (model prog w) A (pyNext (.ref e)) Q E s := by
  have hT : s.TypeIs (.ref e) "enumerate" := ⟨_, he, rfl⟩
  unfold pyNext
  refine wpAny_bind (wpAny_attempt (wpAny_callSpecial?_slot (name := Str.ofString "__next__") hT F.slot_enumerate_next
    (wpAny_call_entry F.slot_enumerate_next hT F.entry_enumerate_next ?_ (F.args_enumerate_next_1 _))))
  show wpAny _ _ (field (.ref e) 2 >>= _) _ _ _
  refine wpAny_bind (wpAny_field he rfl (x := .ref it) rfl ?_)
  refine wpAny_bind (wpAny_nextOf_tuple_end hh hit hl hx fun h' x he' hx' => ?_)
  obtain ⟨o, ho, hc⟩ := hx'
  refine wpAny_bind (wpAny_isInstance (T := "StopIteration") (b := true) ⟨o, ho, hc⟩ isSubtype_stop ?_)
  exact wpAny_pure (hQ _ he')
end
/-- the tuple at a as it stands at each turn, each item in a new pair -/
def IteT (K : PySem.W.Frag) (a : Addr) : It :=
  ⟨fun i H => ∃ (xs : List V) (x : V), SqT K H a xs ∧ xs[i]? = some x, fun i H v H' => ∃ T x, v = .ref T ∧ H T = none ∧ H' = upd H T (.tup [.int (i : Nat), x]) ∧ ∀ xs, SqT K H a xs → xs[i]? = some x, fun i H => ∃ xs : List V, SqT K H a xs ∧ xs.length ≤ i⟩
theorem turn_enumT {P : Program} {w : World} {K : PySem.W.Frag} {elts : List Expr} {kk : Nat} {tpos : Pos} (a e it : Addr) :
    Turn P w K (.Tuple elts kk tpos) (IteT K a) [e, it] e (fun i h => (∃ old, IsEnum h e it ((i : Nat) : Int) old) ∧ h.IsTupleIter it a i ∧ e ≠ it ∧ a ≠ it ∧ e ≠ a) where
  mem := by simp
  obj := fun i h st b hb => by
    obtain ⟨⟨old, he⟩, ⟨o, ho, hc, hd⟩, _⟩ := st
    have e' : b = e ∨ b = it := by simpa using hb
    rcases e' with z | z
    · rw [z]; exact ⟨_, he, fun v q => nomatch q⟩
    · rw [z]; exact ⟨o, ho, fun v q => by rw [hd] at q; cases q⟩
  keep := fun i h h' st k => let ⟨⟨old, he⟩, hi, hne⟩ := st; ⟨⟨old, k e (by simp) _ he⟩, hi.at fun o q => k it (by simp) o q, hne⟩
  item := by
    intro X hP hw hK hc i pins s σ H E I hf st hg
    subst hP hw hK
    obtain ⟨⟨old, he⟩, hit, hne, hai, hea⟩ := st
    obtain ⟨xs, x, hq, hx⟩ := hg
    obtain ⟨its, rv, p, hz⟩ := I.tuple hq
    obtain ⟨u, hu, ru⟩ := rv.get hx
    have hel : e < s.heap.objs.size := Heap.lt_size he
    have hil : it < s.heap.objs.size := by obtain ⟨_, q, _⟩ := hit; exact Heap.lt_size q
    have hp : s.heap.IsTuple a its.toArray := p
    have hlt : i < its.toArray.size := by
      have : i < its.length := by
        rcases Nat.lt_or_ge i its.length with q | q
        · exact q
        · rw [List.getElem?_eq_none q] at hu; cases hu
      simpa using this
    refine wpAny_pyNext_enum_itemD (Draws.tuple (A := X.A.in1) (I.ok.hd hc) it a hai its.toArray) he ⟨hit, hp⟩ hlt hne (by simp [hne, hea]) fun x' h' tk hx' ho hst hT hsz hk => ?_
    have hu' : x' = u := by
      have : its[i]? = some x' := by simpa using hx'
      rw [hu] at this; cases this; rfl
    subst hu'
    obtain ⟨hit', hp'⟩ := hst
    refine ⟨_, rfl, wpAny_letOwnedTupleGo_enum (s := { s with heap := h', toks := tk + 1 }) ho fun h'' he' sb => ?_⟩
    have hT2 : h''.get? s.heap.objs.size = some { cls := .type "tuple", data := .seq #[.int i tk, x'] } := (sb.2 _ (Nat.ne_of_gt hel)).trans hT
    have new : ObjOk X.prog X.w (upd H s.heap.objs.size (.tup [.int (i : Nat), x])) h'' s.heap.objs.size (.tup [.int (i : Nat), x]) :=
      ⟨by show 2 ≤ sizeLine; decide, [.int i tk, x'], .cons ⟨_, rfl⟩ (.cons ru .nil), ⟨_, hT2, rfl, _, rfl⟩⟩
    have I1 : Inv X pins σ (upd H s.heap.objs.size (.tup [.int (i : Nat), x])) { s with heap := h'', toks := tk + 1 } :=
      I.turnedNew (ch := [e, it]) (fun b ob hb q => (sb.2 b (fun z => hb (by simp [z]))).trans (hk b ob (fun z => hb (by simp [z])) (fun z => hb (by simp [z])) q)) hf (Nat.le_refl _) new
    refine ⟨.ref s.heap.objs.size, _, I1, rfl, ⟨_, x, rfl, I.hok.fresh (Nat.le_refl _), rfl, fun ys hy => by rw [I.tuple_inj hy hq]; exact hx⟩, ⟨⟨x', ?_⟩, hit'.at fun o q => (sb.2 it (Ne.symm hne)).trans q, hne, hai, hea⟩, fun b hb => ?_⟩
    · have e1 : ((i + 1 : Nat) : Int) = (i : Int) + 1 := by omega
      rw [e1]; exact he'
    · have hb' : b < s.heap.objs.size := by
        have e' : b = e ∨ b = it := by simpa using hb
        rcases e' with z | z
        · rw [z]; exact hel
        · rw [z]; exact hil
      rw [upd_ne (Nat.ne_of_lt hb')]
      exact (hf b hb).1
  done := by
    intro X hP hw hK hc i pins s σ H E I hf st hg
    subst hP hw hK
    obtain ⟨⟨old, he⟩, hit, hne, hai, hea⟩ := st
    obtain ⟨xs, hq, hx⟩ := hg
    obtain ⟨its, rv, p, hz⟩ := I.tuple hq
    obtain ⟨f0, f1, f2, f3, f4, f5⟩ := hf it (by simp)
    have hl := rv.length
    have hp : s.heap.IsTuple a its.toArray := p
    exact enumT_end (I.ok.hd hc) he hit hp (by simp; omega) fun h' eb => ⟨rfl, I.turned (t' := s.toks) (fun b o hb q => eb b o hb q) f0 f1 f3 f4 f5⟩
  self := fun A i s Q E st h => let ⟨⟨_, he⟩, _⟩ := st; wpAny_pyIter_enum he h
def iEnumA (K : PySem.W.Frag) (ta : TA) : TI := fun σ H R => ta σ H fun vs H1 => ∃ a xs, vs = [.ref a] ∧ ((SqL K H1 a xs ∧ R (Ite K a) H1) ∨ (SqT K H1 a xs ∧ R (IteT K a) H1))
theorem pi_enumA {X : Cx} {e : Expr} {ta : TA} {p pos tpos : Pos} {elts : List Expr} {kk : Nat} (hg : Gl X "enumerate") (hm : X.mg "enumerate" = none) (ha : PA X [e] ta) (hs : starEach [e] X.env = [(false, eval e X.env)] := by rfl) :
    PI X (.Tuple elts kk tpos) (.Call (.Name "enumerate" p) [e] [] pos) (iEnumA X.K ta) := by
  refine ⟨fun pins s σ H R I h => ?_⟩
  refine Call_ (ld_blt I hg hm boot_enumerate (PyProof.Rows.callWith_type1 (thn (ha.run pos pins s σ H _ I h) fun us s1 ⟨vs, H1, I1, r1, q1⟩ => ?_) hs rfl))
  obtain ⟨a, xs, ex, q1⟩ := q1
  subst ex
  cases r1 with
  | cons r rr =>
    cases rr
    cases r
    rcases q1 with ⟨hq, q⟩ | ⟨hq, q⟩
    · obtain ⟨its, rv, p', hz⟩ := I1.list hq
      refine call_enumerate_list p'.isList fun h' he hit hsz hk => wpAny_pyIter_enum he ?_
      have I2 : Inv X pins σ H1 { s1 with heap := h' } := I1.kept (t' := s1.toks) hk
      refine ⟨s1.heap.objs.size + 1, [s1.heap.objs.size + 1, s1.heap.objs.size], _, _, H1, rfl, I2, turn_enum a (s1.heap.objs.size + 1) s1.heap.objs.size, ⟨⟨.none, he⟩, hit, Nat.succ_ne_self _⟩, fun b hb => ?_, q⟩
      have e' : b = s1.heap.objs.size + 1 ∨ b = s1.heap.objs.size := by simpa using hb
      have hle : s1.heap.objs.size ≤ b := by
        rcases e' with z | z
        · rw [z]; exact Nat.le_add_right _ _
        · rw [z]; exact Nat.le_refl _
      exact I1.fpOk hle (I1.hok.fresh hle)
    · obtain ⟨its, rv, p', hz⟩ := I1.tuple hq
      have hp : s1.heap.IsTuple a its.toArray := p'
      have al : a < s1.heap.objs.size := by obtain ⟨_, q, _⟩ := hp; exact Heap.lt_size q
      refine enum1_begins (begins_tuple a its.toArray) hp fun h' he hit hsz hk => wpAny_pyIter_enum he ?_
      have I2 : Inv X pins σ H1 { s1 with heap := h' } := I1.kept (t' := s1.toks) hk
      refine ⟨s1.heap.objs.size + 1, [s1.heap.objs.size + 1, s1.heap.objs.size], _, _, H1, rfl, I2, turn_enumT a (s1.heap.objs.size + 1) s1.heap.objs.size, ⟨⟨.none, he⟩, ⟨_, hit, rfl, rfl⟩, Nat.succ_ne_self _, Nat.ne_of_lt al, Nat.ne_of_gt (Nat.lt_succ_of_lt al)⟩, fun b hb => ?_, q⟩
      have e' : b = s1.heap.objs.size + 1 ∨ b = s1.heap.objs.size := by simpa using hb
      have hle : s1.heap.objs.size ≤ b := by
        rcases e' with z | z
        · rw [z]; exact Nat.le_add_right _ _
        · rw [z]; exact Nat.le_refl _
      exact I1.fpOk hle (I1.hok.fresh hle)
end Mini

namespace Mini
open PySem PySem.Spec L2 RZ
section
variable {K : PySem.W.Frag} {O O' : Own} {H H' : Hp} {env env2 : En} {σ : St}
/-! a result beside the environment, kept -/
theorem WR.keep {r : Sl} {v : V} (w : WR K O H env σ r v) {σ2 : St} (st : Step O H (FpE H env σ) O' H' (FpE H' env2 σ2)) (w2 : W K O' H' env2 σ2) : WR K O' H' env2 σ2 r v := by
  obtain ⟨h1, h2⟩ := RepS.keep st w.val w.sep
  refine ⟨w2, h1, fun b f g => ?_⟩
  rcases st.fps b g with z | z
  · exact w.sep b (h2 b f) z
  · obtain ⟨xs, q⟩ := w.w.own b (Fp.own w.val (h2 b f))
    rw [q] at z; cases z
/-! wiped slots -/
def NoAt (env : En) (own : List Nat) : Prop := ∀ i ∈ own, ∀ s, env[i]? = some s → s = .no
theorem wipeE_len (env : En) : ∀ own, (wipeE env own).length = env.length
  | [] => rfl
  | v :: vs => by unfold wipeE; rw [List.length_set, wipeE_len env vs]
theorem wipeE_get {env : En} {i : Nat} {s : Sl} : ∀ {own : List Nat}, (wipeE env own)[i]? = some s → (s = .no ∧ i ∈ own) ∨ (i ∉ own ∧ env[i]? = some s)
  | [], h => .inr ⟨by simp, h⟩
  | v :: vs, h => by
    unfold wipeE at h
    by_cases hi : v = i
    · subst hi
      by_cases hl : v < (wipeE env vs).length
      · rw [List.getElem?_set_self hl] at h; exact .inl ⟨(Option.some.inj h).symm, by simp⟩
      · rw [List.getElem?_eq_none (by simpa using hl)] at h; cases h
    · rw [List.getElem?_set_ne hi] at h
      rcases wipeE_get h with ⟨h1, h2⟩ | ⟨h1, h2⟩
      · exact .inl ⟨h1, by simp [h2]⟩
      · exact .inr ⟨by simp only [List.mem_cons, not_or]; exact ⟨fun e => hi e.symm, h1⟩, h2⟩
theorem NoAt.wipe (env : En) (own : List Nat) : NoAt (wipeE env own) own := fun i hi s h => by
  rcases wipeE_get h with ⟨h1, _⟩ | ⟨h1, _⟩
  · exact h1
  · exact absurd hi h1
theorem wipe_get {σ : St} {i : Nat} : ∀ {own : List Nat}, i ∉ own → (wipe σ own)[i]? = σ[i]?
  | [], _ => rfl
  | v :: vs, h => by
    simp only [List.mem_cons, not_or] at h
    unfold wipe
    rw [List.getElem?_set_ne (Ne.symm h.1)]
    exact wipe_get h.2
theorem W.toWipe (w : W K O H env σ) {own : List Nat} (n : NoAt env own) : W K O H env (wipe σ own) ∧ ∀ b, FpE H env (wipe σ own) b → FpE H env σ b := by
  have get : ∀ (j : Nat) (v : V), (wipe σ own)[j]? = some (some v) → σ[j]? = some (some v) := fun j v h => (wipe_some h).1
  refine ⟨⟨w.own, by rw [wipe_length]; exact w.len, fun i s e => ?_, fun i j s t v u b ne e1 e2 e3 e4 => w.sep i j s t v u b ne e1 e2 (get i v e3) (get j u e4)⟩, fun b ⟨i, s, v, e1, e2, f⟩ => ⟨i, s, v, e1, get i v e2, f⟩⟩
  by_cases hi : i ∈ own
  · exact .inl (n i hi s e)
  · rw [wipe_get hi]; exact w.rep i s e
theorem W.ofWipe {own : List Nat} (w : W K O H env (wipe σ own)) (n : NoAt env own) : W K O H env σ ∧ ∀ b, FpE H env σ b → FpE H env (wipe σ own) b := by
  have sw : ∀ (i : Nat) (s : Sl) (v : V), env[i]? = some s → σ[i]? = some (some v) → s = .no ∨ (wipe σ own)[i]? = some (some v) := fun i s v e1 e2 => by
    by_cases hi : i ∈ own
    · exact .inl (n i hi s e1)
    · exact .inr (by rw [wipe_get hi]; exact e2)
  refine ⟨⟨w.own, by rw [w.len, wipe_length], fun i s e => ?_, fun i j s t v u b ne e1 e2 e3 e4 f1 f2 => ?_⟩, fun b ⟨i, s, v, e1, e2, f⟩ => ?_⟩
  · rcases w.rep i s e with z | ⟨v, h1, h2⟩
    · exact .inl z
    · exact .inr ⟨v, (wipe_some h1).1, h2⟩
  · rcases sw i s v e1 e3 with rfl | h1
    · exact f1
    · rcases sw j t u e2 e4 with rfl | h2
      · exact f2
      · exact w.sep i j s t v u b ne e1 e2 h1 h2 f1 f2
  · rcases sw i s v e1 e2 with rfl | h
    · exact f.elim
    · exact ⟨i, s, v, e1, h, f⟩
end
/-! targets -/
mutual
def T.slots : T → List Nat
  | .nm i => [i]
  | .tp ts => slotsL ts
def slotsL : List T → List Nat
  | [] => []
  | t :: ts => t.slots ++ slotsL ts
end
def OnlyAt (σ σ2 : St) (sl : List Nat) : Prop := σ2.length = σ.length ∧ ∀ j, j ∉ sl → σ2[j]? = σ[j]?
theorem OnlyAt.wipe {σ σ2 : St} {sl own : List Nat} (h : OnlyAt σ σ2 sl) (s : ∀ i ∈ sl, i ∈ own) : wipe σ2 own = wipe σ own := by
  apply List.ext_getElem?
  intro j
  by_cases hj : j ∈ own
  · have key : ∀ (τ : St) (ow : List Nat), j ∈ ow → (L2.wipe τ ow)[j]? = if j < τ.length then some none else none := by
      intro τ ow
      induction ow with
      | nil => intro h; simp at h
      | cons v vs ih =>
        intro h
        unfold L2.wipe
        by_cases hv : v = j
        · subst hv
          rw [List.getElem?_set]
          simp only [if_pos, wipe_length]
        · rw [List.getElem?_set_ne hv]
          exact ih (by rcases List.mem_cons.mp h with e | e; exact absurd e.symm hv; exact e)
    rw [key σ2 own hj, key σ own hj, h.1]
  · rw [wipe_get hj, wipe_get hj]
    exact h.2 j fun z => hj (s j z)
section
variable {X : Cx} {K : PySem.W.Frag}
/-- the reading of a target -/
def gT (K : PySem.W.Frag) (t : T) : TG := fun v σ H Q => ∃ O env d env2, W K O H env σ ∧ RepD K O H d v ∧ asgT t d env = some env2 ∧
  ∀ σ2, W K O H env2 σ2 → (∀ b, FpE H env2 σ2 b → FpE H env σ b) → OnlyAt σ σ2 t.slots → Q σ2 H
def gTs (K : PySem.W.Frag) (ts : List T) : TGs := fun vs σ H Q => ∃ O env ds env2, W K O H env σ ∧ RepDs K O H ds vs ∧ asgTs ts ds env = some env2 ∧
  ∀ σ2, W K O H env2 σ2 → (∀ b, FpE H env2 σ2 b → FpE H env σ b) → OnlyAt σ σ2 (slotsL ts) → Q σ2 H
theorem setS_some {i : Nat} {s : Sl} {env env2 : En} (h : setS i s env = some env2) : ∃ o, env[i]? = some o ∧ o.isBx = false ∧ env2 = env.set i s := by
  unfold setS at h
  split at h
  · cases h
  · cases h
  · rename_i o n h1
    cases h
    refine ⟨o, h1, ?_, rfl⟩
    cases o <;> first | rfl | exact absurd rfl (n _ _)
theorem pg_nm {i : Nat} {x : Str} {pos : Pos} (hN : X.N.Nodup) (hi : X.N[i]? = some x) (hx : Loc X.env.scope x) (hf : X.fn x = true ∨ X.env.scope.names.lookup x = some .local) : PG X (.Name x pos) (gT X.K (.nm i)) := by
  refine ⟨fun pins s σ H v u Q I r q => (pg_name hN hi hx hf).run pins s σ H v u Q I r ?_⟩
  obtain ⟨O, env, d, env2, w, rd, e, q⟩ := q
  obtain ⟨o, e1, nb, rfl⟩ := setS_some e
  have wr : WR X.K O H env σ (.v d) v := ⟨w, rd, fun b f => f.elim⟩
  obtain ⟨w2, k⟩ := wr.store e1 nb
  exact q _ w2 (fun b f => (k b f).elim id fun z => z.elim) ⟨by rw [List.length_set], fun j hj => List.getElem?_set_ne fun z => hj (by simp [T.slots, z])⟩
theorem pgs_nilT : PGs X [] (gTs X.K []) := by
  refine ⟨fun pins s σ H vs us Q I r q => pgs_nil.run pins s σ H vs us Q I r ?_⟩
  obtain ⟨O, env, ds, env2, w, rd, e, q⟩ := q
  cases ds with
  | nil =>
    cases e
    simp only [RepDs] at rd
    exact ⟨rd, q σ w (fun _ f => f) ⟨rfl, fun _ _ => rfl⟩⟩
  | cons _ _ => cases e
theorem pgs_consT {e : Expr} {es : List Expr} {t : T} {ts : List T} (h1 : PG X e (gT X.K t)) (h2 : PGs X es (gTs X.K ts)) (hs : (assignEach (e :: es) X.env).map (·.2) = assign e X.env :: (assignEach es X.env).map (·.2)) : PGs X (e :: es) (gTs X.K (t :: ts)) := by
  refine ⟨fun pins s σ H vs us Q I r q => (pgs_cons h1 h2 hs).run pins s σ H vs us Q I r ?_⟩
  obtain ⟨O, env, ds, env2, w, rd, e, q⟩ := q
  cases ds with
  | nil => cases e
  | cons d ds =>
    simp only [RepDs] at rd
    obtain ⟨v, vr, rfl, rd1, rd2⟩ := rd
    simp only [asgTs, Option.bind_eq_some_iff] at e
    obtain ⟨e1, h3, h4⟩ := e
    refine ⟨v, vr, rfl, O, env, d, e1, w, rd1, h3, fun σ1 w1 k1 o1 => ⟨O, e1, ds, env2, w1, rd2, h4, fun σ2 w2 k2 o2 => ?_⟩⟩
    refine q σ2 w2 (fun b f => k1 b (k2 b f)) ⟨o2.1.trans o1.1, fun j hj => ?_⟩
    simp only [slotsL, List.mem_append, not_or] at hj
    rw [o2.2 j hj.2, o1.2 j hj.1]
theorem pg_tp {es : List Expr} {k : Nat} {ts : List T} {n : Nat} {pos : Pos} (hc : X.calm = true) (h : PGs X es (gTs X.K ts)) (hl : ts.length = n) (hn : (assignEach es X.env).length = n) (hst : (assignEach es X.env).findIdx? (·.1) = none) : PG X (.Tuple es k pos) (gT X.K (.tp ts)) := by
  refine ⟨fun pins s σ H v u Q I r q => (L2.pg_tup hc h hn hst).run pins s σ H v u Q I r ?_⟩
  obtain ⟨O, env, d, env2, w, rd, e, q⟩ := q
  cases d with
  | tuple ds =>
    simp only [RepD] at rd
    obtain ⟨a, vs, rfl, s1, r1⟩ := rd
    have e' : asgTs ts ds env = some env2 := by simpa only [asgT] using e
    have lens : ∀ (ts : List T) (ds : List D) (en e2 : En), asgTs ts ds en = some e2 → ts.length = ds.length := by
      intro ts
      induction ts with
      | nil => intro ds en e2 h; cases ds with
        | nil => rfl
        | cons _ _ => cases h
      | cons t ts ih => intro ds en e2 h; cases ds with
        | nil => cases h
        | cons d ds =>
          simp only [asgTs, Option.bind_eq_some_iff] at h
          obtain ⟨e1, _, h2⟩ := h
          simp [ih ds e1 e2 h2]
    refine ⟨a, vs, rfl, s1, by rw [← r1.length, ← lens _ _ _ _ e', hl], O, env, ds, env2, w, r1, e', fun σ2 w2 k o => q σ2 w2 k (by simpa only [T.slots] using o)⟩
  | _ => simp only [asgT] at e; cases e
end
/-! what is walked -/
/-- no list or tuple is too long -/
def Line (K : PySem.W.Frag) (H : Hp) : Prop := ∀ (a : Addr) (xs : List V), SqL K H a xs ∨ SqT K H a xs → xs.length ≤ sizeLine
theorem line_of {X : Cx} {pins : List (Addr × Obj)} {σ : St} {H : Hp} {s : Shared} (I : Inv X pins σ H s) : Line X.K H := fun a xs h => by
  rcases h with h | h
  · obtain ⟨_, _, _, z⟩ := I.list h; exact z
  · obtain ⟨_, _, _, z⟩ := I.tuple h; exact z
/-- an iterator J that yields the items while the operands stand as ds -/
structure ItD (K : PySem.W.Frag) (J : It) (items : List D) (ds : List D) (vs : List V) : Prop where
  go : ∀ (i : Nat) (O : Own) (H : Hp) (d : D), OwnOk O H → RepPs K O H ds vs → items[i]? = some d → J.go i H
  yld : ∀ (i : Nat) (O : Own) (H : Hp) (d : D) (x : V) (H' : Hp), OwnOk O H → RepPs K O H ds vs → items[i]? = some d → J.yld i H x H' → Step O H F0 O H' F0 ∧ RepD K O H' d x
  stop : ∀ (O : Own) (H : Hp), OwnOk O H → RepPs K O H ds vs → J.stop items.length H
  len : ∀ (O : Own) (H : Hp), OwnOk O H → RepPs K O H ds vs → Line K H → items.length ≤ sizeLine
/-- .. the reading of what a loop walks -/
def tI (K : PySem.W.Frag) (k : IK) (f : En → Option (List Opd × En)) : TI := fun σ H R => ∃ O env ps env' ds items, W K O H env σ ∧ f env = some (ps, env') ∧ gets env' ps = some ds ∧ itemsOf k ds = some items ∧
  ∀ O' H' J vs, Step O H (FpE H env σ) O' H' (FpE H' env' σ) → W K O' H' env' σ → RepOs K O' H' σ ps vs → ItD K J items ds vs → R J H'
section
variable {K : PySem.W.Frag}
theorem one_ps {O : Own} {H : Hp} {d : D} {vs : List V} (h : RepPs K O H [d] vs) : ∃ v, vs = [v] ∧ RepP K O H d v := by
  obtain ⟨v, r, rfl, h1, h2⟩ := h
  cases h2
  exact ⟨v, rfl, h1⟩
theorem itd_list {xs : List D} {a : Addr} : ItD K (Itl K a) xs [.list xs] [.ref a] := by
  have rd : ∀ (O : Own) (H : Hp), RepPs K O H [.list xs] [.ref a] → ∃ us, H a = some (.lst us) ∧ RepDs K O H xs us := fun O H h => by
    obtain ⟨v, e, h⟩ := one_ps h
    cases e
    obtain ⟨b, us, e, h1, h2⟩ := h.list
    cases e
    exact ⟨us, h1, h2⟩
  refine ⟨fun i O H d own h e => ?_, fun i O H d x H' own h e y => ?_, fun O H own h => ?_, fun O H own h ln => ?_⟩
  · obtain ⟨us, h1, h2⟩ := rd O H h
    obtain ⟨v, h3, _⟩ := h2.get e
    exact ⟨us, v, SqL.of h1, h3⟩
  · obtain ⟨us, h1, h2⟩ := rd O H h
    obtain ⟨v, h3, h4⟩ := h2.get e
    obtain ⟨rfl, y⟩ := y
    have := y us (SqL.of h1)
    rw [h3] at this; cases this
    exact ⟨(Step.refl own).sub fun _ z => z, h4⟩
  · obtain ⟨us, h1, h2⟩ := rd O H h
    exact ⟨us, SqL.of h1, by rw [h2.length]; exact Nat.le_refl _⟩
  · obtain ⟨us, h1, h2⟩ := rd O H h
    rw [h2.length]; exact ln a us (.inl (SqL.of h1))
theorem itd_tup {xs : List D} {a : Addr} : ItD K (Itt K a) xs [.tuple xs] [.ref a] := by
  have rd : ∀ (O : Own) (H : Hp), RepPs K O H [.tuple xs] [.ref a] → ∃ us, SqT K H a us ∧ RepDs K O H xs us := fun O H h => by
    obtain ⟨v, e, h⟩ := one_ps h
    cases e
    obtain ⟨b, us, e, h1, h2⟩ := h.tuple
    cases e
    exact ⟨us, h1, h2⟩
  refine ⟨fun i O H d own h e => ?_, fun i O H d x H' own h e y => ?_, fun O H own h => ?_, fun O H own h ln => ?_⟩
  · obtain ⟨us, h1, h2⟩ := rd O H h
    obtain ⟨v, h3, _⟩ := h2.get e
    exact ⟨us, v, h1, h3⟩
  · obtain ⟨us, h1, h2⟩ := rd O H h
    obtain ⟨v, h3, h4⟩ := h2.get e
    obtain ⟨rfl, y⟩ := y
    have := y us h1
    rw [h3] at this; cases this
    exact ⟨(Step.refl own).sub fun _ z => z, h4⟩
  · obtain ⟨us, h1, h2⟩ := rd O H h
    exact ⟨us, h1, by rw [h2.length]; exact Nat.le_refl _⟩
  · obtain ⟨us, h1, h2⟩ := rd O H h
    rw [h2.length]; exact ln a us (.inr h1)
theorem rngL_get {lo : Int} {n i : Nat} {d : D} (h : (rngL lo n)[i]? = some d) : i < n ∧ d = .int (lo + i) := by
  unfold rngL at h
  rw [List.getElem?_map] at h
  by_cases hi : i < n
  · rw [List.getElem?_range hi] at h
    cases h
    exact ⟨hi, rfl⟩
  · rw [List.getElem?_eq_none (by simpa using hi)] at h; cases h
theorem itd_rng {lo : Int} {n : Nat} {ds : List D} {vs : List V} (hn : n ≤ sizeLine) : ItD K (Itr lo n) (rngL lo n) ds vs := by
  refine ⟨fun i O H d own h e => (rngL_get e).1, fun i O H d x H' own h e y => ?_, fun O H own h => ?_, fun O H own h ln => by simpa [rngL] using hn⟩
  · obtain ⟨h1, rfl⟩ := rngL_get e
    obtain ⟨rfl, rfl⟩ := y
    exact ⟨(Step.refl own).sub fun _ z => z, by simp only [RepD]⟩
  · show n ≤ _
    simp [rngL]
theorem enumL_get : ∀ {xs : List D} {k i : Nat} {d : D}, (enumL xs k)[i]? = some d → ∃ x, xs[i]? = some x ∧ d = .tuple [.int ((k + i : Nat) : Int), x]
  | [], k, i, d, h => by simp [enumL] at h
  | x :: xs, k, 0, d, h => by simp [enumL] at h; exact ⟨x, by simp, by rw [← h]; simp⟩
  | x :: xs, k, i + 1, d, h => by
    simp only [enumL, List.getElem?_cons_succ] at h
    obtain ⟨y, h1, h2⟩ := enumL_get h
    exact ⟨y, by simpa using h1, by rw [h2]; congr 3; omega⟩
theorem enumL_len : ∀ (xs : List D) (k : Nat), (enumL xs k).length = xs.length
  | [], k => rfl
  | x :: xs, k => by simp [enumL, enumL_len xs]
theorem itd_enum {xs : List D} {a : Addr} : ItD K (Ite K a) (enumL xs 0) [.list xs] [.ref a] := by
  have rd : ∀ (O : Own) (H : Hp), RepPs K O H [.list xs] [.ref a] → ∃ us, H a = some (.lst us) ∧ RepDs K O H xs us := fun O H h => by
    obtain ⟨v, e, h⟩ := one_ps h
    cases e
    obtain ⟨b, us, e, h1, h2⟩ := h.list
    cases e
    exact ⟨us, h1, h2⟩
  refine ⟨fun i O H d own h e => ?_, fun i O H d x H' own h e y => ?_, fun O H own h => ?_, fun O H own h ln => ?_⟩
  · obtain ⟨us, h1, h2⟩ := rd O H h
    obtain ⟨x, e1, _⟩ := enumL_get e
    obtain ⟨v, h3, _⟩ := h2.get e1
    exact ⟨us, v, SqL.of h1, h3⟩
  · obtain ⟨us, h1, h2⟩ := rd O H h
    obtain ⟨z, e1, rfl⟩ := enumL_get e
    obtain ⟨v, h3, h4⟩ := h2.get e1
    obtain ⟨T, u, rfl, hT, rfl, y⟩ := y
    have := y us (SqL.of h1)
    rw [h3] at this; cases this
    have st := OwnOk.new (o := .tup [.int (i : Nat), v]) own hT
    refine ⟨st, ?_⟩
    simp only [RepD, RepDs]
    exact ⟨T, _, rfl, SqT.of upd_same, .int (i : Nat), [v], rfl, by simp, v, [], rfl, RepD.evo st.evo _ _ h4, rfl⟩
  · obtain ⟨us, h1, h2⟩ := rd O H h
    exact ⟨us, SqL.of h1, by rw [enumL_len, h2.length]; exact Nat.le_refl _⟩
  · obtain ⟨us, h1, h2⟩ := rd O H h
    rw [enumL_len, h2.length]; exact ln a us (.inl (SqL.of h1))
theorem itd_enumT {xs : List D} {a : Addr} : ItD K (IteT K a) (enumL xs 0) [.tuple xs] [.ref a] := by
  have rd : ∀ (O : Own) (H : Hp), RepPs K O H [.tuple xs] [.ref a] → ∃ us, SqT K H a us ∧ RepDs K O H xs us := fun O H h => by
    obtain ⟨v, e, h⟩ := one_ps h
    cases e
    obtain ⟨b, us, e, h1, h2⟩ := h.tuple
    cases e
    exact ⟨us, h1, h2⟩
  refine ⟨fun i O H d own h e => ?_, fun i O H d x H' own h e y => ?_, fun O H own h => ?_, fun O H own h ln => ?_⟩
  · obtain ⟨us, h1, h2⟩ := rd O H h
    obtain ⟨x, e1, _⟩ := enumL_get e
    obtain ⟨v, h3, _⟩ := h2.get e1
    exact ⟨us, v, h1, h3⟩
  · obtain ⟨us, h1, h2⟩ := rd O H h
    obtain ⟨z, e1, rfl⟩ := enumL_get e
    obtain ⟨v, h3, h4⟩ := h2.get e1
    obtain ⟨T, u, rfl, hT, rfl, y⟩ := y
    have := y us h1
    rw [h3] at this; cases this
    have st := OwnOk.new (o := .tup [.int (i : Nat), v]) own hT
    refine ⟨st, ?_⟩
    simp only [RepD, RepDs]
    exact ⟨T, _, rfl, SqT.of upd_same, .int (i : Nat), [v], rfl, by simp, v, [], rfl, RepD.evo st.evo _ _ h4, rfl⟩
  · obtain ⟨us, h1, h2⟩ := rd O H h
    exact ⟨us, h1, by rw [enumL_len, h2.length]; exact Nat.le_refl _⟩
  · obtain ⟨us, h1, h2⟩ := rd O H h
    rw [enumL_len, h2.length]; exact ln a us (.inr h1)
theorem two_ps {O : Own} {H : Hp} {d e : D} {vs : List V} (h : RepPs K O H [d, e] vs) : ∃ v u, vs = [v, u] ∧ RepP K O H d v ∧ RepP K O H e u := by
  obtain ⟨v, r, rfl, h1, h2⟩ := h
  obtain ⟨u, rfl, h3⟩ := one_ps h2
  exact ⟨v, u, rfl, h1, h3⟩
theorem zipL_get : ∀ {xs ys : List D} {i : Nat} {d : D}, (zipL xs ys)[i]? = some d → ∃ x y, xs[i]? = some x ∧ ys[i]? = some y ∧ d = .tuple [x, y]
  | [], ys, i, d, h => by simp [zipL] at h
  | x :: xs, [], i, d, h => by simp [zipL] at h
  | x :: xs, y :: ys, 0, d, h => by simp [zipL] at h; exact ⟨x, y, by simp, by simp, h.symm⟩
  | x :: xs, y :: ys, i + 1, d, h => by
    simp only [zipL, List.getElem?_cons_succ] at h
    obtain ⟨x', y', h1, h2, h3⟩ := zipL_get h
    exact ⟨x', y', by simpa using h1, by simpa using h2, h3⟩
theorem zipL_len : ∀ (xs ys : List D), (zipL xs ys).length = min xs.length ys.length
  | [], ys => by simp [zipL]
  | x :: xs, [] => by simp [zipL]
  | x :: xs, y :: ys => by simp [zipL, zipL_len xs ys]
theorem itd_zipL {xs ys : List D} {a b : Addr} : ItD K (Itz K a b) (zipL xs ys) [.list xs, .list ys] [.ref a, .ref b] := by
  have rd : ∀ (O : Own) (H : Hp), RepPs K O H [.list xs, .list ys] [.ref a, .ref b] → ∃ us ws, H a = some (.lst us) ∧ H b = some (.lst ws) ∧ RepDs K O H xs us ∧ RepDs K O H ys ws := fun O H h => by
    obtain ⟨v, w, e, h, g⟩ := two_ps h
    cases e
    obtain ⟨b1, us, e, h1, h2⟩ := h.list
    cases e
    obtain ⟨b2, ws, e, h3, h4⟩ := g.list
    cases e
    exact ⟨us, ws, h1, h3, h2, h4⟩
  refine ⟨fun i O H d own h e => ?_, fun i O H d x H' own h e y => ?_, fun O H own h => ?_, fun O H own h ln => ?_⟩
  · obtain ⟨us, ws, h1, h2, h3, h4⟩ := rd O H h
    obtain ⟨x, y, e1, e2, _⟩ := zipL_get e
    obtain ⟨v, h5, _⟩ := h3.get e1
    obtain ⟨w, h6, _⟩ := h4.get e2
    exact ⟨us, ws, v, w, SqL.of h1, SqL.of h2, h5, h6⟩
  · obtain ⟨us, ws, h1, h2, h3, h4⟩ := rd O H h
    obtain ⟨x', y', e1, e2, rfl⟩ := zipL_get e
    obtain ⟨v, h5, h7⟩ := h3.get e1
    obtain ⟨w, h6, h8⟩ := h4.get e2
    obtain ⟨T, u1, u2, rfl, hT, rfl, y1, y2⟩ := y
    have z1 := y1 us (SqL.of h1)
    rw [h5] at z1; cases z1
    have z2 := y2 ws (SqL.of h2)
    rw [h6] at z2; cases z2
    have st := OwnOk.new (o := .tup [v, w]) own hT
    refine ⟨st, ?_⟩
    simp only [RepD, RepDs]
    exact ⟨T, _, rfl, SqT.of upd_same, v, [w], rfl, RepD.evo st.evo _ _ h7, w, [], rfl, RepD.evo st.evo _ _ h8, rfl⟩
  · obtain ⟨us, ws, h1, h2, h3, h4⟩ := rd O H h
    have := h3.length
    have := h4.length
    refine ⟨us, ws, SqL.of h1, SqL.of h2, ?_⟩
    rw [zipL_len]; omega
  · obtain ⟨us, ws, h1, h2, h3, h4⟩ := rd O H h
    have := h3.length
    have := ln a us (.inl (SqL.of h1))
    rw [zipL_len]; omega
theorem itd_zipT {xs ys : List D} {a b : Addr} : ItD K (ItzT K a b) (zipL xs ys) [.tuple xs, .tuple ys] [.ref a, .ref b] := by
  have rd : ∀ (O : Own) (H : Hp), RepPs K O H [.tuple xs, .tuple ys] [.ref a, .ref b] → ∃ us ws, SqT K H a us ∧ SqT K H b ws ∧ RepDs K O H xs us ∧ RepDs K O H ys ws := fun O H h => by
    obtain ⟨v, w, e, h, g⟩ := two_ps h
    cases e
    obtain ⟨b1, us, e, h1, h2⟩ := h.tuple
    cases e
    obtain ⟨b2, ws, e, h3, h4⟩ := g.tuple
    cases e
    exact ⟨us, ws, h1, h3, h2, h4⟩
  refine ⟨fun i O H d own h e => ?_, fun i O H d x H' own h e y => ?_, fun O H own h => ?_, fun O H own h ln => ?_⟩
  · obtain ⟨us, ws, h1, h2, h3, h4⟩ := rd O H h
    obtain ⟨x, y, e1, e2, _⟩ := zipL_get e
    obtain ⟨v, h5, _⟩ := h3.get e1
    obtain ⟨w, h6, _⟩ := h4.get e2
    exact ⟨us, ws, v, w, h1, h2, h5, h6⟩
  · obtain ⟨us, ws, h1, h2, h3, h4⟩ := rd O H h
    obtain ⟨x', y', e1, e2, rfl⟩ := zipL_get e
    obtain ⟨v, h5, h7⟩ := h3.get e1
    obtain ⟨w, h6, h8⟩ := h4.get e2
    obtain ⟨T, u1, u2, rfl, hT, rfl, y1, y2⟩ := y
    have z1 := y1 us h1
    rw [h5] at z1; cases z1
    have z2 := y2 ws h2
    rw [h6] at z2; cases z2
    have st := OwnOk.new (o := .tup [v, w]) own hT
    refine ⟨st, ?_⟩
    simp only [RepD, RepDs]
    exact ⟨T, _, rfl, SqT.of upd_same, v, [w], rfl, RepD.evo st.evo _ _ h7, w, [], rfl, RepD.evo st.evo _ _ h8, rfl⟩
  · obtain ⟨us, ws, h1, h2, h3, h4⟩ := rd O H h
    have := h3.length
    have := h4.length
    refine ⟨us, ws, h1, h2, ?_⟩
    rw [zipL_len]; omega
  · obtain ⟨us, ws, h1, h2, h3, h4⟩ := rd O H h
    have := h3.length
    have := ln a us (.inr h1)
    rw [zipL_len]; omega
def mkD : Bool → List D → D
  | true, xs => .list xs
  | false, xs => .tuple xs
theorem repP_sq {b : Bool} {O : Own} {H : Hp} {xs : List D} {v : V} (h : RepP K O H (mkD b xs) v) : ∃ a us, v = .ref a ∧ Sq K b H a us ∧ RepDs K O H xs us := by
  cases b
  · obtain ⟨a, us, e, h1, h2⟩ := RepP.tuple h
    exact ⟨a, us, e, h1, h2⟩
  · obtain ⟨a, us, e, h1, h2⟩ := RepP.list h
    exact ⟨a, us, e, SqL.of h1, h2⟩
theorem three_ps {O : Own} {H : Hp} {d e f : D} {vs : List V} (h : RepPs K O H [d, e, f] vs) : ∃ v u w, vs = [v, u, w] ∧ RepP K O H d v ∧ RepP K O H e u ∧ RepP K O H f w := by
  obtain ⟨v, r, rfl, h1, h2⟩ := h
  obtain ⟨u, w, rfl, h3, h4⟩ := two_ps h2
  exact ⟨v, u, w, rfl, h1, h3, h4⟩
theorem itd_zipM {b1 b2 : Bool} {xs ys : List D} {a b : Addr} : ItD K (ItzM K b1 b2 a b) (zipL xs ys) [mkD b1 xs, mkD b2 ys] [.ref a, .ref b] := by
  have rd : ∀ (O : Own) (H : Hp), RepPs K O H [mkD b1 xs, mkD b2 ys] [.ref a, .ref b] → ∃ us ws, Sq K b1 H a us ∧ Sq K b2 H b ws ∧ RepDs K O H xs us ∧ RepDs K O H ys ws := fun O H h => by
    obtain ⟨v, w, e, h, g⟩ := two_ps h
    cases e
    obtain ⟨_, us, e, h1, h2⟩ := repP_sq h
    cases e
    obtain ⟨_, ws, e, h3, h4⟩ := repP_sq g
    cases e
    exact ⟨us, ws, h1, h3, h2, h4⟩
  refine ⟨fun i O H d own h e => ?_, fun i O H d x H' own h e y => ?_, fun O H own h => ?_, fun O H own h ln => ?_⟩
  · obtain ⟨us, ws, h1, h2, h3, h4⟩ := rd O H h
    obtain ⟨x, y, e1, e2, _⟩ := zipL_get e
    obtain ⟨v, h5, _⟩ := h3.get e1
    obtain ⟨w, h6, _⟩ := h4.get e2
    exact ⟨us, ws, v, w, h1, h2, h5, h6⟩
  · obtain ⟨us, ws, h1, h2, h3, h4⟩ := rd O H h
    obtain ⟨x', y', e1, e2, rfl⟩ := zipL_get e
    obtain ⟨v, h5, h7⟩ := h3.get e1
    obtain ⟨w, h6, h8⟩ := h4.get e2
    obtain ⟨T, u1, u2, rfl, hT, rfl, y1, y2⟩ := y
    have z1 := y1 us h1
    rw [h5] at z1; cases z1
    have z2 := y2 ws h2
    rw [h6] at z2; cases z2
    have st := OwnOk.new (o := .tup [v, w]) own hT
    refine ⟨st, ?_⟩
    simp only [RepD, RepDs]
    exact ⟨T, _, rfl, SqT.of upd_same, v, [w], rfl, RepD.evo st.evo _ _ h7, w, [], rfl, RepD.evo st.evo _ _ h8, rfl⟩
  · obtain ⟨us, ws, h1, h2, h3, h4⟩ := rd O H h
    have := h3.length
    have := h4.length
    refine ⟨us, ws, h1, h2, ?_⟩
    rw [zipL_len]; omega
  · obtain ⟨us, ws, h1, h2, h3, h4⟩ := rd O H h
    have := h3.length
    have := ln a us (by cases b1; exact .inr h1; exact .inl h1)
    rw [zipL_len]; omega
theorem zipL3_get : ∀ {xs ys zs : List D} {i : Nat} {d : D}, (zipL3 xs ys zs)[i]? = some d → ∃ x y z, xs[i]? = some x ∧ ys[i]? = some y ∧ zs[i]? = some z ∧ d = .tuple [x, y, z]
  | [], ys, zs, i, d, h => by simp [zipL3] at h
  | x :: xs, [], zs, i, d, h => by simp [zipL3] at h
  | x :: xs, y :: ys, [], i, d, h => by simp [zipL3] at h
  | x :: xs, y :: ys, z :: zs, 0, d, h => by simp [zipL3] at h; exact ⟨x, y, z, by simp, by simp, by simp, h.symm⟩
  | x :: xs, y :: ys, z :: zs, i + 1, d, h => by
    simp only [zipL3, List.getElem?_cons_succ] at h
    obtain ⟨x', y', z', h1, h2, h3, h4⟩ := zipL3_get h
    exact ⟨x', y', z', by simpa using h1, by simpa using h2, by simpa using h3, h4⟩
theorem zipL3_len : ∀ (xs ys zs : List D), (zipL3 xs ys zs).length = min (min xs.length ys.length) zs.length
  | [], ys, zs => by simp [zipL3]
  | x :: xs, [], zs => by simp [zipL3]
  | x :: xs, y :: ys, [] => by simp [zipL3]
  | x :: xs, y :: ys, z :: zs => by simp [zipL3, zipL3_len xs ys zs]
theorem itd_zipM3 {b1 b2 b3 : Bool} {xs ys zs : List D} {a b c : Addr} : ItD K (ItzM3 K b1 b2 b3 a b c) (zipL3 xs ys zs) [mkD b1 xs, mkD b2 ys, mkD b3 zs] [.ref a, .ref b, .ref c] := by
  have rd : ∀ (O : Own) (H : Hp), RepPs K O H [mkD b1 xs, mkD b2 ys, mkD b3 zs] [.ref a, .ref b, .ref c] → ∃ us ws ts, Sq K b1 H a us ∧ Sq K b2 H b ws ∧ Sq K b3 H c ts ∧ RepDs K O H xs us ∧ RepDs K O H ys ws ∧ RepDs K O H zs ts := fun O H h => by
    obtain ⟨v, w, t, e, h, g, k⟩ := three_ps h
    cases e
    obtain ⟨_, us, e, h1, h2⟩ := repP_sq h
    cases e
    obtain ⟨_, ws, e, h3, h4⟩ := repP_sq g
    cases e
    obtain ⟨_, ts, e, h5, h6⟩ := repP_sq k
    cases e
    exact ⟨us, ws, ts, h1, h3, h5, h2, h4, h6⟩
  refine ⟨fun i O H d own h e => ?_, fun i O H d x H' own h e y => ?_, fun O H own h => ?_, fun O H own h ln => ?_⟩
  · obtain ⟨us, ws, ts, h1, h2, h2', h3, h4, h4'⟩ := rd O H h
    obtain ⟨x, y, z, e1, e2, e3, _⟩ := zipL3_get e
    obtain ⟨v, h5, _⟩ := h3.get e1
    obtain ⟨w, h6, _⟩ := h4.get e2
    obtain ⟨t, h7, _⟩ := h4'.get e3
    exact ⟨us, ws, ts, v, w, t, h1, h2, h2', h5, h6, h7⟩
  · obtain ⟨us, ws, ts, h1, h2, h2', h3, h4, h4'⟩ := rd O H h
    obtain ⟨x', y', z', e1, e2, e3, rfl⟩ := zipL3_get e
    obtain ⟨v, h5, h7⟩ := h3.get e1
    obtain ⟨w, h6, h8⟩ := h4.get e2
    obtain ⟨t, h9, h10⟩ := h4'.get e3
    obtain ⟨T, u1, u2, u3, rfl, hT, rfl, y1, y2, y3⟩ := y
    have z1 := y1 us h1
    rw [h5] at z1; cases z1
    have z2 := y2 ws h2
    rw [h6] at z2; cases z2
    have z3 := y3 ts h2'
    rw [h9] at z3; cases z3
    have st := OwnOk.new (o := .tup [v, w, t]) own hT
    refine ⟨st, ?_⟩
    simp only [RepD, RepDs]
    exact ⟨T, _, rfl, SqT.of upd_same, v, [w, t], rfl, RepD.evo st.evo _ _ h7, w, [t], rfl, RepD.evo st.evo _ _ h8, t, [], rfl, RepD.evo st.evo _ _ h10, rfl⟩
  · obtain ⟨us, ws, ts, h1, h2, h2', h3, h4, h4'⟩ := rd O H h
    have := h3.length
    have := h4.length
    have := h4'.length
    refine ⟨us, ws, ts, h1, h2, h2', ?_⟩
    rw [zipL3_len]; omega
  · obtain ⟨us, ws, ts, h1, h2, h2', h3, h4, h4'⟩ := rd O H h
    have := h3.length
    have := ln a us (by cases b1; exact .inr h1; exact .inl h1)
    rw [zipL3_len]; omega
theorem seqD_mk {d : D} {xs : List D} (h : seqD d = some xs) : ∃ b, d = mkD b xs := by
  cases d <;> first | (cases h; exact ⟨true, rfl⟩) | (cases h; exact ⟨false, rfl⟩) | cases h
theorem zip_mk {d d2 : D} {items : List D} (h : itemsOf .zip [d, d2] = some items) : ∃ b1 b2 xs ys, d = mkD b1 xs ∧ d2 = mkD b2 ys ∧ items = zipL xs ys := by
  cases d with
  | list xs => cases d2 with
    | list ys => cases h; exact ⟨true, true, xs, ys, rfl, rfl, rfl⟩
    | tuple ys => cases h; exact ⟨true, false, xs, ys, rfl, rfl, rfl⟩
    | _ => simp [itemsOf] at h
  | tuple xs => cases d2 with
    | list ys => cases h; exact ⟨false, true, xs, ys, rfl, rfl, rfl⟩
    | tuple ys => cases h; exact ⟨false, false, xs, ys, rfl, rfl, rfl⟩
    | _ => simp [itemsOf] at h
  | _ => cases d2 <;> simp [itemsOf] at h
theorem zip_mk3 {d d2 d3 : D} {items : List D} (h : itemsOf .zip [d, d2, d3] = some items) : ∃ b1 b2 b3 xs ys zs, d = mkD b1 xs ∧ d2 = mkD b2 ys ∧ d3 = mkD b3 zs ∧ items = zipL3 xs ys zs := by
  have h : ((seqD d).bind fun xs => (seqD d2).bind fun ys => (seqD d3).map fun zs => zipL3 xs ys zs) = some items := by cases d <;> cases d2 <;> exact h
  simp only [Option.bind_eq_some_iff, Option.map_eq_some_iff] at h
  obtain ⟨xs, h1, ys, h2, zs, h3, h4⟩ := h
  obtain ⟨b1, e1⟩ := seqD_mk h1
  obtain ⟨b2, e2⟩ := seqD_mk h2
  obtain ⟨b3, e3⟩ := seqD_mk h3
  exact ⟨b1, b2, b3, xs, ys, zs, e1, e2, e3, h4.symm⟩
theorem itd_rev {xs : List D} {a : Addr} : ItD K (Itv K a xs.length) xs.reverse [.list xs] [.ref a] := by
  have rd : ∀ (O : Own) (H : Hp), RepPs K O H [.list xs] [.ref a] → ∃ us, H a = some (.lst us) ∧ RepDs K O H xs us := fun O H h => by
    obtain ⟨v, e, h⟩ := one_ps h
    cases e
    obtain ⟨b, us, e, h1, h2⟩ := h.list
    cases e
    exact ⟨us, h1, h2⟩
  have rv : ∀ (i : Nat) (d : D), xs.reverse[i]? = some d → i < xs.length ∧ xs[xs.length - 1 - i]? = some d := fun i d e => by
    have hi : i < xs.length := by simpa using (List.getElem?_eq_some_iff.mp e).1
    rw [List.getElem?_reverse hi] at e
    exact ⟨hi, e⟩
  refine ⟨fun i O H d own h e => ?_, fun i O H d x H' own h e y => ?_, fun O H own h => ?_, fun O H own h ln => ?_⟩
  · obtain ⟨us, h1, h2⟩ := rd O H h
    obtain ⟨hi, e1⟩ := rv i d e
    obtain ⟨v, h3, _⟩ := h2.get e1
    exact ⟨hi, us, v, SqL.of h1, h3⟩
  · obtain ⟨us, h1, h2⟩ := rd O H h
    obtain ⟨hi, e1⟩ := rv i d e
    obtain ⟨v, h3, h4⟩ := h2.get e1
    obtain ⟨rfl, y⟩ := y
    have := y us (SqL.of h1)
    rw [h3] at this; cases this
    exact ⟨(Step.refl own).sub fun _ z => z, h4⟩
  · show xs.length ≤ _
    simp
  · obtain ⟨us, h1, h2⟩ := rd O H h
    rw [List.length_reverse, h2.length]; exact ln a us (.inl (SqL.of h1))
end
/-! the walked things of the text -/
section
variable {X : Cx} {tg : Expr}
theorem seq_list {ds items : List D} (h : itemsOf .seq ds = some items) : (∃ xs, ds = [.list xs] ∧ items = xs) ∨ ∃ xs, ds = [.tuple xs] ∧ items = xs := by
  cases ds with
  | nil => simp [itemsOf] at h
  | cons d r =>
    cases r with
    | nil => cases d with
      | list xs => simp [itemsOf] at h; exact .inl ⟨xs, rfl, h.symm⟩
      | tuple xs => simp [itemsOf] at h; exact .inr ⟨xs, rfl, h.symm⟩
      | _ => simp [itemsOf] at h
    | cons e r => cases d <;> simp [itemsOf] at h
theorem ops_one {m : M} {env env' : En} {ps : List Opd} (h : opsM [m] env = some (ps, env')) : ∃ p, m.opd env = some (p, env') ∧ ps = [p] := by
  simp only [opsM, Option.bind_eq_some_iff, Option.map_eq_some_iff] at h
  obtain ⟨⟨p, e1⟩, h1, ⟨qs, e2⟩, h2, h3⟩ := h
  cases h2; cases h3
  exact ⟨p, h1, rfl⟩
theorem ops_two {m n : M} {env env' : En} {ps : List Opd} (h : opsM [m, n] env = some (ps, env')) : ∃ p q, ps = [p, q] := by
  simp only [opsM, Option.bind_eq_some_iff, Option.map_eq_some_iff] at h
  obtain ⟨⟨p, e1⟩, h1, ⟨qs, e2⟩, ⟨⟨q, e3⟩, h4, ⟨rs, e5⟩, h6, h7⟩, h3⟩ := h
  cases h6; cases h7; cases h3
  exact ⟨p, q, rfl⟩
theorem gets_one {env : En} {p : Opd} {ds : List D} (h : gets env [p] = some ds) : ∃ d, ds = [d] := by
  have h' : ((p.get env).bind fun d => (Mini.gets env []).map (d :: ·)) = some ds := h
  simp only [Option.bind_eq_some_iff, Option.map_eq_some_iff] at h'
  obtain ⟨d, _, es, e, rfl⟩ := h'
  cases e
  exact ⟨d, rfl⟩
theorem gets_two {env : En} {p q : Opd} {ds : List D} (h : gets env [p, q] = some ds) : ∃ d e, ds = [d, e] := by
  have h' : ((p.get env).bind fun d => (Mini.gets env [q]).map (d :: ·)) = some ds := h
  simp only [Option.bind_eq_some_iff, Option.map_eq_some_iff] at h'
  obtain ⟨d, _, es, e, rfl⟩ := h'
  obtain ⟨e1, rfl⟩ := gets_one e
  exact ⟨d, e1, rfl⟩
theorem PI.imp {e : Expr} {t t' : TI} (h : PI X tg e t) (i : ∀ σ H R, t' σ H R → t σ H R) : PI X tg e t' := ⟨fun pins s σ H R I q => h.run pins s σ H R I (i σ H R q)⟩
theorem pi_seq {e : Expr} {m : M} (h : SE X e m) : PI X tg e (tI X.K .seq (opsM [m])) := by
  refine ⟨fun pins s σ H R I q => ?_⟩
  obtain ⟨O, env, ps, env', ds, items, w, h1, h2, h3, q⟩ := q
  obtain ⟨p, h4, rfl⟩ := ops_one h1
  have fin : ∀ {O' : Own} {H' : Hp} {v : V} {d : D}, W X.K O' H' env' σ → RepO X.K O' H' σ p v → ds = [d] → RepP X.K O' H' d v := fun {O' H' v d} w' r e => by
    subst e
    have rr : RepOs X.K O' H' σ [p] [v] := ⟨v, [], rfl, r, rfl⟩
    obtain ⟨u, e, z⟩ := one_ps (RepOs.gets w' rr h2)
    cases e; exact z
  rcases seq_list h3 with ⟨xs, rfl, rfl⟩ | ⟨xs, rfl, rfl⟩
  · refine (pi_list h.opd).run pins s σ H R I ⟨O, env, p, env', w, h4, fun O' H' v st w' r => ?_⟩
    obtain ⟨a, us, rfl, h5, h6⟩ := (fin w' r rfl).list
    have rr : RepOs X.K O' H' σ [p] [.ref a] := ⟨.ref a, [], rfl, r, rfl⟩
    exact ⟨a, rfl, ⟨us, SqL.of h5⟩, q O' H' _ [.ref a] st w' rr itd_list⟩
  · refine (pi_tup h.opd).run pins s σ H R I ⟨O, env, p, env', w, h4, fun O' H' v st w' r => ?_⟩
    obtain ⟨a, us, rfl, h5, h6⟩ := (fin w' r rfl).tuple
    have rr : RepOs X.K O' H' σ [p] [.ref a] := ⟨.ref a, [], rfl, r, rfl⟩
    exact ⟨a, rfl, ⟨us, h5⟩, q O' H' _ [.ref a] st w' rr itd_tup⟩
theorem pi_rng1 {a : Expr} {m : M} {p pos : Pos} (hg : Gl X "range") (hm : X.mg "range" = none) (n : notStar a = true) (h : SE X a m) : PI X tg (.Call (.Name "range" p) [a] [] pos) (tI X.K .rng (opsM [m])) :=
  PI.imp (pi_range1 hg hm (pa_ops (by simp [n]) (.cons h .nil)) (star_of n)) fun σ H R q => by
    obtain ⟨O, env, ps, env', ds, items, w, h1, h2, h3, q⟩ := q
    refine ⟨O, env, ps, env', w, h1, fun O' H' vs st w' r => ?_⟩
    obtain ⟨p, h4, rfl⟩ := ops_one h1
    obtain ⟨d, rfl⟩ := gets_one h2
    obtain ⟨v, rfl, rv⟩ := one_ps (RepOs.gets w' r h2)
    cases d with
    | int j =>
      simp only [itemsOf] at h3
      split at h3
      · rename_i c
        cases h3
        have e := rv.int
        subst e
        exact ⟨j, rfl, c.1.1, c.1.2, q O' H' _ _ st w' r (itd_rng (by have := c.2; omega))⟩
      · cases h3
    | _ => simp [itemsOf] at h3
theorem pi_rng2 {a b : Expr} {m m2 : M} {p pos : Pos} (hg : Gl X "range") (hm : X.mg "range" = none) (n : notStar a = true) (n2 : notStar b = true) (h : SE X a m) (h' : SE X b m2) : PI X tg (.Call (.Name "range" p) [a, b] [] pos) (tI X.K .rng (opsM [m, m2])) :=
  PI.imp (pi_range2 hg hm (pa_ops (by simp [n, n2]) (.cons h (.cons h' .nil))) (by rw [star_of n, star_of n2]; rfl) (star_of n2)) fun σ H R q => by
    obtain ⟨O, env, ps, env', ds, items, w, h1, h2, h3, q⟩ := q
    refine ⟨O, env, ps, env', w, h1, fun O' H' vs st w' r => ?_⟩
    obtain ⟨p, p2, rfl⟩ := ops_two h1
    obtain ⟨d, d2, rfl⟩ := gets_two h2
    obtain ⟨v, v2, rfl, rv, rv2⟩ := two_ps (RepOs.gets w' r h2)
    cases d with
    | int i =>
      cases d2 with
      | int j =>
        simp only [itemsOf] at h3
        split at h3
        · rename_i c
          cases h3
          have e := rv.int
          have e2 := rv2.int
          subst e e2
          exact ⟨i, j, rfl, ⟨c.1.1, c.1.2, c.2.1.1, c.2.1.2⟩, q O' H' _ _ st w' r (itd_rng (by have := c.2.2; omega))⟩
        · cases h3
      | _ => simp [itemsOf] at h3
    | _ => simp [itemsOf] at h3
theorem pi_enumL {e : Expr} {m : M} {p pos tpos : Pos} {elts : List Expr} {kk : Nat} (hg : Gl X "enumerate") (hm : X.mg "enumerate" = none) (n : notStar e = true) (h : SE X e m) : PI X (.Tuple elts kk tpos) (.Call (.Name "enumerate" p) [e] [] pos) (tI X.K .enum (opsM [m])) :=
  PI.imp (pi_enumA hg hm (pa_ops (by simp [n]) (.cons h .nil)) (star_of n)) fun σ H R q => by
    obtain ⟨O, env, ps, env', ds, items, w, h1, h2, h3, q⟩ := q
    refine ⟨O, env, ps, env', w, h1, fun O' H' vs st w' r => ?_⟩
    obtain ⟨p, h4, rfl⟩ := ops_one h1
    obtain ⟨d, rfl⟩ := gets_one h2
    obtain ⟨v, rfl, rv⟩ := one_ps (RepOs.gets w' r h2)
    cases d with
    | list xs =>
      cases h3
      obtain ⟨a, us, rfl, h5, h6⟩ := rv.list
      exact ⟨a, us, rfl, .inl ⟨SqL.of h5, q O' H' _ _ st w' r itd_enum⟩⟩
    | tuple xs =>
      cases h3
      obtain ⟨a, us, rfl, h5, h6⟩ := rv.tuple
      exact ⟨a, us, rfl, .inr ⟨h5, q O' H' _ _ st w' r itd_enumT⟩⟩
    | _ => simp [itemsOf] at h3
theorem pi_zipD {a b : Expr} {m m2 : M} {p pos tpos : Pos} {elts : List Expr} {kk : Nat} (hg : Gl X "zip") (hm : X.mg "zip" = none) (n : notStar a = true) (n2 : notStar b = true) (h : SE X a m) (h' : SE X b m2) : PI X (.Tuple elts kk tpos) (.Call (.Name "zip" p) [a, b] [] pos) (tI X.K .zip (opsM [m, m2])) :=
  PI.imp (pi_zipM hg hm (pa_ops (by simp [n, n2]) (.cons h (.cons h' .nil))) (star_of n) (by rw [star_of n2]; rfl)) fun σ H R q => by
    obtain ⟨O, env, ps, env', ds, items, w, h1, h2, h3, q⟩ := q
    refine ⟨O, env, ps, env', w, h1, fun O' H' vs st w' r => ?_⟩
    obtain ⟨p, p2, rfl⟩ := ops_two h1
    obtain ⟨d, d2, rfl⟩ := gets_two h2
    obtain ⟨v, v2, rfl, rv, rv2⟩ := two_ps (RepOs.gets w' r h2)
    obtain ⟨b1, b2, xs, ys, rfl, rfl, rfl⟩ := zip_mk h3
    obtain ⟨a, us, rfl, h5, h6⟩ := repP_sq rv
    obtain ⟨b, ws, rfl, h7, h8⟩ := repP_sq rv2
    exact ⟨a, b, us, ws, b1, b2, rfl, h5, h7, q O' H' _ _ st w' r itd_zipM⟩
theorem ops_three {m m2 m3 : M} {env env' : En} {ps : List Opd} (h : opsM [m, m2, m3] env = some (ps, env')) : ∃ p p2 p3, ps = [p, p2, p3] := by
  simp only [opsM, Option.bind_eq_some_iff, Option.map_eq_some_iff] at h
  grind
theorem gets_three {env : En} {p p2 p3 : Opd} {ds : List D} (h : gets env [p, p2, p3] = some ds) : ∃ d d2 d3, ds = [d, d2, d3] := by
  simp only [gets, Option.bind_eq_some_iff, Option.map_eq_some_iff] at h
  grind
theorem pi_zipD3 {a b c : Expr} {m m2 m3 : M} {p pos tpos : Pos} {elts : List Expr} {kk : Nat} (hg : Gl X "zip") (hm : X.mg "zip" = none) (n : notStar a = true) (n2 : notStar b = true) (n3 : notStar c = true) (h : SE X a m) (h' : SE X b m2) (h'' : SE X c m3) : PI X (.Tuple elts kk tpos) (.Call (.Name "zip" p) [a, b, c] [] pos) (tI X.K .zip (opsM [m, m2, m3])) :=
  PI.imp (pi_zipM3 hg hm (pa_ops (by simp [n, n2, n3]) (.cons h (.cons h' (.cons h'' .nil)))) (star_of n) (by rw [star_of n2, star_of n3]; rfl)) fun σ H R q => by
    obtain ⟨O, env, ps, env', ds, items, w, h1, h2, h3, q⟩ := q
    refine ⟨O, env, ps, env', w, h1, fun O' H' vs st w' r => ?_⟩
    obtain ⟨p, p2, p3, rfl⟩ := ops_three h1
    obtain ⟨d, d2, d3, rfl⟩ := gets_three h2
    obtain ⟨v, v2, v3, rfl, rv, rv2, rv3⟩ := three_ps (RepOs.gets w' r h2)
    obtain ⟨b1, b2, b3, xs, ys, zs, rfl, rfl, rfl, rfl⟩ := zip_mk3 h3
    obtain ⟨a, us, rfl, h5, h6⟩ := repP_sq rv
    obtain ⟨b, ws, rfl, h7, h8⟩ := repP_sq rv2
    obtain ⟨c, ts, rfl, h9, h10⟩ := repP_sq rv3
    exact ⟨a, b, c, us, ws, ts, b1, b2, b3, rfl, h5, h7, h9, q O' H' _ _ st w' r itd_zipM3⟩
theorem pi_rev1 {a : Expr} {m : M} {p pos : Pos} (hg : Gl X "reversed") (hm : X.mg "reversed" = none) (n : notStar a = true) (h : SE X a m) : PI X tg (.Call (.Name "reversed" p) [a] [] pos) (tI X.K .rev (opsM [m])) :=
  PI.imp (pi_reversed hg hm (pa_ops (by simp [n]) (.cons h .nil)) (star_of n)) fun σ H R q => by
    obtain ⟨O, env, ps, env', ds, items, w, h1, h2, h3, q⟩ := q
    refine ⟨O, env, ps, env', w, h1, fun O' H' vs st w' r => ?_⟩
    obtain ⟨p, h4, rfl⟩ := ops_one h1
    obtain ⟨d, rfl⟩ := gets_one h2
    obtain ⟨v, rfl, rv⟩ := one_ps (RepOs.gets w' r h2)
    cases d with
    | list xs =>
      cases h3
      obtain ⟨a, us, rfl, h5, h6⟩ := rv.list
      refine ⟨a, us, rfl, SqL.of h5, q O' H' _ _ st w' r ?_⟩
      rw [← h6.length]
      exact itd_rev
    | _ => simp [itemsOf] at h3
/-- with the line told -/
theorem PI.line {e : Expr} {t : TI} (h : PI X tg e t) : PI X tg e (fun σ H R => t σ H fun J H1 => Line X.K H1 → R J H1) := ⟨fun pins s σ H R I q => thn (h.run pins s σ H _ I q) fun v s1 h1 => thn h1 fun itv s2 h2 => by
  obtain ⟨it, fp, tn, J, H', e, I2, T, t0, fpo, r⟩ := h2
  exact ⟨it, fp, tn, J, H', e, I2, T, t0, fpo, r (line_of I2)⟩⟩
end
end Mini

namespace Mini
open PySem PySem.Spec L2
section
variable {K : PySem.W.Frag} {O O' : Own} {H H' : Hp} {env env2 : En} {σ : St}
theorem Step.add {F F' G : Own} (a : Step O H F O' H' F') : Step O H (fun b => F b ∨ G b) O' H' (fun b => F' b ∨ G b) :=
  ⟨a.evo, a.own, fun b e n => a.keepO b e fun z => n (.inl z), fun b f => f.elim (fun f => (a.fps b f).imp .inl id) fun g => .inl (.inr g)⟩
/-- a slot told a frozen value -/
theorem W.setV {i : Nat} {d : D} {v : V} (w : W K O H env σ) (es : σ[i]? = some (some v)) (r : RepD K O H d v) : W K O H (env.set i (.v d)) σ ∧ ∀ b, FpE H (env.set i (.v d)) σ b → FpE H env σ b := by
  have get : ∀ (j : Nat) (u : Sl), (env.set i (.v d))[j]? = some u → (j = i ∧ u = .v d) ∨ (j ≠ i ∧ env[j]? = some u) := fun j u z => by
    by_cases hj : j = i
    · subst hj
      by_cases hl : j < env.length
      · rw [List.getElem?_set_self hl] at z; exact .inl ⟨rfl, (Option.some.inj z).symm⟩
      · rw [List.getElem?_eq_none (by simpa using hl)] at z; cases z
    · rw [List.getElem?_set_ne (Ne.symm hj)] at z; exact .inr ⟨hj, z⟩
  refine ⟨⟨w.own, by rw [List.length_set]; exact w.len, fun j u z => ?_, fun j k u y x z b n e1 e2 e3 e4 f1 f2 => ?_⟩, fun b ⟨j, u, x, e1, e2, f⟩ => ?_⟩
  · rcases get j u z with ⟨rfl, rfl⟩ | ⟨n, z⟩
    · exact .inr ⟨v, es, r⟩
    · exact w.rep j u z
  · rcases get j u e1 with ⟨rfl, rfl⟩ | ⟨n1, q1⟩
    · exact f1
    · rcases get k y e2 with ⟨rfl, rfl⟩ | ⟨n2, q2⟩
      · exact f2
      · exact w.sep j k u y x z b n q1 q2 e3 e4 f1 f2
  · rcases get j u e1 with ⟨rfl, rfl⟩ | ⟨n, q⟩
    · exact f.elim
    · exact ⟨j, u, x, q, e2, f⟩
theorem W.rest {e1 : En} (h : ∀ (i : Nat) (d : D), e1[i]? = some (.v d) → ∃ v, σ[i]? = some (some v) ∧ RepD K O H d v) {e2 : En} (w : W K O H e2 σ) : ∀ (own : List Nat), W K O H (restE e1 e2 own) σ ∧ ∀ b, FpE H (restE e1 e2 own) σ b → FpE H e2 σ b
  | [] => ⟨w, fun _ f => f⟩
  | i :: r => by
    obtain ⟨w1, k1⟩ := W.rest h w r
    unfold restE
    split
    · rename_i d hd
      obtain ⟨v, es, rd⟩ := h i d hd
      obtain ⟨w2, k2⟩ := w1.setV es rd
      exact ⟨w2, fun b f => k1 b (k2 b f)⟩
    · exact ⟨w1, k1⟩
/-- an item appended to the list beside -/
theorem WR.app {acc : List D} {a : Addr} {d : D} {v : V} (w : WR K O H env σ (.l acc) (.ref a)) (rd : RepD K O H d v) : ∃ us, H a = some (.lst us) ∧ us.length = acc.length ∧ WR K O (upd H a (.lst (us ++ [v]))) env σ (.l (acc ++ [d])) (.ref a) ∧
    Step O H (FpR H env σ (.l acc) (.ref a)) O (upd H a (.lst (us ++ [v]))) (FpR (upd H a (.lst (us ++ [v]))) env σ (.l (acc ++ [d])) (.ref a)) := by
  obtain ⟨a', us, z, h1, h2, h3⟩ := w.val
  cases z
  have ne : ∀ b, FpE H env σ b → b ≠ a := fun b f z => w.sep a rfl (z ▸ f)
  have ev : Evo O H O (upd H a (.lst (us ++ [v]))) := ⟨w.w.own, fun b o q n => by rw [upd_ne (fun z => n (by rw [z]; exact h2))]; exact q, fun b z => .inl z, fun b z => by
    by_cases hb : b = a
    · rw [hb, upd_same]; exact Option.some_ne_none _
    · rw [upd_ne hb]; exact z⟩
  have own' : OwnOk O (upd H a (.lst (us ++ [v]))) := fun b z => by
    by_cases hb : b = a
    · rw [hb]; exact ⟨_, upd_same⟩
    · rw [upd_ne hb]; exact w.w.own b z
  have st1 : Step O H (fun b => b = a) O (upd H a (.lst (us ++ [v]))) (fun b => b = a) := ⟨ev, own', fun b z n => ⟨z, upd_ne n⟩, fun b f => .inl f⟩
  have kp : ∀ (i : Nat) (s : Sl) (u : V), env[i]? = some s → σ[i]? = some (some u) → s = .no ∨ (RepS K O (upd H a (.lst (us ++ [v]))) s u ∧ ∀ b, Fp (upd H a (.lst (us ++ [v]))) s u b → Fp H s u b) := fun i s u e1 e2 => by
    rcases w.w.rep i s e1 with z | ⟨u', q1, q2⟩
    · exact .inl z
    · rw [e2] at q1; cases q1
      exact .inr (RepS.keep st1 q2 fun b f z => ne b ⟨i, s, u, e1, e2, f⟩ z)
  have fb : ∀ (i : Nat) (s : Sl) (u : V) (b : Addr), env[i]? = some s → σ[i]? = some (some u) → Fp (upd H a (.lst (us ++ [v]))) s u b → Fp H s u b := fun i s u b e1 e2 f => by
    rcases kp i s u e1 e2 with rfl | z
    · exact f.elim
    · exact z.2 b f
  have w' : W K O (upd H a (.lst (us ++ [v]))) env σ := ⟨own', w.w.len, fun i s e => by
      rcases w.w.rep i s e with z | ⟨u, q1, q2⟩
      · exact .inl z
      · rcases kp i s u e q1 with z | z
        · exact .inl z
        · exact .inr ⟨u, q1, z.1⟩, fun i j s t u x b n e1 e2 e3 e4 f1 f2 => w.w.sep i j s t u x b n e1 e2 e3 e4 (fb i s u b e1 e3 f1) (fb j t x b e2 e4 f2)⟩
  have fe : ∀ b, FpE (upd H a (.lst (us ++ [v]))) env σ b → FpE H env σ b := fun b ⟨i, s, u, e1, e2, f⟩ => ⟨i, s, u, e1, e2, fb i s u b e1 e2 f⟩
  refine ⟨us, h1, h3.length.symm, ⟨w', ⟨a, us ++ [v], rfl, upd_same, h2, (RepDs.evo ev _ _ h3).append (by simp only [RepDs]; exact ⟨v, [], rfl, RepD.evo ev _ _ rd, rfl⟩)⟩, fun b f g => w.sep b f (fe b g)⟩, ?_⟩
  refine ⟨ev, own', fun b z n => st1.keepO b z fun q => n (.inr (by rw [q]; rfl)), fun b f => ?_⟩
  rcases f with f | f
  · exact .inl (.inl (fe b f))
  · exact .inl (.inr f)
theorem still_gets {e0 e1 : En} : ∀ {ps : List Opd}, stillB e0 e1 ps → gets e1 ps = gets e0 ps
  | [], _ => rfl
  | .d x :: r, h => by
    have ih := still_gets (ps := r) h
    show ((Opd.d x).get e1).bind (fun d => (gets e1 r).map (d :: ·)) = ((Opd.d x).get e0).bind (fun d => (gets e0 r).map (d :: ·))
    rw [ih]; rfl
  | .s i :: r, h => by
    have h : e1[i]? = e0[i]? ∧ stillB e0 e1 r := h
    have ih := still_gets (ps := r) h.2
    show ((Opd.s i).get e1).bind (fun d => (gets e1 r).map (d :: ·)) = ((Opd.s i).get e0).bind (fun d => (gets e0 r).map (d :: ·))
    rw [ih]
    simp only [Opd.get, h.1]
/-- THE COMPREHENSION -/
theorem te_lc {t : T} {k : IK} {its cond : List M} {elt : M} {own : List Nat} (sl : ∀ i ∈ t.slots, i ∈ own) {Q : VK} (q : tE K (lcM t k its cond elt own).val σ H Q) :
    tLc (fun σ H R => tI K k (opsM its) σ H fun J H1 => Line K H1 → R J H1) (gT K t) (tT K (condM cond)) (tD K (frzM elt.val)) own σ H Q := by
  obtain ⟨O, env, s, envF, w, h, q⟩ := q
  simp only [lcM, M.ofVal, Option.bind_eq_some_iff] at h
  obtain ⟨⟨ps, e1⟩, h1, ds, h2, items, h3, h4⟩ := h
  split at h4
  case isFalse => cases h4
  rename_i hst
  simp only [Option.map_eq_some_iff] at h4
  obtain ⟨⟨r, e2⟩, h5, h6⟩ := h4
  cases h6
  refine ⟨O, env, ps, e1, ds, items, w, h1, h2, h3, fun O1 H1 J vs st1 w1 rp jo line D hD => ?_⟩
  have hlen : items.length ≤ sizeLine := jo.len O1 H1 w1.own (RepOs.gets w1 rp h2) line
  -- the state between two turns
  let Wt : Nat → Nat → Hp → Prop := fun i m H => m = items.length - i ∧ i ≤ items.length ∧ ∃ O en acc r2, WR K O H en (wipe σ own) (.l acc) (.ref D) ∧ NoAt en own ∧ lcLoop t cond elt own ps e1 (items.drop i) en = some (r2, e2) ∧ r = acc ++ r2 ∧ acc.length ≤ i ∧
    stillB e1 en ps ∧ Step O1 H1 (FpE H1 e1 σ) O H (FpR H en (wipe σ own) (.l acc) (.ref D))
  have start : Wt 0 items.length (upd H1 D (.lst [])) := by
    refine ⟨by simp, Nat.zero_le _, ?_⟩
    obtain ⟨wa, ka⟩ := w1.wipeE own
    obtain ⟨wb, kb⟩ := wa.toWipe (NoAt.wipe e1 own)
    have nw := OwnOk.new (o := .lst []) w1.own hD
    have st : Step O1 H1 F0 (fun b => O1 b ∨ b = D) (upd H1 D (.lst [])) (fun b => Fp (upd H1 D (.lst [])) (.l []) (.ref D) b) := by
      refine ⟨⟨w1.own, nw.evo.keepH, fun b e => ?_, nw.evo.there⟩, fun b e => ?_, fun b e f => ⟨.inl e, (nw.keepO b e f).2⟩, fun b e => ?_⟩
      · rcases e with e | rfl
        · exact .inl e
        · exact .inr hD
      · rcases e with e | rfl
        · exact nw.own b e
        · exact ⟨[], upd_same⟩
      · cases e; exact .inr hD
    obtain ⟨wc, kc⟩ := wb.keep st
    refine ⟨fun b => O1 b ∨ b = D, wipeE e1 own, [], r, ⟨wc, ⟨D, [], rfl, upd_same, .inr rfl, rfl⟩, fun b f g => ?_⟩, NoAt.wipe e1 own, by simpa using h5, rfl, Nat.le_refl _, hst, ⟨st.evo, st.own, fun b e n => st.keepO b e id, fun b f => ?_⟩⟩
    · cases f
      obtain ⟨xs, e⟩ := wb.own D (wb.fpOwn (kc D g))
      rw [hD] at e; cases e
    · rcases f with f | f
      · exact .inl (ka b (kb b (kc b f)))
      · cases f; exact .inr hD
  refine ⟨Wt, ⟨_, start⟩, ?_⟩
  rintro i m H2 ⟨rfl, hi, O2, en, acc, r2, wr, na, hl, hr, hacc, still, st⟩
  obtain ⟨wS, kS⟩ := wr.w.ofWipe na
  have rps : RepPs K O2 H2 ds vs := RepOs.gets wS (RepOs.evo st.evo rp) ((still_gets still).trans h2)
  by_cases hlt : i < items.length
  · refine .inr ?_
    obtain ⟨d, hd⟩ : ∃ d, items[i]? = some d := ⟨items[i], List.getElem?_eq_getElem hlt⟩
    have hdr : items.drop i = d :: items.drop (i + 1) := by
      rw [List.drop_eq_getElem_cons hlt]
      rw [List.getElem?_eq_getElem hlt] at hd; cases hd; rfl
    rw [hdr] at hl
    simp only [lcLoop, Option.bind_eq_some_iff] at hl
    obtain ⟨en1, hasg, ⟨b, en2⟩, hcond, hrest⟩ := hl
    refine ⟨jo.go i O2 H2 d wr.w.own rps hd, Wt (i + 1) (items.length - (i + 1)), fun H' w' => ⟨_, by omega, w'⟩, fun x H3 y => ?_⟩
    obtain ⟨sty, rdx⟩ := jo.yld i O2 H2 d x H3 wr.w.own rps hd y
    obtain ⟨wy, ky⟩ := wr.w.keep sty
    have sty' : Step O2 H2 (FpE H2 en (wipe σ own)) O2 H3 (FpE H3 en (wipe σ own)) := ⟨sty.evo, sty.own, fun b e _ => sty.keepO b e id, fun b f => .inl (ky b f)⟩
    have wry := wr.keep sty' wy
    refine ⟨O2, en, d, en1, wy, rdx, hasg, fun σ2 w2 k2 on2 => ?_⟩
    have hw2 : wipe σ2 own = wipe σ own := by
      have := on2.wipe (own := own) (fun i hi => sl i hi)
      rw [this]
      apply List.ext_getElem?
      intro j
      by_cases hj : j ∈ own
      · have key : ∀ (τ : St) (ow : List Nat), j ∈ ow → (L2.wipe τ ow)[j]? = if j < τ.length then some none else none := by
          intro τ ow
          induction ow with
          | nil => intro h; simp at h
          | cons v vs ih =>
            intro h
            unfold L2.wipe
            by_cases hv : v = j
            · subst hv
              rw [List.getElem?_set]
              simp only [if_pos, wipe_length]
            · rw [List.getElem?_set_ne hv]
              exact ih (by rcases List.mem_cons.mp h with e | e; exact absurd e.symm hv; exact e)
        rw [key _ own hj, key _ own hj, wipe_length]
      · rw [wipe_get hj]
    refine ⟨hw2, O2, en1, b, en2, w2, hcond, fun O4 H4 st4 w4 => ?_⟩
    -- the list beside, so far
    have wr2 : WR K O2 H3 en1 σ2 (.l acc) (.ref D) := ⟨w2, wry.val, fun b f g => wry.sep b f (k2 b g)⟩
    have wr4 := wr2.keep st4 w4
    have toS : ∀ {O5 : Own} {H5 : Hp} {e5 : En}, Step O2 H3 (FpE H3 en1 σ2) O5 H5 (FpE H5 e5 σ2) → Step O1 H1 (FpE H1 e1 σ) O5 H5 (FpR H5 e5 σ2 (.l acc) (.ref D)) := fun {O5 H5 e5} s5 => by
      have a1 : Step O2 H2 (FpE H2 en (wipe σ own)) O5 H5 (FpE H5 e5 σ2) := sty'.trans s5 k2
      have a2 := a1.add (G := fun b => Fp H2 (.l acc) (.ref D) b)
      exact st.trans a2 fun b f => f
    -- the turn's end at e5
    have fin : ∀ {O5 : Own} {H5 : Hp} {e5 : En} {acc' : List Mini.D} {r' : List Mini.D}, WR K O5 H5 e5 σ2 (.l acc') (.ref D) → Step O1 H1 (FpE H1 e1 σ) O5 H5 (FpR H5 e5 σ2 (.l acc') (.ref D)) → acc'.length ≤ i + 1 → r = acc' ++ r' → stillB e1 (wipeE e5 own) ps →
        lcLoop t cond elt own ps e1 (items.drop (i + 1)) (wipeE e5 own) = some (r', e2) → Wt (i + 1) (items.length - (i + 1)) H5 := fun {O5 H5 e5 acc' r'} w5 s5 hl5 hr5 hs5 hlp => by
      obtain ⟨wa, ka⟩ := w5.w.wipeE own
      obtain ⟨wb, kb⟩ := wa.toWipe (NoAt.wipe e5 own)
      rw [hw2] at wb kb
      exact ⟨rfl, hlt, O5, wipeE e5 own, acc', r', ⟨wb, w5.val, fun b f g => w5.sep b f (ka b (kb b g))⟩, NoAt.wipe e5 own, hlp, hr5, hl5, hs5, s5.sub fun b f => f.imp (fun f => ka b (kb b f)) id⟩
    cases b with
    | true =>
      rw [if_pos rfl] at hrest
      simp only [Option.bind_eq_some_iff] at hrest
      obtain ⟨⟨d', en3⟩, helt, hrest⟩ := hrest
      split at hrest
      case isFalse => cases hrest
      rename_i hs3
      simp only [Option.map_eq_some_iff] at hrest
      obtain ⟨⟨r3, e6⟩, hlp, h7⟩ := hrest
      cases h7
      refine iteT ?_
      refine ⟨O4, en2, d', en3, w4, helt, fun O5 H5 v5 st5 w5 rd5 => ?_⟩
      have wr5 := wr4.keep st5 w5
      have s5 := toS (st4.trans st5 fun _ z => z)
      obtain ⟨us, hus, hlen5, wr6, s6⟩ := wr5.app rd5
      refine ⟨us, hus, by omega, fin wr6 (s5.trans s6 fun _ z => z) (by simp; omega) (by rw [hr]; simp) hs3 hlp⟩
    | false =>
      rw [if_neg Bool.false_ne_true] at hrest
      split at hrest
      case isFalse => cases hrest
      rename_i hs3
      refine iteF ?_
      exact fin wr4 (toS st4) (by omega) hr hs3 hrest
  · have e : i = items.length := by omega
    subst e
    rw [List.drop_length] at hl
    cases hl
    rw [List.append_nil] at hr
    subst hr
    refine .inl ⟨jo.stop O2 H2 wr.w.own rps, ?_⟩
    have back : ∀ (i : Nat) (d : Mini.D), e1[i]? = some (.v d) → ∃ v, σ[i]? = some (some v) ∧ RepD K O2 H2 d v := fun i d e => by
      rcases w1.rep i _ e with z | ⟨v, g1, g2⟩
      · cases z
      · exact ⟨v, g1, RepD.evo st.evo _ _ g2⟩
    obtain ⟨wF, kF⟩ := W.rest back wS own
    refine q O2 H2 (.ref D) ((st1.trans st fun _ z => z).sub fun b f => f.imp (fun f => kS b (kF b f)) id) ⟨wF, wr.val, fun b f g => wr.sep b f (kS b (kF b g))⟩
end
end Mini

namespace Mini
open PySem PySem.Spec L2
/-- the fixed slots keep their values -/
def Kp (fz : List Nat) (σ σ' : St) : Prop := ∀ i ∈ fz, σ'[i]? = σ[i]?
theorem Kp.refl {fz : List Nat} {σ : St} : Kp fz σ σ := fun _ _ => rfl
theorem Kp.trans {fz : List Nat} {σ σ1 σ2 : St} (a : Kp fz σ σ1) (b : Kp fz σ1 σ2) : Kp fz σ σ2 := fun i h => (b i h).trans (a i h)
theorem Kp.only {fz sl : List Nat} {σ σ2 : St} (o : OnlyAt σ σ2 sl) (h : ∀ i ∈ fz, i ∉ sl) : Kp fz σ σ2 := fun i hi => o.2 i (h i hi)
/-- what is wanted of an outcome -/
def OutK (K : PySem.W.Frag) (fz : List Nat) (O : Own) (H : Hp) (env : En) (σ : St) (D : Ends) : Out → Prop
  | .nx e' => ∀ O' H' σ', Step O H (FpE H env σ) O' H' (FpE H' e' σ') → W K O' H' e' σ' → Kp fz σ σ' → D.nx σ' H'
  | .rt s e' => ∀ O' H' σ' v, Step O H (FpE H env σ) O' H' (FpR H' e' σ' s v) → WR K O' H' e' σ' s v → Kp fz σ σ' → D.rt v H'
  | .bk e' => ∀ O' H' σ', Step O H (FpE H env σ) O' H' (FpE H' e' σ') → W K O' H' e' σ' → Kp fz σ σ' → D.bk σ' H'
  | .ct e' => ∀ O' H' σ', Step O H (FpE H env σ) O' H' (FpE H' e' σ') → W K O' H' e' σ' → Kp fz σ σ' → D.ct σ' H'
def tS (K : PySem.W.Frag) (fz : List Nat) (f : En → Option Out) : TS := fun D σ H => ∃ O env out, W K O H env σ ∧ f env = some out ∧ OutK K fz O H env σ D out
section
variable {K : PySem.W.Frag} {fz : List Nat} {O O' : Own} {H H' : Hp} {env env2 : En} {σ σ2 : St} {D : Ends}
/-- an outcome's wish, from a later state -/
theorem OutK.later {out : Out} (k : OutK K fz O H env σ D out) (st : Step O H (FpE H env σ) O' H' (FpE H' env2 σ2)) (kp : Kp fz σ σ2) : OutK K fz O' H' env2 σ2 D out := by
  cases out with
  | nx e' => exact fun O3 H3 σ3 s w q => k O3 H3 σ3 (st.trans s fun _ z => z) w (kp.trans q)
  | rt r e' => exact fun O3 H3 σ3 v s w q => k O3 H3 σ3 v (st.trans s fun _ z => z) w (kp.trans q)
  | bk e' => exact fun O3 H3 σ3 s w q => k O3 H3 σ3 (st.trans s fun _ z => z) w (kp.trans q)
  | ct e' => exact fun O3 H3 σ3 s w q => k O3 H3 σ3 (st.trans s fun _ z => z) w (kp.trans q)
end
section
variable {X : Cx} {fz : List Nat} {pos : Pos}
theorem OutK.mono {K : PySem.W.Frag} {O : Own} {H : Hp} {env : En} {σ : St} {D D' : Ends} {out : Out} (k : OutK K fz O H env σ D out) (hn : ∀ e', out = .nx e' → ∀ O' H' σ', Step O H (FpE H env σ) O' H' (FpE H' e' σ') → W K O' H' e' σ' → Kp fz σ σ' → D.nx σ' H' → D'.nx σ' H')
    (hr : ∀ v H', D.rt v H' → D'.rt v H') (hb : ∀ σ' H', D.bk σ' H' → D'.bk σ' H') (hc : ∀ σ' H', D.ct σ' H' → D'.ct σ' H') : OutK K fz O H env σ D' out := by
  cases out with
  | nx e' => exact fun O3 H3 σ3 s w q => hn e' rfl O3 H3 σ3 s w q (k O3 H3 σ3 s w q)
  | rt r e' => exact fun O3 H3 σ3 v s w q => hr _ _ (k O3 H3 σ3 v s w q)
  | bk e' => exact fun O3 H3 σ3 s w q => hb _ _ (k O3 H3 σ3 s w q)
  | ct e' => exact fun O3 H3 σ3 s w q => hc _ _ (k O3 H3 σ3 s w q)
/-- a statement, a block, by its evaluator -/
structure SS (X : Cx) (fz : List Nat) (st : Stmt) (f : En → Option Out) : Prop where
  run : PS X st (tS X.K fz f)
structure SB (X : Cx) (fz : List Nat) (st : List Stmt) (f : En → Option Out) : Prop where
  run : PSs X st (tS X.K fz f)
def seqO (f g : En → Option Out) (env : En) : Option Out := (f env).bind fun r => match r with
    | .nx e1 => g e1
    | .rt s e1 => some (.rt s e1)
    | .bk e1 => some (.bk e1)
    | .ct e1 => some (.ct e1)
theorem sb_nil : SB X fz [] (fun env => some (.nx env)) := ⟨pss_nil.imp fun D σ H q => by
  obtain ⟨O, env, out, w, e, k⟩ := q
  cases e
  exact k O H σ (Step.refl w.own) w .refl⟩
theorem sb_cons {st : Stmt} {rest : List Stmt} {f g : En → Option Out} (h1 : SS X fz st f) (h2 : SB X fz rest g) : SB X fz (st :: rest) (seqO f g) := ⟨(pss_cons h1.run h2.run).imp fun D σ H q => by
  obtain ⟨O, env, out, w, e, k⟩ := q
  simp only [seqO, Option.bind_eq_some_iff] at e
  obtain ⟨r, h3, h4⟩ := e
  refine ⟨O, env, r, w, h3, ?_⟩
  cases r with
  | nx e1 => exact fun O' H' σ' st w' kp => ⟨O', e1, out, w', h4, k.later st kp⟩
  | rt s e1 => cases h4; exact k
  | bk e1 => cases h4; exact k
  | ct e1 => cases h4; exact k⟩
/-! small statements -/
def expO (f : En → Option (Sl × En)) (env : En) : Option Out := (f env).map fun (_, e1) => .nx e1
def retO (f : En → Option (Sl × En)) (env : En) : Option Out := (f env).map fun (s, e1) => .rt s e1
theorem ss_expr {e : Expr} {f : En → Option (Sl × En)} (he : PE X e (tE X.K f)) (hs : swapsWith e none pos.line X.env = pure false) : SS X fz (.Expr e pos) (expO f) := ⟨(ps_expr he hs).imp fun D σ H q => by
  obtain ⟨O, env, out, w, e, k⟩ := q
  simp only [expO, Option.map_eq_some_iff] at e
  obtain ⟨⟨s, e1⟩, h1, h2⟩ := e
  cases h2
  exact ⟨O, env, s, e1, w, h1, fun O' H' v st wr => k O' H' σ (st.sub fun b f => .inl f) wr.w .refl⟩⟩
theorem ss_ret {e : Expr} {f : En → Option (Sl × En)} (he : PE X e (tE X.K f)) : SS X fz (.Return (some e) pos) (retO f) := ⟨(ps_ret he).imp fun D σ H q => by
  obtain ⟨O, env, out, w, e, k⟩ := q
  simp only [retO, Option.map_eq_some_iff] at e
  obtain ⟨⟨s, e1⟩, h1, h2⟩ := e
  cases h2
  exact ⟨O, env, s, e1, w, h1, fun O' H' v st wr => k O' H' σ v st wr .refl⟩⟩
theorem ss_pass : SS X fz (.Pass pos) (fun env => some (.nx env)) := ⟨ps_pass.imp fun D σ H q => by
  obtain ⟨O, env, out, w, e, k⟩ := q
  cases e
  exact k O H σ (Step.refl w.own) w .refl⟩
theorem ss_brk : SS X fz (.Break pos) (fun env => some (.bk env)) := ⟨ps_break.imp fun D σ H q => by
  obtain ⟨O, env, out, w, e, k⟩ := q
  cases e
  exact k O H σ (Step.refl w.own) w .refl⟩
theorem ss_cont : SS X fz (.Continue pos) (fun env => some (.ct env)) := ⟨ps_continue.imp fun D σ H q => by
  obtain ⟨O, env, out, w, e, k⟩ := q
  cases e
  exact k O H σ (Step.refl w.own) w .refl⟩
theorem ss_never {st : Stmt} : SS X fz st (fun _ => none) := ⟨ps_never.imp fun D σ H q => by
  obtain ⟨O, env, out, w, e, k⟩ := q
  cases e⟩
def ifO (c : En → Option (Bool × En)) (a b : En → Option Out) (env : En) : Option Out := (c env).bind fun (k, e1) => if k then a e1 else b e1
theorem ss_if {c : Expr} {a b : List Stmt} {mc : M} {fa fb : En → Option Out} (hc : SE X c mc) (ha : SB X fz a fa) (hb : SB X fz b fb) : SS X fz (.If c a b pos) (ifO mc.tst fa fb) := ⟨(ps_if hc.tst ha.run hb.run).imp fun D σ H q => by
  obtain ⟨O, env, out, w, e, k⟩ := q
  simp only [ifO, Option.bind_eq_some_iff] at e
  obtain ⟨⟨b1, e1⟩, h1, h2⟩ := e
  refine ⟨O, env, b1, e1, w, h1, fun O' H' st w' => ?_⟩
  cases b1 with
  | true => exact ⟨O', e1, out, w', h2, k.later st .refl⟩
  | false => exact ⟨O', e1, out, w', h2, k.later st .refl⟩⟩
/-! assignments -/
def asgO (i : Nat) (f : En → Option (Sl × En)) (env : En) : Option Out := (f env).bind fun (s, e1) => (setS i s e1).map .nx
def unpO (t : T) (f : En → Option (Sl × En)) (env : En) : Option Out := (frzM f env).bind fun (d, e1) => (asgT t d e1).map .nx
theorem asg_end {K : PySem.W.Frag} {i : Nat} {f : En → Option (Sl × En)} (hz : i ∉ fz) {D : Ends} {σ : St} {H : Hp} (q : tS K fz (asgO i f) D σ H) : tE K f σ H fun x H1 => gName i x σ H1 D.nx := by
  obtain ⟨O, env, out, w, e, k⟩ := q
  simp only [asgO, Option.bind_eq_some_iff, Option.map_eq_some_iff] at e
  obtain ⟨⟨s, e1⟩, h1, e2, h2, h3⟩ := e
  cases h3
  refine ⟨O, env, s, e1, w, h1, fun O' H' v st wr => ?_⟩
  obtain ⟨o, g1, g2, rfl⟩ := setS_some h2
  obtain ⟨w2, k2⟩ := wr.store g1 g2
  exact k O' H' _ (st.sub fun b f => k2 b f) w2 fun j hj => List.getElem?_set_ne fun z => hz (by rw [z]; exact hj)
theorem ss_set {i : Nat} {x : Str} {e : Expr} {f : En → Option (Sl × En)} {pos' : Pos} (hz : i ∉ fz) (hN : X.N.Nodup) (hi : X.N[i]? = some x) (hx : Loc X.env.scope x) (he : PE X e (tE X.K f)) (hs : swapsWith e (some (.Name x pos')) pos.line X.env = pure false)
    (hf : X.fn x = true ∨ X.env.scope.names.lookup x = some .local) : SS X fz (.Assign [.Name x pos'] e pos) (asgO i f) := ⟨(ps_set hN hi hx he hs hf).imp fun D σ H q => asg_end hz q⟩
theorem ss_unp {tg e : Expr} {t : T} {f : En → Option (Sl × En)} (hz : ∀ i ∈ fz, i ∉ t.slots) (he : PE X e (tE X.K f)) (hg : PG X tg (gT X.K t)) (hs : swapsWithSole [tg] e pos.line X.env = pure false) (hw : swappedStores [tg] e X.env = pure none)
    (h1 : (assignEach [tg] X.env).map (·.2) = [assign tg X.env]) : SS X fz (.Assign [tg] e pos) (unpO t f) := ⟨(ps_asg (pe_frz he) hg hs hw h1).imp fun D σ H q => by
  obtain ⟨O, env, out, w, e, k⟩ := q
  simp only [unpO, Option.bind_eq_some_iff, Option.map_eq_some_iff] at e
  obtain ⟨⟨d, e1⟩, h1, e2, h2, h3⟩ := e
  cases h3
  refine ⟨O, env, d, e1, w, h1, fun O' H' v st w' rd => ⟨O', e1, d, e2, w', rd, h2, fun σ2 w2 k2 on => ?_⟩⟩
  exact k O' H' σ2 (st.sub k2) w2 (Kp.only on hz)⟩
/-- a, b = x, y -/
theorem ss_par {i j : Nat} {x y : Str} {a b : Expr} {ma mb : M} {px py pt : Pos} {kt k2 : Nat} {pt2 : Pos} (hz : ∀ l ∈ fz, l ≠ i ∧ l ≠ j) (hc : X.calm = true) (hN : X.N.Nodup) (hi : X.N[i]? = some x) (hj : X.N[j]? = some y) (hij : i ≠ j)
    (hx : X.env.scope.names.lookup x = some .local) (hy : X.env.scope.names.lookup y = some .local) (na : notStar a = true) (nb : notStar b = true) (ha : SE X a ma) (hb : SE X b mb)
    (hw : swappedStores [.Tuple [.Name x px, .Name y py] kt pt] (.Tuple [a, b] k2 pt2) X.env = pure (some [x, y])) (hs : swapsWithSole [.Tuple [.Name x px, .Name y py] kt pt] (.Tuple [a, b] k2 pt2) pos.line X.env = pure false) :
    SS X fz (.Assign [.Tuple [.Name x px, .Name y py] kt pt] (.Tuple [a, b] k2 pt2) pos) (unpO (.tp [.nm i, .nm j]) (tupM [ma, mb]).val) := ⟨(L2.ps_par hc hN hi hj hij hx hy (pa_args (by simp [na, nb]) (.cons ha (.cons hb .nil))) hw hs).imp fun D σ H q => by
  obtain ⟨O, env, out, w, e, k⟩ := q
  simp only [unpO, frzM, tupM, M.ofVal, Option.bind_eq_some_iff, Option.map_eq_some_iff] at e
  obtain ⟨⟨d, e1⟩, ⟨⟨s, e3⟩, ⟨⟨ds, e4⟩, h1, h2⟩, d', h4, h5⟩, e2, h6, h7⟩ := e
  cases h7
  split at h2
  case isFalse => cases h2
  have h2' := Option.some.inj h2
  have h5' := h5
  injection h2' with i1 i2
  injection h5' with i3 i4
  subst i1 i2 i3 i4
  have h4' : some (PyData.tuple ds) = some d' := h4
  injection h4' with i5
  subst i5
  refine ⟨O, env, ds, e4, w, h1, fun O' H' vs st w' rd => ?_⟩
  have h6 : asgTs [.nm i, .nm j] ds e4 = some e2 := by simpa only [asgT] using h6
  match ds, h6, rd with
  | [], h6, _ => cases h6
  | [_], h6, _ =>
    simp only [asgTs, Option.bind_eq_some_iff] at h6
    obtain ⟨_, _, z⟩ := h6
    cases z
  | [d1, d2], h6, rd =>
    simp only [asgTs, asgT, Option.bind_eq_some_iff] at h6
    obtain ⟨f1, g1, f2, g2, g3⟩ := h6
    cases g3
    simp only [RepDs] at rd
    obtain ⟨v, r, rfl, r1, v2, r', rfl, r2, rfl⟩ := rd
    refine ⟨v, v2, rfl, ?_⟩
    obtain ⟨o, c1, c2, rfl⟩ := setS_some g1
    obtain ⟨o', c3, c4, rfl⟩ := setS_some g2
    have wr1 : WR X.K O' H' e4 σ (.v d1) v := ⟨w', r1, fun b f => f.elim⟩
    obtain ⟨w1, k1⟩ := wr1.store c1 c2
    have wr2 : WR X.K O' H' (e4.set i (.v d1)) (σ.set i (some v)) (.v d2) v2 := ⟨w1, r2, fun b f => f.elim⟩
    obtain ⟨w2, k2⟩ := wr2.store c3 c4
    refine k O' H' _ (st.sub fun b f => (k2 b f).elim (fun f => (k1 b f).elim id fun z => z.elim) fun z => z.elim) w2 fun l hl => ?_
    obtain ⟨n1, n2⟩ := hz l hl
    rw [List.getElem?_set_ne (Ne.symm n2), List.getElem?_set_ne (Ne.symm n1)]
  | _ :: _ :: _ :: _, h6, _ =>
    simp only [asgTs, Option.bind_eq_some_iff] at h6
    obtain ⟨_, _, _, _, z⟩ := h6
    cases z⟩
/-- x[i] = e -/
def setiO (x : Nat) (i e : M) (env : En) : Option Out := (frzM e.val env).bind fun (d, e1) => if isL e1[x]? then (i.opd e1).bind fun (p, e2) => (p.get e2).bind fun k => setiS x k d e2 else none
theorem own_slot {K : PySem.W.Frag} {O : Own} {H : Hp} {env : En} {σ : St} {i : Nat} {xs : List D} {v : V} (w : W K O H env σ) (e : env[i]? = some (.l xs)) (es : σ[i]? = some (some v)) : ∃ a vs, v = .ref a ∧ H a = some (.lst vs) ∧ RepDs K O H xs vs := by
  rcases w.rep i _ e with z | ⟨u, h1, h2⟩
  · cases z
  · rw [es] at h1; cases h1
    obtain ⟨a, vs, rfl, h3, h4, h5⟩ := h2
    exact ⟨a, vs, rfl, h3, h5⟩
theorem isL_slot {K : PySem.W.Frag} {O : Own} {H : Hp} {env : En} {σ : St} {x : Nat} (w : W K O H env σ) (h : isL env[x]? = true) : ∃ a us, σ[x]? = some (some (.ref a)) ∧ H a = some (.lst us) := by
  cases e : env[x]? with
  | none => rw [e] at h; cases h
  | some s =>
    cases s with
    | l xs =>
      rcases w.rep x _ e with z | ⟨v, h1, h2⟩
      · cases z
      · obtain ⟨a, vs, rfl, h3, _⟩ := h2
        exact ⟨a, vs, h1, h3⟩
    | _ => rw [e] at h; cases h
/-- the slot's own name, seen -/
theorem pe_slot {x : Nat} {n : Str} {p : Pos} (hN : X.N[x]? = some n) (hv : Vis X.env.scope n) (hd : (n == ("__debug__" : Str)) = false) (hcd : (n == ("__classdict__" : Str)) = false) : PE X (.Name n p) (tVar x) := pe_var hN hv hd hcd
theorem ss_seti {x : Nat} {n : Str} {p spos : Pos} {ie e : Expr} {mi me : M} (hN : X.N[x]? = some n) (hv : Vis X.env.scope n) (hd : (n == ("__debug__" : Str)) = false) (hcd : (n == ("__classdict__" : Str)) = false) (hi : SE X ie mi) (he : SE X e me)
    (ha : ∀ v, assign (.Subscript (.Name n p) ie spos) X.env v = (do
      let ov ← holding [v] (eval (.Name n p) X.env)
      let iv ← holding [v, ov] (eval ie X.env)
      standAt spos
      holding [v, ov, iv] (setItem ov iv v)
      release [v, ov, iv] [])) (hs : swapsWithSole [.Subscript (.Name n p) ie spos] e pos.line X.env = pure false) (hw : swappedStores [.Subscript (.Name n p) ie spos] e X.env = pure none) :
    SS X fz (.Assign [.Subscript (.Name n p) ie spos] e pos) (setiO x mi me) := ⟨(ps_asg he.d (pg_sub (pe_slot hN hv hd hcd) hi.opd set_list ha) hs hw rfl).imp fun D σ H q => by
  obtain ⟨O, env, out, w, e, k⟩ := q
  simp only [setiO, Option.bind_eq_some_iff] at e
  obtain ⟨⟨d, e1⟩, h1, e⟩ := e
  split at e
  case isFalse => cases e
  rename_i hL
  simp only [Option.bind_eq_some_iff] at e
  obtain ⟨⟨p, e2⟩, h2, kd, h3, h4⟩ := e
  refine ⟨O, env, d, e1, w, h1, fun O1 H1 v1 st1 w1 rd => ?_⟩
  simp only [setiS] at h4
  split at h4
  case h_2 => cases h4
  rename_i xs kk g1
  simp only [Option.map_eq_some_iff] at h4
  obtain ⟨j, g2, g3⟩ := h4
  cases g3
  obtain ⟨a, us, sx, _⟩ := isL_slot w1 hL
  refine ⟨.ref a, sx, O1, e1, p, e2, w1, h2, fun O2 H2 v2 st2 w2 rp => ?_⟩
  obtain ⟨a', vs, z, hl, rl⟩ := own_slot w2 g1 sx
  cases z
  have hi := (RepO.get w2 rp h3).int
  subst hi
  obtain ⟨w3, st3⟩ := w2.write g1 a sx (rl.set j (RepD.evo st2.evo _ _ rd))
  exact ⟨a, vs, kk, j, rfl, rfl, hl, by rw [← rl.length]; exact g2, k O2 _ σ ((st1.trans st2 fun _ z => z).trans st3 fun _ z => z) w3 .refl⟩⟩
/-- x.append(e), x.extend(e) -/
def appO (x : Nat) (e : M) (env : En) : Option Out := if isL env[x]? then (frzM e.val env).bind fun (d, e1) => appS x d e1 else none
def extO (x : Nat) (e : M) (env : En) : Option Out := if isL env[x]? then (frzM e.val env).bind fun (d, e1) => extS x d e1 else none
theorem args_one {m : M} {env env' : En} {d : D} (h : frzM m.val env = some (d, env')) : argsM [m] env = some ([d], env') := by
  simp only [argsM, h]; rfl
theorem ss_app {x : Nat} {n : Str} {p apos cpos : Pos} {e : Expr} {m : M} (hN : X.N[x]? = some n) (hv : Vis X.env.scope n) (hd : (n == ("__debug__" : Str)) = false) (hcd : (n == ("__classdict__" : Str)) = false) (he : SE X e m) (ns : notStar e = true)
    (hbase : attributeBase (.Name n p) "append" X.env (eval (.Name n p) X.env) = eval (.Name n p) X.env) (hline : (apos.endLine == cpos.line) = true)
    (hfew : ((backTo cpos (starEach [e] X.env)).all (fun x => !x.1) && (backToKw cpos (keywordEach [] X.env)).all (fun x => x.1.isSome) && decide (([e] : List Expr).length + ([] : List Keyword).length + (if ([] : List Keyword).isEmpty then 0 else 1) < 30)) = true)
    (hs : swapsWith (.Call (.Attribute (.Name n p) "append" apos) [e] [] cpos) none pos.line X.env = pure false) :
    SS X fz (.Expr (.Call (.Attribute (.Name n p) "append" apos) [e] [] cpos) pos) (appO x m) :=
  ⟨(ps_expr (pe_bm PySem.F.plainAttrs_list PySem.F.slot_list_append PySem.F.type_list_append mt_append (pe_slot hN hv hd hcd) (pa_args (by simp [ns]) (.cons he .nil)) hbase hfew hline (star_of ns) rfl) hs).imp fun D σ H q => by
  obtain ⟨O, env, out, w, e, k⟩ := q
  simp only [appO] at e
  split at e
  case isFalse => cases e
  rename_i hL
  simp only [Option.bind_eq_some_iff] at e
  obtain ⟨⟨d, e1⟩, h1, h4⟩ := e
  simp only [appS] at h4
  split at h4
  case h_2 => cases h4
  rename_i xs g1
  split at h4
  case isFalse => cases h4
  rename_i hz
  cases h4
  obtain ⟨a, us, sx, hl0⟩ := isL_slot w hL
  refine ⟨.ref a, sx, .inl ⟨rfl, us, SqL.of hl0⟩, O, env, [d], e1, w, args_one h1, fun O1 H1 vs st1 w1 rds => ?_⟩
  simp only [RepDs] at rds
  obtain ⟨v, r, rfl, rd, rfl⟩ := rds
  obtain ⟨a', ys, z, hl, rl⟩ := own_slot w1 g1 sx
  cases z
  obtain ⟨w3, st3⟩ := w1.write g1 a sx (rl.append (show RepDs X.K O1 H1 [d] [v] from by simp only [RepDs]; exact ⟨v, [], rfl, rd, rfl⟩))
  exact ⟨a, ys, v, rfl, rfl, hl, by rw [← rl.length]; exact hz, k O1 _ σ (st1.trans st3 fun _ z => z) w3 .refl⟩⟩
theorem ss_ext {x : Nat} {n : Str} {p apos cpos : Pos} {e : Expr} {m : M} (hN : X.N[x]? = some n) (hv : Vis X.env.scope n) (hd : (n == ("__debug__" : Str)) = false) (hcd : (n == ("__classdict__" : Str)) = false) (he : SE X e m) (ns : notStar e = true)
    (hbase : attributeBase (.Name n p) "extend" X.env (eval (.Name n p) X.env) = eval (.Name n p) X.env) (hline : (apos.endLine == cpos.line) = true)
    (hfew : ((backTo cpos (starEach [e] X.env)).all (fun x => !x.1) && (backToKw cpos (keywordEach [] X.env)).all (fun x => x.1.isSome) && decide (([e] : List Expr).length + ([] : List Keyword).length + (if ([] : List Keyword).isEmpty then 0 else 1) < 30)) = true)
    (hs : swapsWith (.Call (.Attribute (.Name n p) "extend" apos) [e] [] cpos) none pos.line X.env = pure false) :
    SS X fz (.Expr (.Call (.Attribute (.Name n p) "extend" apos) [e] [] cpos) pos) (extO x m) :=
  ⟨(ps_expr (pe_bm PySem.F.plainAttrs_list PySem.F.slot_list_extend PySem.F.type_list_extend mt_extend (pe_slot hN hv hd hcd) (pa_args (by simp [ns]) (.cons he .nil)) hbase hfew hline (star_of ns) rfl) hs).imp fun D σ H q => by
  obtain ⟨O, env, out, w, e, k⟩ := q
  simp only [extO] at e
  split at e
  case isFalse => cases e
  rename_i hL
  simp only [Option.bind_eq_some_iff] at e
  obtain ⟨⟨d, e1⟩, h1, h4⟩ := e
  simp only [extS] at h4
  split at h4
  case h_2 => cases h4
  rename_i xs ys g1
  split at h4
  case isFalse => cases h4
  rename_i hz
  cases h4
  obtain ⟨a, us, sx, hl0⟩ := isL_slot w hL
  refine ⟨.ref a, sx, .inl ⟨rfl, us, SqL.of hl0⟩, O, env, [.list ys], e1, w, args_one h1, fun O1 H1 vs st1 w1 rds => ?_⟩
  simp only [RepDs, RepD] at rds
  obtain ⟨v, r, rfl, ⟨b, ws, rfl, hb, nb, rb⟩, rfl⟩ := rds
  obtain ⟨a', zs, z, hl, rl⟩ := own_slot w1 g1 sx
  cases z
  have lens : zs.length + ws.length ≤ sizeLine := by
    have := rl.length; have := rb.length; omega
  obtain ⟨w3, st3⟩ := w1.write g1 a sx (rl.append rb)
  exact ⟨a, b, zs, ws, rfl, rfl, hl, hb, lens, k O1 _ σ (st1.trans st3 fun _ z => z) w3 .refl⟩⟩
/-! x op= e -/
def rAddC (K : PySem.W.Frag) : R2 := fun x y H Q => (rI0 fun i j => .int (i + j)) x y H Q ∨ rCatA K x y H Q
def rAug (K : PySem.W.Frag) (op : Operator) : R2 := match op with
  | .Add => rAddC K
  | .Sub => rI0 fun i j => .int (i - j)
  | .Mult => rI CMul fun i j => .int (i * j)
  | .Mod => rI (fun _ j => 0 < j) fun i j => .int (i % j)
  | .FloorDiv => rI CDivW fun i j => .int (i / j)
  | _ => fun _ _ _ _ => False
theorem or_aug (op : Operator) : OpR X (inplaceOp op) (rAug X.K op) := by
  cases op with
  | Add => exact OpR.or iop_add iop_catA
  | Sub => exact iop_sub
  | Mult => exact iop_mul
  | Mod => exact iop_mod
  | FloorDiv => exact iop_fdivW
  | _ => exact OpR.never
theorem ho_aug {K : PySem.W.Frag} (op : Operator) : HOp2 K (augD op) (rAug K op) := by
  intro O H d1 d2 x y res Q own h1 h2 e q
  cases op with
  | Add =>
    cases d1 with
    | int i =>
      cases d2 with
      | int j => cases e; exact .inl ⟨i, j, h1.int, h2.int, q.same own (by simp only [RepD])⟩
      | _ => cases e
    | tuple xs =>
      cases d2 with
      | tuple ys =>
        have hz : xs.length + ys.length ≤ sizeLine ∧ res = .v (.tuple (xs ++ ys)) := by
          simp only [augD] at e
          split at e
          · rename_i h; cases e; exact ⟨h, rfl⟩
          · cases e
        obtain ⟨hz, rfl⟩ := hz
        obtain ⟨a, vs, rfl, s1, r1⟩ := h1.tuple
        obtain ⟨b, us, rfl, s2, r2⟩ := h2.tuple
        have l1 := r1.length
        have l2 := r2.length
        refine .inr ⟨a, b, vs, us, rfl, rfl, s1, s2, by omega, fun z => ?_, fun _ z => ?_, fun _ _ p hp => q.tup own (r1.append r2) p hp⟩
        · subst z
          have : xs = [] := List.length_eq_zero_iff.mp (by simpa using l1)
          subst this
          exact q.same own (by simp only [RepD, List.nil_append]; exact ⟨b, us, rfl, s2, r2⟩)
        · subst z
          have : ys = [] := List.length_eq_zero_iff.mp (by simpa using l2)
          subst this
          exact q.same own (by simp only [RepD, List.append_nil]; exact ⟨a, vs, rfl, s1, r1⟩)
      | _ => cases e
    | _ => cases d2 <;> cases e
  | Sub =>
    cases d1 with
    | int i =>
      cases d2 with
      | int j => cases e; exact ⟨i, j, h1.int, h2.int, q.same own (by simp only [RepD])⟩
      | _ => cases e
    | _ => cases d2 <;> cases e
  | Mult =>
    cases d1 with
    | int i =>
      cases d2 with
      | int j =>
        simp only [augD] at e
        split at e
        · rename_i h; cases e; exact ⟨i, j, h1.int, h2.int, h, q.same own (by simp only [RepD])⟩
        · cases e
      | _ => cases e
    | _ => cases d2 <;> cases e
  | Mod =>
    cases d1 with
    | int i =>
      cases d2 with
      | int j =>
        simp only [augD] at e
        split at e
        · rename_i h; cases e; exact ⟨i, j, h1.int, h2.int, h, q.same own (by simp only [RepD])⟩
        · cases e
      | _ => cases e
    | _ => cases d2 <;> cases e
  | FloorDiv =>
    cases d1 with
    | int i =>
      cases d2 with
      | int j =>
        simp only [augD] at e
        split at e
        · rename_i h; cases e; exact ⟨i, j, h1.int, h2.int, h, q.same own (by simp only [RepD])⟩
        · cases e
      | _ => cases e
    | _ => cases d2 <;> cases e
  | _ => cases d1 <;> cases d2 <;> cases e
def augO (i : Nat) (op : Operator) (e : M) (env : En) : Option Out := match env[i]? with
    | some (.v a) => (frzM e.val env).bind fun (d, e1) => (augD op a d).bind fun r => (setS i r e1).map .nx
    | _ => none
theorem ss_aug {i : Nat} {x : Str} {e : Expr} {m : M} {op : Operator} {pos' : Pos} (hz : i ∉ fz) (hN : X.N.Nodup) (hi : X.N[i]? = some x) (hx : Loc X.env.scope x) (he : SE X e m) (hf : X.fn x = true ∨ X.env.scope.names.lookup x = some .local) :
    SS X fz (.AugAssign (.Name x pos') op e pos) (augO i op m) := ⟨(ps_aug hN hi hx he.d (or_aug op) hf).imp fun D σ H q => by
  obtain ⟨O, env, out, w, e, k⟩ := q
  simp only [augO] at e
  split at e
  case h_2 => cases e
  rename_i a g1
  simp only [Option.bind_eq_some_iff, Option.map_eq_some_iff] at e
  obtain ⟨⟨d, e1⟩, h1, r, h2, e2, h3, h4⟩ := e
  cases h4
  rcases w.rep i _ g1 with z | ⟨v, sx, rv⟩
  · cases z
  refine ⟨v, sx, O, env, d, e1, w, h1, fun O1 H1 v1 st1 w1 rd => ?_⟩
  refine ho_aug op O1 H1 a d v v1 r _ w1.own (.inl (RepD.evo st1.evo _ _ rv)) (.inl rd) h2 (RP.end_ w1 fun O2 H2 v2 st2 wr => ?_)
  obtain ⟨o, c1, c2, rfl⟩ := setS_some h3
  obtain ⟨w2, k2⟩ := wr.store c1 c2
  exact k O2 H2 _ ((st1.trans st2 fun _ z => z).sub fun b f => k2 b f) w2 fun j hj => List.getElem?_set_ne fun z => hz (by rw [z]; exact hj)⟩
/-! while -/
theorem whC_some {c : En → Option (Bool × En)} {b : En → Option Out} {env : En} {out : Out} (h : whC c b env = some out) : ∃ n, whN c b n env = some out := by
  unfold whC at h
  split at h
  · rename_i hh
    have e := Option.some.inj h
    exact ⟨hh.choose, by rw [← e]; exact hh.choose_spec.choose_spec⟩
  · cases h
theorem ss_wh {c : Expr} {body : List Stmt} {mc : M} {fb : En → Option Out} (hp : PassesOwn (model X.prog X.w) X.A X.env X.xe) (hc : SE X c mc) (hb : SB X fz body fb) : SS X fz (.While c body [] pos) (whC mc.tst fb) := ⟨(ps_while hp hc.tst hb.run).imp fun D σ H q => by
  obtain ⟨O, env, out, w, e, k⟩ := q
  obtain ⟨n, e⟩ := whC_some e
  refine ⟨fun m σ H => ∃ O env, W X.K O H env σ ∧ whN mc.tst fb m env = some out ∧ OutK X.K fz O H env σ D out, ⟨n, O, env, w, e, k⟩, fun m σ H ⟨O, env, w, e, k⟩ => ?_⟩
  cases m with
  | zero => cases e
  | succ m =>
    simp only [whN, Option.bind_eq_some_iff] at e
    obtain ⟨⟨b, e1⟩, h1, h2⟩ := e
    refine ⟨O, env, b, e1, w, h1, fun O1 H1 st1 w1 => ?_⟩
    have k1 := k.later st1 .refl
    cases b with
    | false =>
      cases h2
      exact k1 O1 H1 σ (Step.refl w1.own) w1 .refl
    | true =>
      have h2 : ((fb e1).bind fun r => match r with
        | .nx e2 => whN mc.tst fb m e2
        | .ct e2 => whN mc.tst fb m e2
        | .bk e2 => some (.nx e2)
        | .rt s e2 => some (.rt s e2)) = some out := h2
      simp only [Option.bind_eq_some_iff] at h2
      obtain ⟨r, h3, h4⟩ := h2
      refine ⟨fun σ' H' => ∃ m', m' < m + 1 ∧ ∃ O env, W X.K O H' env σ' ∧ whN mc.tst fb m' env = some out ∧ OutK X.K fz O H' env σ' D out, fun σ' H' z => z, O1, e1, r, w1, h3, ?_⟩
      cases r with
      | nx e2 => exact fun O2 H2 σ2 st2 w2 kp => ⟨m, Nat.lt_succ_self _, O2, e2, w2, h4, k1.later st2 kp⟩
      | ct e2 => exact fun O2 H2 σ2 st2 w2 kp => ⟨m, Nat.lt_succ_self _, O2, e2, w2, h4, k1.later st2 kp⟩
      | bk e2 => cases h4; exact k1
      | rt s e2 => cases h4; exact k1⟩
/-! for -/
def frO2 (t : T) (k : IK) (its : List M) (b : En → Option Out) (env : En) : Option Out := (opsM (its.map frO) env).bind fun (ps, e1) => (gets e1 ps).bind fun ds => (itemsOf k ds).bind fun xs => frL t b xs e1
theorem se_frO {e : Expr} {m : M} (h : SE X e m) (p : PlainT e = true) : SE X e (frO m) := ⟨h.val, pe_opd h.d, h.tst⟩
theorem opsF_d : ∀ {its : List M} {env env' : En} {ps : List Opd}, opsM (its.map frO) env = some (ps, env') → ∀ p ∈ ps, ∃ d, p = .d d
  | [], _, _, _, h, p, hp => by cases h; cases hp
  | m :: its, env, env', ps, h, p, hp => by
    simp only [List.map_cons, opsM, frO, Option.bind_eq_some_iff, Option.map_eq_some_iff] at h
    obtain ⟨⟨q, e1⟩, ⟨⟨d, e3⟩, h1, h2⟩, ⟨qs, e2⟩, h3, h4⟩ := h
    cases h4; cases h2
    rcases List.mem_cons.mp hp with rfl | hp
    · exact ⟨d, rfl⟩
    · exact opsF_d h3 p hp
theorem repPs_of {K : PySem.W.Frag} {O : Own} {H : Hp} {σ : St} {env : En} : ∀ {ps : List Opd} {ds : List D} {vs : List V}, (∀ p ∈ ps, ∃ d, p = .d d) → gets env ps = some ds → RepOs K O H σ ps vs → RepPs K O H ds vs
  | [], ds, vs, _, e, r => by
    have e' : ([] : List D) = ds := Option.some.inj e
    subst e'; exact r
  | p :: ps, ds, vs, hd, e, r => by
    obtain ⟨v, r', rfl, h1, h2⟩ := r
    obtain ⟨d, rfl⟩ := hd p List.mem_cons_self
    have e' : (((Opd.d d).get env).bind fun d => (Mini.gets env ps).map (d :: ·)) = some ds := e
    simp only [Option.bind_eq_some_iff, Option.map_eq_some_iff] at e'
    obtain ⟨d', e1, es, e2, rfl⟩ := e'
    cases e1
    exact ⟨v, r', rfl, .inl h1, repPs_of (fun p hp => hd p (List.mem_cons_of_mem _ hp)) e2 h2⟩
theorem ss_for {tg iter : Expr} {body : List Stmt} {t : T} {kk : IK} {its : List M} {fb : En → Option Out} (hz : ∀ i ∈ fz, i ∉ t.slots) (hp : PassesOwn (model X.prog X.w) X.A X.env X.xe) (hc : X.calm = true) (hi : PI X tg iter (tI X.K kk (opsM (its.map frO)))) (hg : PG X tg (gT X.K t)) (hb : SB X fz body fb)
    (hs : ∀ x, foldedSetIterable iter X.env x = pure x) : SS X fz (.For tg iter body [] pos) (frO2 t kk its fb) := ⟨(ps_for hp hc hi hg hb.run hs).imp fun D σ H q => by
  obtain ⟨O, env, out, w, e, k⟩ := q
  simp only [frO2, Option.bind_eq_some_iff] at e
  obtain ⟨⟨ps, e1⟩, h1, ds, h2, items, h3, h4⟩ := e
  refine ⟨O, env, ps, e1, ds, items, w, h1, h2, h3, fun O1 H1 J vs st1 w1 rp jo => ?_⟩
  have k1 := k.later st1 .refl
  have pd := opsF_d h1
  refine ⟨fun i m σ2 H2 => m = items.length - i ∧ i ≤ items.length ∧ ∃ O2 en, W X.K O2 H2 en σ2 ∧ frL t fb (items.drop i) en = some out ∧ Step O1 H1 (FpE H1 e1 σ) O2 H2 (FpE H2 en σ2) ∧ Kp fz σ σ2, ⟨_, rfl, Nat.zero_le _, O1, e1, w1, by simpa using h4, Step.refl w1.own, .refl⟩, ?_⟩
  rintro i m σ2 H2 ⟨rfl, hi, O2, en, w2, hl, st2, kp2⟩
  have rps : RepPs X.K O2 H2 ds vs := repPs_of pd h2 (RepOs.evo st2.evo rp)
  have k2 := k1.later st2 kp2
  by_cases hlt : i < items.length
  · obtain ⟨d, hd⟩ : ∃ d, items[i]? = some d := ⟨items[i], List.getElem?_eq_getElem hlt⟩
    have hdr : items.drop i = d :: items.drop (i + 1) := by
      rw [List.drop_eq_getElem_cons hlt]
      rw [List.getElem?_eq_getElem hlt] at hd; cases hd; rfl
    rw [hdr] at hl
    simp only [frL, Option.bind_eq_some_iff] at hl
    obtain ⟨en1, hasg, r, hbd, hrest⟩ := hl
    let Nx : St → Hp → Prop := fun σ3 H3 => ∃ O3 en3, W X.K O3 H3 en3 σ3 ∧ frL t fb (items.drop (i + 1)) en3 = some out ∧ Step O1 H1 (FpE H1 e1 σ) O3 H3 (FpE H3 en3 σ3) ∧ Kp fz σ σ3
    refine .inr ⟨jo.go i O2 H2 d w2.own rps hd, Nx, fun σ3 H3 ⟨O3, en3, z1, z2, z3, z4⟩ => ⟨_, by omega, rfl, hlt, O3, en3, z1, z2, z3, z4⟩, fun x H3 y => ?_⟩
    obtain ⟨sty, rdx⟩ := jo.yld i O2 H2 d x H3 w2.own rps hd y
    obtain ⟨wy, ky⟩ := w2.keep sty
    have sty' : Step O2 H2 (FpE H2 en σ2) O2 H3 (FpE H3 en σ2) := ⟨sty.evo, sty.own, fun b e _ => sty.keepO b e id, fun b f => .inl (ky b f)⟩
    refine ⟨O2, en, d, en1, wy, rdx, hasg, fun σ3 w3 k3 on3 => ?_⟩
    have kp3 : Kp fz σ2 σ3 := Kp.only on3 hz
    have st3 : Step O1 H1 (FpE H1 e1 σ) O2 H3 (FpE H3 en1 σ3) := (st2.trans sty' fun _ z => z).sub k3
    refine ⟨O2, en1, r, w3, hbd, ?_⟩
    have kk1 := k1.later st3 (kp2.trans kp3)
    cases r with
    | nx e2 => exact fun O4 H4 σ4 st4 w4 kp4 => ⟨O4, e2, w4, hrest, st3.trans st4 fun _ z => z, (kp2.trans kp3).trans kp4⟩
    | ct e2 => exact fun O4 H4 σ4 st4 w4 kp4 => ⟨O4, e2, w4, hrest, st3.trans st4 fun _ z => z, (kp2.trans kp3).trans kp4⟩
    | bk e2 => cases hrest; exact kk1
    | rt s e2 => cases hrest; exact kk1
  · have e : i = items.length := by omega
    subst e
    rw [List.drop_length] at hl
    cases hl
    exact .inl ⟨jo.stop O2 H2 w2.own rps, k2 O2 H2 σ2 (Step.refl w2.own) w2 .refl⟩⟩
end
end Mini

namespace Mini
open PySem PySem.Spec L2
/-! built-ins by name -/
def HOpN (K : PySem.W.Frag) (f : List D → Option Sl) (r : List V → Hp → VK → Prop) : Prop :=
  ∀ (O : Own) (H : Hp) (ds : List D) (vs : List V) (res : Sl) (Q : VK), OwnOk O H → RepPs K O H ds vs → f ds = some res → RP K O H res Q → r vs H Q
theorem CallR.or {X : Cx} {f : Value} {r r' : List V → Hp → VK → Prop} (h : CallR X f r) (h' : CallR X f r') : CallR X f (fun vs H Q => r vs H Q ∨ r' vs H Q) := by
  intro pins s σ H xs us Q I rv q
  rcases q with q | q
  · exact h pins s σ H xs us Q I rv q
  · exact h' pins s σ H xs us Q I rv q
section
variable {X : Cx} {K : PySem.W.Frag}
theorem nil_ps {O : Own} {H : Hp} {vs : List V} (h : RepPs K O H [] vs) : vs = [] := h
theorem many_ps {O : Own} {H : Hp} {d e f : D} {r : List D} {vs : List V} {P : Prop} (h : RepPs K O H (d :: e :: f :: r) vs) : True := trivial
theorem ho_len : HOpN K (bltD .len) (fun xs H Q => ∃ x n, xs = [x] ∧ LenV K x H n ∧ Q (.int n) H) := by
  intro O H ds vs res Q own r e q
  match ds, r, e with
  | [d], r, e =>
    obtain ⟨v, rfl, h⟩ := one_ps r
    cases d with
    | list xs =>
      cases e
      obtain ⟨a, us, rfl, h1, h2⟩ := h.list
      exact ⟨_, us.length, rfl, .inl ⟨us, SqL.of h1, rfl⟩, by rw [← h2.length]; exact q.same own (by simp only [RepD])⟩
    | tuple xs =>
      cases e
      obtain ⟨a, us, rfl, h1, h2⟩ := h.tuple
      exact ⟨_, us.length, rfl, .inr ⟨us, h1, rfl⟩, by rw [← h2.length]; exact q.same own (by simp only [RepD])⟩
    | str s =>
      simp only [bltD] at e
      split at e
      · rename_i hs
        cases e
        have h := h.str
        subst h
        exact ⟨_, s.length, rfl, ⟨hs, rfl⟩, q.same own (by simp only [RepD])⟩
      · cases e
    | _ => cases e
  | [], _, e => cases e
  | d :: _ :: _, _, e => cases d <;> cases e
theorem ho_all : HOpN K (bltD .all) (rAll K) := by
  intro O H ds vs res Q own r e q
  match ds, r, e with
  | [d], r, e =>
    obtain ⟨v, rfl, h⟩ := one_ps r
    cases d with
    | list xs =>
      simp only [bltD, Option.map_eq_some_iff] at e
      obtain ⟨bs, e1, rfl⟩ := e
      obtain ⟨a, us, rfl, h1, h2⟩ := h.list
      have := h2.boolsOf e1
      subst this
      exact ⟨a, bs, rfl, SqL.of h1, q.same own (by simp only [RepD])⟩
    | _ => cases e
  | [], _, e => cases e
  | d :: _ :: _, _, e => cases d <;> cases e
theorem ho_any : HOpN K (bltD .any) (rAny K) := by
  intro O H ds vs res Q own r e q
  match ds, r, e with
  | [d], r, e =>
    obtain ⟨v, rfl, h⟩ := one_ps r
    cases d with
    | list xs =>
      simp only [bltD, Option.map_eq_some_iff] at e
      obtain ⟨bs, e1, rfl⟩ := e
      obtain ⟨a, us, rfl, h1, h2⟩ := h.list
      have := h2.boolsOf e1
      subst this
      exact ⟨a, bs, rfl, SqL.of h1, q.same own (by simp only [RepD])⟩
    | _ => cases e
  | [], _, e => cases e
  | d :: _ :: _, _, e => cases d <;> cases e
theorem ho_sum : HOpN K (bltD .sum) (rSum K) := by
  intro O H ds vs res Q own r e q
  match ds, r, e with
  | [d], r, e =>
    obtain ⟨v, rfl, h⟩ := one_ps r
    cases d with
    | list xs =>
      simp only [bltD, Option.map_eq_some_iff] at e
      obtain ⟨bs, e1, rfl⟩ := e
      obtain ⟨a, us, rfl, h1, h2⟩ := h.list
      have := h2.intsOf e1
      subst this
      exact ⟨a, bs, rfl, SqL.of h1, q.same own (by simp only [RepD])⟩
    | _ => cases e
  | [], _, e => cases e
  | d :: _ :: _, _, e => cases d <;> cases e
theorem foldl_max_ge : ∀ (r : List Int) (x : Int), x ≤ r.foldl max x ∧ ∀ y ∈ r, y ≤ r.foldl max x
  | [], x => ⟨Int.le_refl _, fun _ h => nomatch h⟩
  | z :: r, x => by
    obtain ⟨h1, h2⟩ := foldl_max_ge r (max x z)
    refine ⟨by simp only [List.foldl_cons]; omega, fun y hy => ?_⟩
    rcases List.mem_cons.mp hy with rfl | hy
    · simp only [List.foldl_cons]; omega
    · exact h2 y hy
theorem foldl_max_mem : ∀ (r : List Int) (x : Int), r.foldl max x ∈ x :: r
  | [], x => by simp
  | z :: r, x => by
    have := foldl_max_mem r (max x z)
    simp only [List.foldl_cons]
    rcases List.mem_cons.mp this with h | h
    · rw [h]
      by_cases hx : x ≤ z
      · rw [Int.max_eq_right hx]; simp
      · rw [Int.max_eq_left (by omega)]; simp
    · exact List.mem_cons_of_mem _ (List.mem_cons_of_mem _ h)
theorem foldl_min_le : ∀ (r : List Int) (x : Int), r.foldl min x ≤ x ∧ ∀ y ∈ r, r.foldl min x ≤ y
  | [], x => ⟨Int.le_refl _, fun _ h => nomatch h⟩
  | z :: r, x => by
    obtain ⟨h1, h2⟩ := foldl_min_le r (min x z)
    refine ⟨by simp only [List.foldl_cons]; omega, fun y hy => ?_⟩
    rcases List.mem_cons.mp hy with rfl | hy
    · simp only [List.foldl_cons]; omega
    · exact h2 y hy
theorem foldl_min_mem : ∀ (r : List Int) (x : Int), r.foldl min x ∈ x :: r
  | [], x => by simp
  | z :: r, x => by
    have := foldl_min_mem r (min x z)
    simp only [List.foldl_cons]
    rcases List.mem_cons.mp this with h | h
    · rw [h]
      by_cases hx : x ≤ z
      · rw [Int.min_eq_left hx]; simp
      · rw [Int.min_eq_right (by omega)]; simp
    · exact List.mem_cons_of_mem _ (List.mem_cons_of_mem _ h)
theorem ho_max : HOpN K (bltD .max) (fun vs H Q => rMax K vs H Q ∨ ∃ i j, vs = [.int i, .int j] ∧ Q (.int (if j > i then j else i)) H) := by
  intro O H ds vs res Q own r e q
  match ds, r, e with
  | [d], r, e =>
    obtain ⟨v, rfl, h⟩ := one_ps r
    cases d with
    | list xs =>
      simp only [bltD, Option.bind_eq_some_iff, Option.map_eq_some_iff] at e
      obtain ⟨ns, e1, m, e2, rfl⟩ := e
      obtain ⟨a, us, rfl, h1, h2⟩ := h.list
      have := h2.intsOf e1
      subst this
      cases ns with
      | nil => cases e2
      | cons x ns =>
        cases e2
        refine .inl ⟨a, x :: ns, rfl, SqL.of h1, by simp, fun m hm hy => ?_⟩
        have g := foldl_max_ge ns x
        have gm := foldl_max_mem ns x
        have e3 : m = ns.foldl max x := by
          have l1 := hy _ gm
          have l2 : m ≤ ns.foldl max x := by
            rcases List.mem_cons.mp hm with rfl | hm
            · exact g.1
            · exact g.2 m hm
          omega
        subst e3
        exact q.same own (by simp only [RepD])
    | _ => cases e
  | [d1, d2], r, e =>
    obtain ⟨v, u, rfl, h1, h2⟩ := two_ps r
    cases d1 with
    | int i =>
      cases d2 with
      | int j =>
        cases e
        have h1 := h1.int
        have h2 := h2.int
        subst h1 h2
        exact .inr ⟨i, j, rfl, q.same own (by simp only [RepD])⟩
      | _ => cases e
    | _ => cases e
  | [], _, e => cases e
  | d :: d2 :: _ :: _, _, e => cases d <;> cases d2 <;> cases e
theorem ho_min : HOpN K (bltD .min) (fun vs H Q => rMin K vs H Q ∨ ∃ i j, vs = [.int i, .int j] ∧ Q (.int (if j < i then j else i)) H) := by
  intro O H ds vs res Q own r e q
  match ds, r, e with
  | [d], r, e =>
    obtain ⟨v, rfl, h⟩ := one_ps r
    cases d with
    | list xs =>
      simp only [bltD, Option.bind_eq_some_iff, Option.map_eq_some_iff] at e
      obtain ⟨ns, e1, m, e2, rfl⟩ := e
      obtain ⟨a, us, rfl, h1, h2⟩ := h.list
      have := h2.intsOf e1
      subst this
      cases ns with
      | nil => cases e2
      | cons x ns =>
        cases e2
        refine .inl ⟨a, x :: ns, rfl, SqL.of h1, by simp, fun m hm hy => ?_⟩
        have g := foldl_min_le ns x
        have gm := foldl_min_mem ns x
        have e3 : m = ns.foldl min x := by
          have l1 := hy _ gm
          have l2 : ns.foldl min x ≤ m := by
            rcases List.mem_cons.mp hm with rfl | hm
            · exact g.1
            · exact g.2 m hm
          omega
        subst e3
        exact q.same own (by simp only [RepD])
    | _ => cases e
  | [d1, d2], r, e =>
    obtain ⟨v, u, rfl, h1, h2⟩ := two_ps r
    cases d1 with
    | int i =>
      cases d2 with
      | int j =>
        cases e
        have h1 := h1.int
        have h2 := h2.int
        subst h1 h2
        exact .inr ⟨i, j, rfl, q.same own (by simp only [RepD])⟩
      | _ => cases e
    | _ => cases e
  | [], _, e => cases e
  | d :: d2 :: _ :: _, _, e => cases d <;> cases d2 <;> cases e
theorem ho_abs : HOpN K (bltD .abs) (fun xs H Q => ∃ i, xs = [.int i] ∧ Q (.int (if i < 0 then -i else i)) H) := by
  intro O H ds vs res Q own r e q
  match ds, r, e with
  | [d], r, e =>
    obtain ⟨v, rfl, h⟩ := one_ps r
    cases d with
    | int i =>
      cases e
      have h := h.int
      subst h
      exact ⟨i, rfl, q.same own (by simp only [RepD])⟩
    | _ => cases e
  | [], _, e => cases e
  | d :: _ :: _, _, e => cases d <;> cases e
theorem ho_intT : HOpN K (bltD .int) (fun xs H Q => (∃ i, xs = [.int i] ∧ Q (.int i) H) ∨ ∃ k, xs = [.bl k] ∧ Q (.int (if k then 1 else 0)) H) := by
  intro O H ds vs res Q own r e q
  match ds, r, e with
  | [d], r, e =>
    obtain ⟨v, rfl, h⟩ := one_ps r
    cases d with
    | int i =>
      cases e
      have h := h.int
      subst h
      exact .inl ⟨i, rfl, q.same own (by simp only [RepD])⟩
    | bool i =>
      cases e
      have h := h.bool
      subst h
      exact .inr ⟨i, rfl, q.same own (by simp only [RepD])⟩
    | _ => cases e
  | [], _, e => cases e
  | d :: _ :: _, _, e => cases d <;> cases e
theorem ho_strT : HOpN K (bltD .str) (fun xs H Q => ∃ i, xs = [.int i] ∧ i.natAbs.log2 < 1920 ∧ Q (.str (toString i)) H) := by
  intro O H ds vs res Q own r e q
  match ds, r, e with
  | [d], r, e =>
    obtain ⟨v, rfl, h⟩ := one_ps r
    cases d with
    | int i =>
      simp only [bltD] at e
      split at e
      · rename_i hl
        cases e
        have h := h.int
        subst h
        exact ⟨i, rfl, hl, q.same own (by simp only [RepD])⟩
      · cases e
    | _ => cases e
  | [], _, e => cases e
  | d :: _ :: _, _, e => cases d <;> cases e
theorem ho_tupleT : HOpN K (bltD .tuple) (fun xs H Q => ∃ p ys, xs = [.ref p] ∧ ((SqL K H p ys ∧ ∀ l, H l = none → Q (.ref l) (upd H l (.tup ys))) ∨ (SqT K H p ys ∧ Q (.ref p) H))) := by
  intro O H ds vs res Q own r e q
  match ds, r, e with
  | [d], r, e =>
    obtain ⟨v, rfl, h⟩ := one_ps r
    cases d with
    | list xs =>
      cases e
      obtain ⟨a, us, rfl, h1, h2⟩ := h.list
      exact ⟨a, us, rfl, .inl ⟨SqL.of h1, fun l hl => q.tup own h2 l hl⟩⟩
    | tuple xs =>
      cases e
      obtain ⟨a, us, rfl, h1, h2⟩ := h.tuple
      exact ⟨a, us, rfl, .inr ⟨h1, q.same own (by simp only [RepD]; exact ⟨a, us, rfl, h1, h2⟩)⟩⟩
    | _ => cases e
  | [], _, e => cases e
  | d :: _ :: _, _, e => cases d <;> cases e
theorem ho_listT : HOpN K (bltD .list) (fun xs H Q => ∃ p ys, xs = [.ref p] ∧ (SqL K H p ys ∨ SqT K H p ys) ∧ ∀ l, H l = none → Q (.ref l) (upd H l (.lst ys))) := by
  intro O H ds vs res Q own r e q
  match ds, r, e with
  | [d], r, e =>
    obtain ⟨v, rfl, h⟩ := one_ps r
    cases d with
    | list xs =>
      cases e
      obtain ⟨a, us, rfl, h1, h2⟩ := h.list
      exact ⟨a, us, rfl, .inl (SqL.of h1), fun l hl => q.lst own h2 l hl⟩
    | tuple xs =>
      cases e
      obtain ⟨a, us, rfl, h1, h2⟩ := h.tuple
      exact ⟨a, us, rfl, .inr h1, fun l hl => q.lst own h2 l hl⟩
    | _ => cases e
  | [], _, e => cases e
  | d :: _ :: _, _, e => cases d <;> cases e
def blName : Bl → Str
  | .len => "len" | .all => "all" | .any => "any" | .sum => "sum" | .min => "min" | .max => "max" | .abs => "abs" | .tuple => "tuple" | .list => "list" | .int => "int" | .sorted => "sorted" | .str => "str"
theorem te_ops {f : List D → Option Sl} {r : List V → Hp → VK → Prop} (hop : HOpN K f r) {ms : List M} {σ : St} {H : Hp} {Q : VK} (q : tE K (fun env => (opsM ms env).bind fun (ps, e1) => (gets e1 ps).bind fun ds => (f ds).map fun r => (r, e1)) σ H Q) : tCB r (tOs K (opsM ms)) σ H Q := by
  obtain ⟨O, env, s, env', w, e, q⟩ := q
  simp only [Option.bind_eq_some_iff, Option.map_eq_some_iff] at e
  obtain ⟨⟨ps, e1⟩, h1, ds, h2, res, h3, h4⟩ := e
  cases h4
  exact ⟨O, env, ps, e1, w, h1, fun O' H' vs st w' rp => hop O' H' ds vs _ _ w'.own (RepOs.gets w' rp h2) h3 (RP.end_ w' fun O2 H2 v2 st2 wr => q O2 H2 v2 (st.trans st2 fun _ z => z) wr)⟩
theorem any_star {es : List Expr} {env : PySem.Env} {pos : Pos} (n : es.all notStar = true) : (backTo pos (starEach es env)).any (·.1) = false := by
  induction es with
  | nil => rfl
  | cons e es ih =>
    simp only [List.all_cons, Bool.and_eq_true] at n
    rw [star_of n.1]
    have := ih n.2
    simpa [backTo] using this
theorem se_blt {b : Bl} {e : Expr} {es : List Expr} {ms : List M} {p pos : Pos} (hc : X.calm = true) (hg : Gl X (blName b)) (hm : X.mg (blName b) = none) (n : (e :: es).all notStar = true) (h : SEs X (e :: es) ms) : SE X (.Call (.Name (blName b) p) (e :: es) [] pos) (bltM b ms) := by
  have hs : starEach (e :: es) X.env = (false, eval e X.env) :: starEach es X.env := star_of (by simp only [List.all_cons, Bool.and_eq_true] at n; exact n.1)
  have hpl : (backTo pos (starEach es X.env)).any (·.1) = false := any_star (by simp only [List.all_cons, Bool.and_eq_true] at n; exact n.2)
  have fin : ∀ {r : List V → Hp → VK → Prop}, HOpN X.K (bltD b) r → PE X (.Call (.Name (blName b) p) (e :: es) [] pos) (tCB r (tOs X.K (opsM ms))) → SE X (.Call (.Name (blName b) p) (e :: es) [] pos) (bltM b ms) := fun {r} ho pe =>
    .ofVal rfl (pe.imp fun _ _ _ q => te_ops ho q)
  have pa := pa_ops n h
  cases b with
  | len => exact fin ho_len (pe_callB call_len hg hm PySem.boot_len pa (by decide) (by decide) hs hpl)
  | all => exact fin ho_all (pe_callB (cr_all hc) hg hm PyProof.Rows.boot_all pa (by decide) (by decide) hs hpl)
  | any => exact fin ho_any (pe_callB (cr_any hc) hg hm PyProof.Rows.boot_any pa (by decide) (by decide) hs hpl)
  | sum => exact fin ho_sum (pe_callB (cr_sum hc) hg hm PyProof.Rows.boot_sum pa (by decide) (by decide) hs hpl)
  | min => exact fin ho_min (pe_callB (CallR.or (cr_min hc) (call_min2 hc)) hg hm PyProof.Rows.boot_min pa (by decide) (by decide) hs hpl)
  | max => exact fin ho_max (pe_callB (CallR.or (cr_max hc) (call_max2 hc)) hg hm PyProof.Rows.boot_max pa (by decide) (by decide) hs hpl)
  | abs => exact fin ho_abs (pe_callB call_abs hg hm PyProof.Rows.boot_abs pa (by decide) (by decide) hs hpl)
  | tuple => exact fin ho_tupleT (pe_callTy call_tuple_of hg hm PyProof.Rows.boot_tuple pa (by decide) (by decide) hs hpl)
  | list => exact fin ho_listT (pe_callTy call_list_of hg hm PyProof.Rows.boot_list pa (by decide) (by decide) hs hpl)
  | int => exact fin ho_intT (pe_callTy call_int1 hg hm PyProof.Rows.boot_int pa (by decide) (by decide) hs hpl)
  | sorted =>
    refine .ofVal rfl (PE.never.imp fun σ H Q q => ?_)
    obtain ⟨O, env, s, env', w, e, q⟩ := q
    simp only [Option.bind_eq_some_iff, Option.map_eq_some_iff] at e
    obtain ⟨_, _, ds, _, res, h3, _⟩ := e
    cases h3
  | str => exact fin ho_strT (pe_callTy call_str_int hg hm PyProof.Rows.boot_str pa (by decide) (by decide) hs hpl)
/-! isinstance -/
def tyName : Ty → String
  | .int => "int" | .bool => "bool" | .tuple => "tuple" | .list => "list" | .str => "str"
def dTy : D → String
  | .none => "NoneType" | .bool _ => "bool" | .int _ => "int" | .str _ => "str" | .tuple _ => "tuple" | .list _ => "list" | .dict _ => "dict"
theorem tyx_of {O : Own} {H : Hp} {d : D} {v : V} (r : RepP K O H d v) : TyX K H v (.type (dTy d)) := by
  cases d with
  | none => have e := r.none; subst e; exact .base .non
  | bool b => have e := r.bool; subst e; exact .base (.bl b)
  | int b => have e := r.int; subst e; exact .base (.int b)
  | str b => have e := r.str; subst e; exact .base (.str b)
  | list b => obtain ⟨a, vs, rfl, h, _⟩ := r.list; exact .base (.lst h)
  | tuple b =>
    obtain ⟨a, vs, rfl, h, _⟩ := r.tuple
    rcases h with (h | ⟨o, h⟩) | ⟨o, its, n, h, h2, _⟩
    · exact .base (.tup h)
    · exact .fTuple h
    · exact .kTuple h h2
  | dict b => exact r.dict.elim
def tyB (a b : Ty) : Bool := match a, b with
  | .int, .int => true | .bool, .int => true | .bool, .bool => true | .tuple, .tuple => true | .list, .list => true | .str, .str => true | _, _ => false
theorem kit_tt (a b : Ty) : kitB (tyName a) (tyName b) = some (tyB a b) := by cases a <;> cases b <;> decide +kernel
theorem kit_n (b : Ty) : kitB "NoneType" (tyName b) = some false := by cases b <;> decide +kernel
theorem kit_d (b : Ty) : kitB "dict" (tyName b) = some false := by cases b <;> decide +kernel
theorem kit_of {d : D} {t : Ty} : PySem.W.kitOne K (.type (dTy d)) (.type (tyName t)) = some (isiD d t) := by
  refine kit_ty ?_
  cases d with
  | none => exact (kit_n t).trans (by cases t <;> rfl)
  | bool b => exact (kit_tt .bool t).trans (by cases t <;> rfl)
  | int b => exact (kit_tt .int t).trans (by cases t <;> rfl)
  | str b => exact (kit_tt .str t).trans (by cases t <;> rfl)
  | tuple b => exact (kit_tt .tuple t).trans (by cases t <;> rfl)
  | list b => exact (kit_tt .list t).trans (by cases t <;> rfl)
  | dict b => exact (kit_d t).trans (by cases t <;> rfl)
theorem boot_ty (t : Ty) : bootBuiltins (tyName t : Str) = some (.type (tyName t)) := by cases t <;> decide +kernel
theorem se_isi {a : Expr} {ma : M} {t : Ty} {p p2 pos : Pos} (hg : Gl X "isinstance") (hm : X.mg "isinstance" = none) (hg2 : Gl X (tyName t)) (hm2 : X.mg (tyName t) = none) (n : notStar a = true) (h : SE X a ma) :
    SE X (.Call (.Name "isinstance" p) [a, .Name (tyName t) p2] [] pos) (.cmp (op1 (fun d => some (.v (.bool (isiD d t)))) ma).val) := by
  have pt : PE X (.Name (tyName t) p2) (tC (.ty (tyName t))) := pe_bltn hg2 hm2 (boot_ty t) rfl (by cases t <;> decide) (by cases t <;> decide)
  have pe0 := pe_callB (X := X) (pos := pos) (p := p) call_isi hg hm PyProof.Rows.boot_isinstance (pa_cons h.opd (pa_cons pt pa_nil) (star_of n)) (by decide) (by decide) (star_of n) (any_star (by rfl))
  have key : ∀ {σ : St} {H : Hp} {Q : VK}, tE X.K (op1 (fun d => some (.v (.bool (isiD d t)))) ma).val σ H Q → tCB (rIsi X.K) (tCons (tO X.K ma.opd) (tCons (tC (.ty (tyName t))) tNil)) σ H Q := fun {σ H Q} q => by
    refine te_op1 (r := fun x H Q => rIsi X.K [x, .ty (tyName t)] H Q) (fun O H d x res Q own r e q => ?_) q
    cases e
    exact ⟨x, .ty (tyName t), _, _, isiD d t, rfl, .ty _, tyx_of r, kit_of, q.same own (by simp only [RepD])⟩
  refine se_of_cmp (pe0.imp fun _ _ _ q => key q) ((pt_val pe0).imp fun σ H Q q => key (tt_of_te q))
/-! slices -/
def plainIx : Expr → Bool
  | .Slice _ _ _ _ => false
  | .Tuple _ _ _ => false
  | _ => true
theorem po_part {o : Option Expr} {ms : List M} (h : match o, ms with | none, [] => True | some e, [m] => SE X e m | _, _ => False) : PO X o (fun σ H Q => ∃ O env l env', W X.K O H env σ ∧ partM ms env = some (l, env') ∧
    ∀ O' H', Step O H (FpE H env σ) O' H' (FpE H' env' σ) → W X.K O' H' env' σ → Q l H') := by
  cases o with
  | none =>
    cases ms with
    | nil =>
      refine ⟨fun pins s σ H Q I q => po_none.run pins s σ H Q I ?_⟩
      obtain ⟨O, env, l, env', w, e, q⟩ := q
      cases e
      exact q O H (Step.refl w.own) w
    | cons _ _ => exact h.elim
  | some e =>
    match ms, h with
    | [m], h =>
      refine ⟨fun pins s σ H Q I q => (po_some h.opd).run pins s σ H Q I ?_⟩
      obtain ⟨O, env, l, env', w, e, q⟩ := q
      simp only [partM, Option.bind_eq_some_iff] at e
      obtain ⟨⟨p, e1⟩, h1, d, h2, h3⟩ := e
      refine ⟨O, env, p, e1, w, h1, fun O' H' v st w' r => ?_⟩
      have rp := RepO.get w' r h2
      cases d with
      | int i => cases h3; exact ⟨i, rp.int, q O' H' st w'⟩
      | _ => cases h3
    | [], h => exact h.elim
    | _ :: _ :: _, h => exact h.elim
theorem cut_rep {O : Own} {H : Hp} {xs : List D} {vs : List V} (r : RepDs K O H xs vs) (lo hi : Option Int) : RepDs K O H (cutD xs lo hi) (cutV vs lo hi) := by
  unfold cutD cutV
  rw [r.length]
  exact (r.drop _).take _
theorem cutV_whole {vs : List V} {lo hi : Option Int} (h : HT.sIx vs.length 0 lo = 0 ∧ HT.sIx vs.length vs.length hi = vs.length) : cutV vs lo hi = vs := by
  unfold cutV; rw [h.1, h.2]; simp
theorem se_slc {a : Expr} {ma : M} {lo hi : Option Expr} {ml mh : List M} {p2 pos : Pos} (ha : SE X a ma) (hl : match lo, ml with | none, [] => True | some e, [m] => SE X e m | _, _ => False) (hh : match hi, mh with | none, [] => True | some e, [m] => SE X e m | _, _ => False) :
    SE X (.Subscript a (.Slice lo hi none p2) pos) (slcM ma ml mh) := .ofVal rfl ((pe_slice (SlR.or sl_list sl_tupA) ha.opd (po_part hl) (po_part hh)).imp fun σ H Q q => by
  obtain ⟨O, env, s, env', w, e, q⟩ := q
  simp only [Option.bind_eq_some_iff, Option.map_eq_some_iff] at e
  obtain ⟨⟨p, e1⟩, h1, ⟨l, e2⟩, h2, ⟨h, e3⟩, h3, x, h4, res, h5, h6⟩ := e
  cases h6
  refine ⟨O, env, p, e1, w, h1, fun O1 H1 v st1 w1 rp => ⟨O1, e1, l, e2, w1, h2, fun O2 H2 st2 w2 => ⟨O2, e2, h, e3, w2, h3, fun O3 H3 st3 w3 => ?_⟩⟩⟩
  have r3 := RepO.get w3 (RepO.evo st3.evo (RepO.evo st2.evo rp)) h4
  have q3 : RP X.K O3 H3 s Q := RP.end_ w3 fun O4 H4 v4 st4 wr => q O4 H4 v4 (((st1.trans st2 fun _ z => z).trans st3 fun _ z => z).trans st4 fun _ z => z) wr
  cases x with
  | list xs =>
    cases h5
    obtain ⟨a, us, rfl, g1, g2⟩ := r3.list
    exact .inl ⟨a, us, rfl, SqL.of g1, fun p hp => q3.lst w3.own (cut_rep g2 _ _) p hp⟩
  | tuple xs =>
    cases h5
    obtain ⟨a, us, rfl, g1, g2⟩ := r3.tuple
    refine .inr ⟨a, us, rfl, g1, fun hw => ?_, fun hw p hp => q3.tup w3.own (cut_rep g2 _ _) p hp⟩
    refine q3.same w3.own ?_
    simp only [RepD]
    refine ⟨a, us, rfl, g1, ?_⟩
    have := cut_rep g2 l h
    rw [cutV_whole hw] at this
    exact this
  | _ => cases h5)
/-! x[::-1] -/
theorem ho_rev : HOp1 K revD (fun x H Q => (∃ a xs, x = .ref a ∧ SqL K H a xs ∧ ∀ p, H p = none → Q (.ref p) (upd H p (.lst xs.reverse))) ∨
  (∃ a xs, x = .ref a ∧ SqT K H a xs ∧ ∀ p, H p = none → Q (.ref p) (upd H p (.tup xs.reverse)))) := by
  intro O H d x res Q own h e q
  have rv : ∀ {ds : List D} {vs : List V}, RepDs K O H ds vs → RepDs K O H ds.reverse vs.reverse := by
    intro ds
    induction ds with
    | nil => intro vs h; simp only [RepDs] at h; subst h; simp [RepDs]
    | cons d ds ih =>
      intro vs h
      simp only [RepDs] at h
      obtain ⟨v, r, rfl, h1, h2⟩ := h
      rw [List.reverse_cons, List.reverse_cons]
      exact (ih h2).append (by simp only [RepDs]; exact ⟨v, [], rfl, h1, rfl⟩)
  cases d with
  | list xs =>
    cases e
    obtain ⟨a, vs, rfl, s1, r1⟩ := h.list
    exact .inl ⟨a, vs, rfl, SqL.of s1, fun p hp => q.lst own (rv r1) p hp⟩
  | tuple xs =>
    cases e
    obtain ⟨a, vs, rfl, s1, r1⟩ := h.tuple
    exact .inr ⟨a, vs, rfl, s1, fun p hp => q.tup own (rv r1) p hp⟩
  | _ => cases e
theorem se_rev {a : Expr} {ma : M} {k : Nat} {p1 p2 p3 pos : Pos} (ha : SE X a ma) : SE X (.Subscript a (.Slice none none (some (.UnaryOp .USub (.Constant (.int 1) k p1) p2)) p3) pos) (op1 revD ma) :=
  .ofVal rfl ((pe_revA ha.opd).imp fun _ _ _ q => te_op1 ho_rev q)
/-! is True, is False -/
theorem te_isb {K : PySem.W.Frag} {ng k : Bool} {ma : M} {σ : St} {H : Hp} {Q : VK} (q : tE K (op1 (isbD ng k) ma).val σ H Q) : tO K ma.opd σ H fun x H1 => (if ng then rNotB else rIsB) x (.bl k) H1 Q := by
  refine te_op1 (r := fun x H Q => (if ng then rNotB else rIsB) x (.bl k) H Q) (fun O H d x res Q own h e q => ?_) q
  cases d with
  | bool b =>
    have e1 := h.bool
    subst e1
    cases ng with
    | true => cases e; exact ⟨b, k, rfl, rfl, q.same own (by simp only [RepD]; rfl)⟩
    | false => cases e; exact ⟨b, k, rfl, rfl, q.same own (by simp only [RepD]; rfl)⟩
  | _ => cases e
theorem se_isb {a : Expr} {ma : M} {ng k : Bool} {j : Nat} {p pos : Pos} (ha : SE X a ma) : SE X (.Compare a [if ng then .IsNot else .Is] [.Constant (.bool k) j p] pos) (.cmp (op1 (isbD ng k) ma).val) := by
  cases ng with
  | true => exact se_of_cmp ((pe_cmpR op_notBl ha.opd pe_bl (by rfl)).imp fun σ H Q q => te_isb (ng := true) q) ((pt_cmpR op_notBl ha.opd pe_bl (by rfl)).imp fun σ H Q q => te_isb (ng := true) (tt_of_te q))
  | false => exact se_of_cmp ((pe_cmpR op_isBl ha.opd pe_bl (by rfl)).imp fun σ H Q q => te_isb (ng := false) q) ((pt_cmpR op_isBl ha.opd pe_bl (by rfl)).imp fun σ H Q q => te_isb (ng := false) (tt_of_te q))
/-! list(range(..)), tuple(range(..)) -/
theorem rgv_rep {O : Own} {H : Hp} (a b : Int) : RepDs K O H (rngL a (b - a).toNat) (rgV a b) := by
  have := RepDs.ints (K := K) (O := O) (H := H) ((List.range (b - a).toNat).map fun i => a + (i : Nat))
  simpa [rngL, rgV, List.map_map, Function.comp_def] using this
def rgvName (tup : Bool) : Str := if tup then "tuple" else "list"
theorem rgv_end {K : PySem.W.Frag} {tup : Bool} {ms : List M} {σ : St} {H : Hp} {Q : VK} (q : tE K (rgvM tup ms).val σ H Q) : tOs K (opsM ms) σ H fun vs H1 => ∃ a b, (vs = [.int b] ∧ a = 0 ∨ vs = [.int a, .int b]) ∧ RgOk a b ∧
    ∀ q, H1 q = none → Q (.ref q) (upd H1 q (if tup then .tup (rgV a b) else .lst (rgV a b))) := by
  obtain ⟨O, env, s, env', w, e, q⟩ := q
  simp only [rgvM, M.ofVal, Option.bind_eq_some_iff, Option.map_eq_some_iff] at e
  obtain ⟨⟨ps, e1⟩, h1, ds, h2, res, h3, h4⟩ := e
  cases h4
  refine ⟨O, env, ps, e1, w, h1, fun O' H' vs st w' rp => ?_⟩
  have r := RepOs.gets w' rp h2
  have q3 : RP K O' H' s Q := RP.end_ w' fun O2 H2 v2 st2 wr => q O2 H2 v2 (st.trans st2 fun _ z => z) wr
  have fin : ∀ a b, s = (if tup = true then Sl.v (.tuple (rngL a (b - a).toNat)) else .l (rngL a (b - a).toNat)) → ∀ p, H' p = none → Q (.ref p) (upd H' p (if tup = true then .tup (rgV a b) else .lst (rgV a b))) := by
    intro a b hs p hp
    cases tup with
    | true => rw [if_pos rfl] at hs ⊢; subst hs; exact q3.tup w'.own (rgv_rep a b) p hp
    | false => rw [if_neg (by decide)] at hs ⊢; subst hs; exact q3.lst w'.own (rgv_rep a b) p hp
  match ds, r, h3 with
  | [.int n], r, h3 =>
    simp only [rgvD] at h3
    split at h3
    · rename_i ok
      obtain ⟨v, rfl, h⟩ := one_ps r
      have h := h.int
      subst h
      refine ⟨0, n, .inl ⟨rfl, rfl⟩, ok, fin 0 n ?_⟩
      rw [Int.sub_zero]
      exact (Option.some.inj h3).symm
    · cases h3
  | [.int a, .int b], r, h3 =>
    simp only [rgvD] at h3
    split at h3
    · rename_i ok
      obtain ⟨v, u, rfl, h, g⟩ := two_ps r
      have h := h.int
      have g := g.int
      subst h g
      exact ⟨a, b, .inr rfl, ok, fin a b (Option.some.inj h3).symm⟩
    · cases h3
  | [], _, h3 => cases h3
  | .none :: _, _, h3 => cases h3
  | .bool _ :: _, _, h3 => cases h3
  | .str _ :: _, _, h3 => cases h3
  | .tuple _ :: _, _, h3 => cases h3
  | .list _ :: _, _, h3 => cases h3
  | .dict _ :: _, _, h3 => cases h3
  | .int _ :: .none :: _, _, h3 => cases h3
  | .int _ :: .bool _ :: _, _, h3 => cases h3
  | .int _ :: .str _ :: _, _, h3 => cases h3
  | .int _ :: .tuple _ :: _, _, h3 => cases h3
  | .int _ :: .list _ :: _, _, h3 => cases h3
  | .int _ :: .dict _ :: _, _, h3 => cases h3
  | .int _ :: .int _ :: _ :: _, _, h3 => cases h3
theorem se_rgv {tup : Bool} {es : List Expr} {ms : List M} {p p2 q pos : Pos} (hc : X.calm = true) (hg : Gl X "range") (hm : X.mg "range" = none) (hg2 : Gl X (rgvName tup)) (hm2 : X.mg (rgvName tup) = none) (n : es.all notStar = true) (hl : es.length = 1 ∨ es.length = 2) (h : SEs X es ms) :
    SE X (.Call (.Name (rgvName tup) p) [.Call (.Name "range" p2) es [] q] [] pos) (rgvM tup ms) := by
  have key : ∀ {t : St → Hp → (Int → Int → Hp → Prop) → Prop}, PRg X (.Call (.Name "range" p2) es [] q) t → (∀ {σ : St} {H : Hp} {Q : Int → Int → Hp → Prop}, tOs X.K (opsM ms) σ H (fun vs H1 => ∃ a b, (vs = [.int b] ∧ a = 0 ∨ vs = [.int a, .int b]) ∧ Q a b H1) → t σ H Q) →
      SE X (.Call (.Name (rgvName tup) p) [.Call (.Name "range" p2) es [] q] [] pos) (rgvM tup ms) := fun {t} pr ht => by
    have fin : ∀ {σ : St} {H : Hp} {Q : VK}, tE X.K (rgvM tup ms).val σ H Q → t σ H fun a b H1 => RgOk a b ∧ ∀ q, H1 q = none → Q (.ref q) (upd H1 q (if tup then .tup (rgV a b) else .lst (rgV a b))) := fun {σ H Q} q => by
      refine ht ?_
      obtain ⟨O, env, ps, e1, w, h1, k⟩ := rgv_end q
      refine ⟨O, env, ps, e1, w, h1, fun O' H' vs st w' rp => ?_⟩
      obtain ⟨a, b, h2, h3, h4⟩ := k O' H' vs st w' rp
      exact ⟨a, b, h2, h3, h4⟩
    cases tup with
    | true => exact .ofVal rfl ((pe_tupRg hc hg2 hm2 pr).imp fun _ _ _ q => fin q)
    | false => exact .ofVal rfl ((pe_listRg hc hg2 hm2 pr).imp fun _ _ _ q => fin q)
  match es, ms, h, hl with
  | [e], [m], .cons h1 .nil, _ =>
    simp only [List.all_cons, Bool.and_eq_true] at n
    refine key (prg_1 hg hm h1.opd (star_of n.1)) fun {σ H Q} q => ?_
    obtain ⟨O, env, ps, env', w, e, k⟩ := q
    simp only [opsM, Option.bind_eq_some_iff, Option.map_eq_some_iff] at e
    obtain ⟨⟨d, e1⟩, g1, ⟨ds', e2⟩, g2, g3⟩ := e
    cases g2
    cases g3
    refine ⟨O, env, d, e1, w, g1, fun O1 H1 v1 st1 w1 r1 => ?_⟩
    obtain ⟨a, b, h2, h3⟩ := k O1 H1 [v1] st1 w1 ⟨v1, [], rfl, r1, rfl⟩
    rcases h2 with ⟨h2, rfl⟩ | h2
    · cases h2; exact ⟨b, rfl, h3⟩
    · cases h2
  | [e, e'], [m, m'], .cons h1 (.cons h2 .nil), _ =>
    simp only [List.all_cons, Bool.and_eq_true] at n
    refine key (prg_2 hg hm h1.opd h2.opd (star_of n.1) (star_of n.2.1) (any_star (by simp [n.2.1]))) fun {σ H Q} q => ?_
    obtain ⟨O, env, ps, env', w, e, k⟩ := q
    simp only [opsM, Option.bind_eq_some_iff, Option.map_eq_some_iff] at e
    obtain ⟨⟨d, e1⟩, g1, ⟨ds', e2⟩, ⟨⟨d2, e3⟩, g2, ⟨ds2, e4⟩, g4, g5⟩, g3⟩ := e
    cases g4
    cases g5
    cases g3
    refine ⟨O, env, d, e1, w, g1, fun O1 H1 v1 st1 w1 r1 => ⟨O1, e1, d2, e3, w1, g2, fun O2 H2 v2 st2 w2 r2 => ?_⟩⟩
    obtain ⟨a, b, h2, h3⟩ := k O2 H2 [v1, v2] (st1.trans st2 fun _ z => z) w2 ⟨v1, _, rfl, RepO.evo st2.evo r1, v2, [], rfl, r2, rfl⟩
    rcases h2 with ⟨h2, _⟩ | h2
    · cases h2
    · cases h2; exact ⟨a, b, rfl, rfl, h3⟩
  | [], _, _, hl => simp at hl
  | _ :: _ :: _ :: _, _, _, hl => simp at hl
/-! sorted(set(t)) -/
theorem se_sset {a : Expr} {ma : M} {p p2 q pos : Pos} (hc : X.calm = true) (hg : Gl X "sorted") (hm : X.mg "sorted" = none) (hg2 : Gl X "set") (hm2 : X.mg "set" = none) (n : notStar a = true) (h : SE X a ma) :
    SE X (.Call (.Name "sorted" p) [.Call (.Name "set" p2) [a] [] q] [] pos) (op1 ssetD ma) := by
  have p1 := pe_callTy (X := X) (pos := q) (p := p2) (cr_setT hc) hg2 hm2 PyProof.Rows.boot_set (pa_cons h.opd pa_nil (star_of n)) (by decide) (by decide) (star_of n) (any_star (by rfl))
  have p3 := pe_callB (X := X) (pos := pos) (p := p) (cr_sortedSet hc) hg hm PyProof.Rows.boot_sorted (pa_cons p1 pa_nil) (by decide) (by decide) (by rfl) (by rfl)
  refine .ofVal rfl (p3.imp fun σ H Q q => ?_)
  exact te_op1 (r := fun x H Q => rSetT X.K X.w [x] H fun v H2 => rSortedSet X.w [v] H2 Q) ho_sset q
/-! s.upper() -/
theorem se_upper {o : Expr} {mo : M} {apos cpos : Pos} (h1 : SE X o mo) (ho : attributeBase o "upper" X.env (eval o X.env) = eval o X.env) (hline : (apos.endLine == cpos.line) = true) :
    SE X (.Call (.Attribute o "upper" apos) [] [] cpos) (upperM mo) := by
  refine .ofVal rfl ((pe_upper h1.opd ho hline).imp fun σ H Q q => ?_)
  obtain ⟨O, env, s, env', w, e, q⟩ := q
  simp only [Option.bind_eq_some_iff, Option.map_eq_some_iff] at e
  obtain ⟨⟨p, e1⟩, g1, x0, g2, e⟩ := e
  dsimp only at g2 e
  split at e
  case isFalse => cases e
  simp only [Option.map_eq_some_iff] at e
  obtain ⟨res, g3, g4⟩ := e
  cases g4
  refine ⟨O, env, p, env', w, g1, fun O1 H1 v st1 w1 rp1 => ?_⟩
  have r := RepO.get w1 rp1 g2
  have q3 : RP X.K O1 H1 s Q := RP.end_ w1 fun O3 H3 v3 st3 wr => q O3 H3 v3 (st1.trans st3 fun _ z => z) wr
  cases x0 with
  | str a =>
    have e2 := r.str
    subst e2
    simp only [upperD] at g3
    split at g3
    · rename_i hl
      cases g3
      exact ⟨⟨a, rfl⟩, a, rfl, rfl, hl, q3.same w1.own (by simp only [RepD])⟩
    · cases g3
  | _ => cases g3
/-! x.pop() -/
theorem se_pop {x : Nat} {n : Str} {p apos cpos : Pos} (hN : X.N[x]? = some n) (hv : Vis X.env.scope n) (hd : (n == ("__debug__" : Str)) = false) (hcd : (n == ("__classdict__" : Str)) = false)
    (hbase : attributeBase (.Name n p) "pop" X.env (eval (.Name n p) X.env) = eval (.Name n p) X.env) (hline : (apos.endLine == cpos.line) = true) : SE X (.Call (.Attribute (.Name n p) "pop" apos) [] [] cpos) (popM x) :=
  .ofVal rfl ((pe_bm0 PySem.F.plainAttrs_list PySem.F.slot_list_pop PySem.F.type_list_pop mt_pop (pe_slot hN hv hd hcd) hbase hline).imp fun σ H Q q => by
  obtain ⟨O, env, s, env', w, e, q⟩ := q
  dsimp only at e
  split at e
  case h_2 => cases e
  rename_i xs g1
  split at e
  case h_2 => cases e
  rename_i d g2
  cases e
  rcases w.rep x _ g1 with z | ⟨v, sx, r⟩
  · cases z
  obtain ⟨a, vs, rfl, h1, h2, h3⟩ := id r
  have hl := h3.length
  have gl : xs[xs.length - 1]? = some d := by rw [← g2]; exact List.getLast?_eq_getElem?.symm
  obtain ⟨y, g3, g4⟩ := h3.get gl
  refine ⟨.ref a, sx, .inl ⟨rfl, vs, SqL.of h1⟩, a, vs, y, rfl, rfl, h1, by rw [← hl]; exact g3, ?_⟩
  have rd : RepDs X.K O H xs.dropLast vs.dropLast := by
    rw [List.dropLast_eq_take, List.dropLast_eq_take, hl]; exact h3.take _
  obtain ⟨w3, st3⟩ := w.write g1 a sx rd
  exact q O _ y (st3.sub fun b f => f.elim id fun z => z.elim) ⟨w3, RepD.evo st3.evo _ _ g4, fun b f => f.elim⟩)
/-! methods of lists, with one argument -/
def mtName : Mt → Str
  | .index => "index"
def attOk : Expr → Bool
  | .Call _ [] [] _ => false
  | _ => true
theorem att_ok {o : Expr} {name : Str} {env : PySem.Env} (h : attOk o = true) : attributeBase o name env (eval o env) = eval o env := by
  unfold attributeBase
  cases o with
  | Call g es kw p =>
    cases g <;> cases es <;> cases kw <;> first | rfl | cases h
  | _ => rfl
def rMt (K : PySem.W.Frag) : Mt → V → List V → Hp → VK → Prop
  | .index => rIndexD K
theorem idxOf_some : ∀ {d : D} {xs : List D} {k n : Nat}, idxOf d xs k = some n → ∃ j z, n = k + j ∧ xs[j]? = some z ∧ PyData.eqv z d = true ∧ ∀ (m : Nat) (z' : D), m < j → xs[m]? = some z' → PyData.eqv z' d = false
  | d, [], k, n, h => by cases h
  | d, x :: xs, k, n, h => by
    simp only [idxOf] at h
    split at h
    · rename_i hx
      cases h
      exact ⟨0, x, rfl, rfl, hx, fun m z' hm => by omega⟩
    · rename_i hx
      obtain ⟨j, z, e, h1, h2, h3⟩ := idxOf_some h
      refine ⟨j + 1, z, by omega, by simpa using h1, h2, fun m z' hm hz => ?_⟩
      cases m with
      | zero => have : x = z' := by simpa using hz
                subst this; simpa using hx
      | succ m => exact h3 m z' (by omega) (by simpa using hz)
theorem se_mth {k : Nat} {m : Mt} {o e : Expr} {mo me : M} {apos cpos : Pos} (hr : Room k X.A) (ho : attOk o = true) (n : notStar e = true) (hline : (apos.endLine == cpos.line) = true) (h1 : SE X o mo) (h2 : SE X e me) :
    SE X (.Call (.Attribute o (mtName m) apos) [e] [] cpos) (mthM m mo me) := by
  have hu : X.A.units + 65 < cLine := by have := hr.un; omega
  have hfew : ((backTo cpos (starEach [e] X.env)).all (fun x => !x.1) && (backToKw cpos (keywordEach [] X.env)).all (fun x => x.1.isSome) && decide (([e] : List Expr).length + ([] : List Keyword).length + (if ([] : List Keyword).isEmpty then 0 else 1) < 30)) = true := by
    rw [star_of n]; rfl
  have pe : PE X (.Call (.Attribute o (mtName m) apos) [e] [] cpos) (tBM X.K "list" (rMt X.K m) (tO X.K mo.opd) (tCons (tO X.K me.opd) tNil)) := by
    cases m
    exact pe_bm PySem.F.plainAttrs_list PySem.F.slot_list_index PySem.F.type_list_index (mt_indexD hu) h1.opd (pa_cons h2.opd pa_nil (star_of n)) (att_ok ho) hfew hline (star_of n) rfl
  refine .ofVal rfl (pe.imp fun σ H Q q => ?_)
  obtain ⟨O, env, s, env', w, e, q⟩ := q
  simp only [Option.bind_eq_some_iff, Option.map_eq_some_iff] at e
  obtain ⟨⟨p, e1⟩, g1, x0, g2, e⟩ := e
  dsimp only at g2 e
  split at e
  case isFalse => cases e
  rename_i hl
  simp only [Option.bind_eq_some_iff, Option.map_eq_some_iff] at e
  obtain ⟨⟨p2, e2⟩, g3, x, g4, y, g5, res, g6, g7⟩ := e
  cases g7
  refine ⟨O, env, p, e1, w, g1, fun O1 H1 v st1 w1 rp1 => ⟨?_, O1, e1, p2, e2, w1, g3, fun O2 H2 v2 st2 w2 rp2 => ?_⟩⟩
  · have r := RepO.get w1 rp1 g2
    cases x0 with
    | list xs =>
      obtain ⟨a, us, rfl, h5, h6⟩ := r.list
      exact .inl ⟨rfl, us, SqL.of h5⟩
    | _ => cases hl
  · have rx := RepO.get w2 (RepO.evo st2.evo rp1) g4
    have ry := RepO.get w2 rp2 g5
    have q3 : RP X.K O2 H2 s Q := RP.end_ w2 fun O3 H3 v3 st3 wr => q O3 H3 v3 ((st1.trans st2 fun _ z => z).trans st3 fun _ z => z) wr
    cases m
    cases x with
    | list xs =>
      simp only [mthD] at g6
      split at g6
      case isFalse => cases g6
      rename_i hs
      simp only [Option.map_eq_some_iff] at g6
      obtain ⟨n, h7, h8⟩ := g6
      subst h8
      obtain ⟨j, z, e, i1, i2, i3⟩ := idxOf_some h7
      have ej : n = j := by omega
      subst ej
      obtain ⟨a, us, rfl, h5, h6⟩ := rx.list
      exact ⟨a, v2, y, xs, n, z, rfl, rfl, rx.dp, ry.dp, hs.1, hs.2, i1, i2, i3, q3.same w2.own (by simp only [RepD])⟩
    | _ => cases g6
end
end Mini

namespace Mini
open PySem PySem.Spec L2
/-! own functions -/
/-- what is told of the arguments behind a call: the box alone -/
def wb : En → En → En
  | .bx _ _ :: r, .bx cs rs :: _ => .bx cs rs :: r.map fun _ => .no
  | as, _ => as.map fun _ => .no
/-- the promise of function f: whatever P answers, the call answers -/
def spF (K : PySem.W.Frag) (P : Ph) (f : Nat) : Sp := fun vs H Q _ => ∃ O as r as', W K O H as (vs.map some) ∧ P f as = some (r, as') ∧
  ∀ O' H' v, Step O H (FpE H as (vs.map some)) O' H' (FpR H' (wb as as') (vs.map some) r v) → WR K O' H' (wb as as') (vs.map some) r v → Q v H'
section
variable {K : PySem.W.Frag} {O O' : Own} {H H' : Hp} {env : En} {σ : St}
theorem getSome {vs : List V} {i : Nat} : (vs.map some)[i]? = (vs[i]?).map some := List.getElem?_map
theorem rep_at {ds : List D} {vs : List V} (r : RepDs K O H ds vs) {i : Nat} {s : Sl} (e : (ds.map Sl.v)[i]? = some s) : ∃ d v, s = .v d ∧ vs[i]? = some v ∧ RepD K O H d v := by
  rw [List.getElem?_map] at e
  cases h : ds[i]? with
  | none => rw [h] at e; cases e
  | some d =>
    rw [h] at e; cases e
    obtain ⟨v, h1, h2⟩ := r.get h
    exact ⟨d, v, rfl, h1, h2⟩
/-- plain arguments stand -/
theorem W.ofArgs {ds : List D} {vs : List V} (own : OwnOk O H) (r : RepDs K O H ds vs) : W K O H (ds.map .v) (vs.map some) ∧ ∀ b, ¬ FpE H (ds.map .v) (vs.map some) b := by
  have no : ∀ (i : Nat) (s : Sl) (v : V) (b : Addr), (ds.map Sl.v)[i]? = some s → Fp H s v b → False := fun i s v b e f => by
    obtain ⟨d, u, rfl, _⟩ := rep_at r e
    exact f
  refine ⟨⟨own, by simp [r.length], fun i s e => ?_, fun i j s t v u b n e1 e2 e3 e4 f1 f2 => no i s v b e1 f1⟩, fun b ⟨i, s, v, e1, e2, f⟩ => no i s v b e1 f⟩
  obtain ⟨d, u, rfl, h1, h2⟩ := rep_at r e
  exact .inr ⟨u, by rw [getSome, h1]; rfl, h2⟩
theorem W.nos {as : En} (own : OwnOk O H) (l : as.length = σ.length) : W K O H (as.map fun _ => .no) σ ∧ ∀ b, ¬ FpE H (as.map fun _ => .no) σ b := by
  have no : ∀ (i : Nat) (s : Sl), (as.map fun _ => Sl.no)[i]? = some s → s = .no := fun i s e => by
    rw [List.getElem?_map] at e
    cases h : as[i]? with
    | none => rw [h] at e; cases e
    | some d => rw [h] at e; cases e; rfl
  refine ⟨⟨own, by simp [l], fun i s e => .inl (no i s e), fun i j s t v u b n e1 e2 e3 e4 f1 f2 => ?_⟩, fun b ⟨i, s, v, e1, e2, f⟩ => ?_⟩
  · rw [no i s e1] at f1; exact f1
  · rw [no i s e1] at f; exact f
theorem wb_plain {ds : List D} {as' : En} : wb (ds.map .v) as' = (ds.map Sl.v).map fun _ => .no := by
  cases ds <;> rfl
/-- a call without a box, as an operation -/
theorem call_plain {P : Ph} {f : Nat} {ds : List D} {vs : List V} {r : Sl} {as' : List Sl} {Q : VK} {E : XK} (own : OwnOk O H) (rd : RepDs K O H ds vs) (e : P f (ds.map .v) = some (r, as')) (q : RP K O H r Q) : spF K P f vs H Q E := by
  obtain ⟨w, nf⟩ := W.ofArgs own rd
  refine ⟨O, ds.map .v, r, as', w, e, fun O' H' v st wr => ?_⟩
  rw [wb_plain] at wr st
  exact q O' H' v ⟨st.evo, st.own, fun b e _ => st.keepO b e (nf b), fun b f => (st.fps b (.inr f)).elim (fun z => (nf b z).elim) .inr⟩ wr.val
end
section
variable {X : Cx} {P : Ph}
/-- a function of the program, callable -/
structure FnC (X : Cx) (P : Ph) (lev : Nat) (j : Nat) (x : Str) : Prop where
  ex : ∃ (f : Addr) (fd : FuncData) (ps : List Str), FnOk X.prog X.w X.K X.mg X.base CX0 lev f fd ps (spF X.K P j) ∧ X.mg x = some (.ref f) ∧ PySem.W.keepIn X.K (.ref f) = true ∧ Binds X.K fd ps []
theorem se_call {lev j : Nat} {x : Str} {e : Expr} {es : List Expr} {ms : List M} {p pos : Pos} (hr : Room lev X.A) (F : FnC X P lev j x) (hg : Gl X x) (hdb : (x == ("__debug__" : Str)) = false) (n : (e :: es).all notStar = true) (h : SEs X (e :: es) ms) : SE X (.Call (.Name x p) (e :: es) [] pos) (callM P j ms) := by
  obtain ⟨f, fd, ps, G, hm, hk, hb⟩ := F.ex
  have hs : starEach (e :: es) X.env = (false, eval e X.env) :: starEach es X.env := star_of (by simp only [List.all_cons, Bool.and_eq_true] at n; exact n.1)
  have hpl : (backTo pos (starEach es X.env)).any (·.1) = false := any_star (by simp only [List.all_cons, Bool.and_eq_true] at n; exact n.2)
  refine .ofVal rfl ((pe_call G hr hg hm hk hb .nil (pass0 (X := X)) (pa_args n h) hdb hs hpl).imp fun σ H Q q => ?_)
  obtain ⟨O, env, s, env', w, e, q⟩ := q
  simp only [Option.bind_eq_some_iff, Option.map_eq_some_iff, retOf] at e
  obtain ⟨⟨ds, e1⟩, h1, _, ⟨⟨r, as'⟩, h2, rfl⟩, h3⟩ := e
  cases h3
  refine ⟨O, env, ds, e1, w, h1, fun O1 H1 vs st1 w1 rd => ?_⟩
  show spF X.K P j (vs ++ []) H1 Q E0
  rw [List.append_nil]
  exact call_plain w1.own rd h2 (RP.end_ w1 fun O2 H2 v2 st2 wr => q O2 H2 v2 (st1.trans st2 fun _ z => z) wr)
/-- the script handed on -/
theorem se_callS {lev j i : Nat} {x n : Str} {p p2 pos : Pos} (hr : Room lev X.A) (F : FnC X P lev j x) (hg : Gl X x) (hdb : (x == ("__debug__" : Str)) = false) (hN : X.N[i]? = some n) (hv : Vis X.env.scope n) (hd : (n == ("__debug__" : Str)) = false) (hcd : (n == ("__classdict__" : Str)) = false) :
    SE X (.Call (.Name x p) [.Name n p2] [] pos) (callSM P j i) := by
  obtain ⟨f, fd, ps, G, hm, hk, hb⟩ := F.ex
  refine .ofVal rfl ((pe_call G hr hg hm hk hb .nil (pass0 (X := X)) (pa_cons (pe_slot hN hv hd hcd) pa_nil (star_of rfl)) hdb (star_of rfl) (any_star rfl)).imp fun σ H Q q => ?_)
  obtain ⟨O, env, s, env', w, e, q⟩ := q
  dsimp only at e
  split at e
  case h_2 => cases e
  rename_i ns g1
  simp only [Option.map_eq_some_iff, retOf] at e
  obtain ⟨_, ⟨⟨r, as'⟩, h2, rfl⟩, h3⟩ := e
  cases h3
  rcases w.rep i _ g1 with z | ⟨v, s1, rb⟩
  · cases z
  refine ⟨v, s1, ?_⟩
  show spF X.K P j ([v] ++ []) H Q E0
  have at0 : ∀ (k : Nat) (t : Sl), ([Sl.sc ns])[k]? = some t → k = 0 ∧ t = .sc ns := fun k t z => by
    cases k with
    | zero => exact ⟨rfl, by simpa using z.symm⟩
    | succ k => simp at z
  have wa : W X.K O H [.sc ns] ([v].map some) := by
    refine ⟨w.own, rfl, fun k t z => ?_, fun k l t t' v v' b ne e1 e2 e3 e4 f1 f2 => ?_⟩
    · obtain ⟨rfl, rfl⟩ := at0 k t z
      exact .inr ⟨v, rfl, rb⟩
    · obtain ⟨rfl, rfl⟩ := at0 k t e1
      exact f1
  have nf : ∀ b, ¬ FpE H [.sc ns] ([v].map some) b := fun b ⟨k, t, u, e1, e2, f⟩ => by
    obtain ⟨rfl, rfl⟩ := at0 k t e1
    exact f
  refine ⟨O, [.sc ns], r, as', wa, h2, fun O' H' v' st wr => ?_⟩
  have st' : Step O H F0 O' H' (fun b => Fp H' r v' b) := ⟨st.evo, st.own, fun b e _ => st.keepO b e (nf b), fun b f => (st.fps b (.inr f)).elim (fun z => (nf b z).elim) .inr⟩
  exact RP.end_ w (fun O2 H2 v2 st2 wr => q O2 H2 v2 st2 wr) O' H' v' st' wr.val
theorem isB_slot {K : PySem.W.Frag} {O : Own} {H : Hp} {env : En} {σ : St} {x : Nat} (w : W K O H env σ) (h : isB env[x]? = true) : ∃ v, σ[x]? = some (some v) := by
  cases e : env[x]? with
  | none => rw [e] at h; cases h
  | some s =>
    cases s with
    | bx cs rs =>
      rcases w.rep x _ e with z | ⟨v, h1, h2⟩
      · cases z
      · exact ⟨v, h1⟩
    | _ => rw [e] at h; cases h
theorem se_callB {lev j i : Nat} {x n : Str} {es : List Expr} {ms : List M} {p p2 pos : Pos} (hr : Room lev X.A) (F : FnC X P lev j x) (hg : Gl X x) (hdb : (x == ("__debug__" : Str)) = false) (hN : X.N[i]? = some n) (hv : Vis X.env.scope n) (hd : (n == ("__debug__" : Str)) = false) (hcd : (n == ("__classdict__" : Str)) = false)
    (ns : es.all notStar = true) (h : SEs X es ms) : SE X (.Call (.Name x p) (.Name n p2 :: es) [] pos) (callBM P j i ms) := by
  obtain ⟨f, fd, ps, G, hm, hk, hb⟩ := F.ex
  refine .ofVal rfl ((pe_call G hr hg hm hk hb .nil (pass0 (X := X)) (pa_cons (pe_slot hN hv hd hcd) (pa_args ns h) (star_of rfl)) hdb (star_of rfl) (any_star ns)).imp fun σ H Q q => ?_)
  obtain ⟨O, env, s, env', w, e, q⟩ := q
  dsimp only at e
  split at e
  case isFalse => cases e
  rename_i hB
  simp only [Option.bind_eq_some_iff] at e
  obtain ⟨⟨ds, e1⟩, h1, e⟩ := e
  split at e
  case h_2 => cases e
  rename_i cs rs g1
  simp only [Option.bind_eq_some_iff, retB] at e
  obtain ⟨⟨r, bb⟩, ⟨⟨r', as'⟩, h2, h2'⟩, e⟩ := e
  dsimp only at h2'
  split at h2'
  case h_2 => cases h2'
  rename_i b0 rest g3
  cases h2'
  dsimp only at e
  split at e
  case h_2 => cases e
  rename_i cs2 rs2
  cases e
  obtain ⟨vb, sb⟩ := isB_slot w hB
  refine ⟨vb, sb, O, env, ds, e1, w, h1, fun O1 H1 vs st1 w1 rd => ?_⟩
  show spF X.K P j (vb :: vs ++ []) H1 Q E0
  rw [List.append_nil]
  rcases w1.rep i _ g1 with z | ⟨u, s1, rb⟩
  · cases z
  rw [sb] at s1; cases s1
  -- the arguments
  have at0 : ∀ (k : Nat) (t : Sl), (Sl.bx cs rs :: ds.map Sl.v)[k]? = some t → (k = 0 ∧ t = .bx cs rs) ∨ ∃ k', k = k' + 1 ∧ (ds.map Sl.v)[k']? = some t := fun k t z => by
    cases k with
    | zero => exact .inl ⟨rfl, by simpa using z.symm⟩
    | succ k => exact .inr ⟨k, rfl, by simpa using z⟩
  have nov : ∀ (k : Nat) (t : Sl) (v : V) (b : Addr), (ds.map Sl.v)[k]? = some t → Fp H1 t v b → False := fun k t v b z f => by
    obtain ⟨d, u, rfl, _⟩ := rep_at rd z
    exact f
  have wa : W X.K O1 H1 (.bx cs rs :: ds.map .v) ((vb :: vs).map some) := by
    refine ⟨w1.own, by simp [rd.length], fun k t z => ?_, fun k l t t' v v' b ne e1 e2 e3 e4 f1 f2 => ?_⟩
    · rcases at0 k t z with ⟨rfl, rfl⟩ | ⟨k', rfl, z⟩
      · exact .inr ⟨vb, rfl, rb⟩
      · obtain ⟨d, u, rfl, g3, g4⟩ := rep_at rd z
        exact .inr ⟨u, by simp [g3], g4⟩
    · rcases at0 k t e1 with ⟨rfl, rfl⟩ | ⟨k', rfl, z⟩
      · rcases at0 l t' e2 with ⟨rfl, rfl⟩ | ⟨l', rfl, z⟩
        · exact ne rfl
        · exact nov l' t' v' b z f2
      · exact nov k' t v b z f1
  have fpa : ∀ b, FpE H1 (.bx cs rs :: ds.map .v) ((vb :: vs).map some) b → Fp H1 (.bx cs rs) vb b := fun b ⟨k, t, v, e1, e2, f⟩ => by
    rcases at0 k t e1 with ⟨rfl, rfl⟩ | ⟨k', rfl, z⟩
    · simp at e2; subst e2; exact f
    · exact (nov k' t v b z f).elim
  refine ⟨O1, _, s, _, wa, h2, fun O2 H2 v2 st2 wr => ?_⟩
  have ewb : wb (.bx cs rs :: ds.map .v) (.bx cs2 rs2 :: g3) = .bx cs2 rs2 :: (ds.map Sl.v).map fun _ => .no := rfl
  rw [ewb] at wr st2
  have rb2 : RepS X.K O2 H2 (.bx cs2 rs2) vb := by
    rcases wr.w.rep 0 (.bx cs2 rs2) rfl with z | ⟨u, g3, g4⟩
    · cases z
    · simp at g3; subst g3; exact g4
  have fb2 : ∀ b, Fp H2 (.bx cs2 rs2) vb b → FpE H2 (.bx cs2 rs2 :: (ds.map Sl.v).map fun _ => .no) ((vb :: vs).map some) b := fun b f => ⟨0, .bx cs2 rs2, vb, rfl, rfl, f⟩
  have stb : Step O1 H1 (Fp H1 (.bx cs rs) vb) O2 H2 (Fp H2 (.bx cs2 rs2) vb) := ⟨st2.evo, st2.own, fun b o nf => st2.keepO b o fun z => nf (fpa b z), fun b f => (st2.fps b (.inl (fb2 b f))).imp (fpa b) id⟩
  obtain ⟨w3, st3⟩ := w1.put stb g1 sb rb2
  have sepR : ∀ b, Fp H2 s v2 b → ¬ FpE H2 (e1.set i (.bx cs2 rs2)) σ b := fun b f ⟨k, t, u, e1', e2, f2⟩ => by
    by_cases hk : k = i
    · subst hk
      have e1'' : t = .bx cs2 rs2 := by
        rw [List.getElem?_set_self (w1.lt g1).1] at e1'; exact (Option.some.inj e1').symm
      subst e1''
      rw [sb] at e2; cases e2
      exact wr.sep b f (fb2 b f2)
    · rw [List.getElem?_set_ne (Ne.symm hk)] at e1'
      -- another slot: kept
      rcases w1.rep k t e1' with rfl | ⟨u', q1, q2⟩
      · exact f2
      · rw [e2] at q1; cases q1
        obtain ⟨_, kf⟩ := RepS.keep stb q2 fun b' f' g' => w1.sep k i t (.bx cs rs) u vb b' hk e1' g1 e2 sb f' g'
        have f3 := kf b f2
        rcases st2.fps b (.inr f) with z | z
        · exact w1.sep k i t (.bx cs rs) u vb b hk e1' g1 e2 sb f3 (fpa b z)
        · obtain ⟨xs, qq⟩ := w1.own b (Fp.own q2 f3)
          rw [z] at qq; cases qq
  refine q O2 H2 v2 ⟨(st1.trans st3 fun _ z => z).evo, st2.own, (st1.trans st3 fun _ z => z).keepO, fun b f => ?_⟩ ⟨w3, wr.val, sepR⟩
  rcases f with f | f
  · exact (st1.trans st3 fun _ z => z).fps b f
  · rcases st2.fps b (.inr f) with z | z
    · have := st1.fps b ⟨i, .bx cs rs, vb, g1, sb, fpa b z⟩
      exact this
    · refine .inr ?_
      cases qq : H b with
      | none => rfl
      | some u => exact absurd z (st1.evo.there b (by rw [qq]; exact Option.some_ne_none _))
end
end Mini

namespace Mini
open PySem PySem.Spec L2
/-! the text and the evaluator's terms, side by side -/
structure Ck where
  fn : List Str
  gl : List (Str × D)
  N : List Str
def visB (sc : Scope) (x : Str) : Bool := match sc.names.lookup x with
  | some .local => true
  | some .cell => true
  | some .free => true
  | _ => false
def glB (sc : Scope) (x : Str) : Bool := decide (sc.names.lookup x = some .globalImplicit)
def okN (x : Str) : Bool := !(x == ("__debug__" : Str)) && !(x == ("__classdict__" : Str))
mutual
def deq : D → D → Bool
  | .none, .none => true
  | .bool a, .bool b => a == b
  | .int a, .int b => a == b
  | .str a, .str b => decide (a = b)
  | .tuple xs, .tuple ys => deqs xs ys
  | .list xs, .list ys => deqs xs ys
  | _, _ => false
def deqs : List D → List D → Bool
  | [], [] => true
  | x :: xs, y :: ys => deq x y && deqs xs ys
  | _, _ => false
end
mutual
theorem deq_eq : ∀ {a b : D}, deq a b = true → a = b
  | .none, b, h => by cases b <;> first | rfl | (simp [deq] at h)
  | .bool x, b, h => by cases b <;> simp_all [deq]
  | .int x, b, h => by cases b <;> simp_all [deq]
  | .str x, b, h => by cases b <;> simp_all [deq]
  | .tuple xs, b, h => by
    cases b with
    | tuple ys => rw [deqs_eq (show deqs xs ys = true by simpa only [deq] using h)]
    | _ => simp [deq] at h
  | .list xs, b, h => by
    cases b with
    | list ys => rw [deqs_eq (show deqs xs ys = true by simpa only [deq] using h)]
    | _ => simp [deq] at h
  | .dict xs, b, h => by cases b <;> simp [deq] at h
theorem deqs_eq : ∀ {a b : List D}, deqs a b = true → a = b
  | [], b, h => by cases b <;> first | rfl | (simp [deqs] at h)
  | x :: xs, b, h => by
    cases b with
    | nil => simp [deqs] at h
    | cons y ys =>
      simp only [deqs, Bool.and_eq_true] at h
      rw [deq_eq h.1, deqs_eq h.2]
end
def notSet : Expr → Bool
  | .Set _ _ _ => false
  | _ => true
def isTuple : Expr → Bool
  | .Tuple _ _ _ => true
  | _ => false
def nmTup : Expr → Bool
  | .Name _ _ => true
  | .Tuple _ _ _ => true
  | _ => false
/-- the walked operands of a loop's iterable -/
def itArgs (pl : Bool) (sc : Scope) : IK → Bool → Expr → Option (List Expr)
  | .seq, _, e => if notSet e && notStar e && (!pl || PlainT e) then some [e] else none
  | .rng, _, .Call (.Name x _) args [] _ => if decide (x = "range") && glB sc x && args.all notStar && (!pl || args.all PlainT) && (args.length == 1 || args.length == 2) then some args else none
  | .enum, true, .Call (.Name x _) args [] _ => if decide (x = "enumerate") && glB sc x && args.all notStar && (!pl || args.all PlainT) && args.length == 1 then some args else none
  | .zip, true, .Call (.Name x _) args [] _ => if decide (x = "zip") && glB sc x && args.all notStar && (!pl || args.all PlainT) && (args.length == 2 || args.length == 3) then some args else none
  | .rev, _, .Call (.Name x _) args [] _ => if decide (x = "reversed") && glB sc x && args.all notStar && (!pl || args.all PlainT) && args.length == 1 then some args else none
  | _, _, _ => none
def locB (raw : Scope) (x : Str) : Bool := match raw.names.lookup x with
  | some .local => true
  | some .cell => true
  | _ => false
mutual
def cT (N : List Str) (raw : Scope) : T → Expr → Bool
  | .nm i, .Name x _ => decide (N[i]? = some x) && locB raw x
  | .tp ts, .Tuple es _ _ => cTs N raw ts es
  | _, _ => false
def cTs (N : List Str) (raw : Scope) : List T → List Expr → Bool
  | [], [] => true
  | t :: ts, e :: es => cT N raw t e && cTs N raw ts es
  | _, _ => false
end
def ownP (N : List Str) (own : List Nat) : List (Str × Nat) := own.map fun i => ((N[i]?).getD "", i)
theorem ownP_snd (N : List Str) (own : List Nat) : (ownP N own).map (·.2) = own := by
  unfold ownP; rw [List.map_map]; exact List.map_id _
def cstB : Const → D → Bool
  | .none, .none => true
  | .bool a, .bool b => a == b
  | .int a, .int b => a == b
  | .str a, .str b => decide (a = b)
  | _, _ => false
theorem cstB_eq {c : Const} {d : D} (h : cstB c d = true) : cstD c = some d := by
  cases c <;> cases d <;> simp_all [cstB, cstD]
mutual
def cE (k : Ck) (sc : Scope) : E → Expr → Bool
  | .var i, .Name x _ => decide (k.N[i]? = some x) && visB sc x && okN x
  | .cst d, .Constant c _ _ => cstB c d
  | .cst d, .Name x _ => glB sc x && okN x && (match k.gl.lookup x with | some d' => deq d d' | none => false)
  | .bin op a b, .BinOp ea op' eb _ => decide (op = op') && cE k sc a ea && cE k sc b eb
  | .neg a, .UnaryOp .USub ea _ => cE k sc a ea
  | .not a, .UnaryOp .Not ea _ => cE k sc a ea
  | .cmp op a b, .Compare ea [op'] [eb] _ => decide (op = op') && notSet eb && cE k sc a ea && cE k sc b eb
  | .chn o1 o2 a b c, .Compare ea [p1, p2] [eb, ec] _ => decide (o1 = p1) && decide (o2 = p2) && notSet eb && notSet ec && cE k sc a ea && cE k sc b eb && cE k sc c ec
  | .isn ng a, .Compare ea [op] [.Constant .none _ _] _ => decide (op = if ng then .IsNot else .Is) && cE k sc a ea
  | .bop o es, .BoolOp o' ees _ => decide (o = o') && !ees.isEmpty && cEs k sc es ees
  | .ite c a b, .IfExp ec ea eb _ => cE k sc c ec && cE k sc a ea && cE k sc b eb
  | .tup es, .Tuple ees _ _ => ees.all notStar && cEs k sc es ees
  | .lst es, .List ees _ => ees.all notStar && cEs k sc es ees
  | .idx a i, .Subscript ea ei _ => plainIx ei && cE k sc a ea && cE k sc i ei
  | .slc a lo hi, .Subscript ea (.Slice elo ehi none _) _ => cE k sc a ea && cO k sc lo elo && cO k sc hi ehi
  | .call f es, .Call (.Name x _) ees [] _ => decide (k.fn[f]? = some x) && glB sc x && okN x && !ees.isEmpty && ees.all notStar && cEs k sc es ees
  | .callB f i es, .Call (.Name x _) (.Name n _ :: ees) [] _ => decide (k.fn[f]? = some x) && glB sc x && okN x && decide (k.N[i]? = some n) && visB sc n && okN n && ees.all notStar && cEs k sc es ees
  | .callS f i, .Call (.Name x _) [.Name n _] [] _ => decide (k.fn[f]? = some x) && glB sc x && okN x && decide (k.N[i]? = some n) && visB sc n && okN n
  | .blt b es, .Call (.Name x _) ees [] _ => decide (x = blName b) && glB sc x && !ees.isEmpty && ees.all notStar && cEs k sc es ees
  | .isi a t, .Call (.Name x _) [ea, .Name y _] [] _ => decide (x = "isinstance") && decide (y = (tyName t : Str)) && glB sc x && glB sc y && notStar ea && cE k sc a ea
  | .lc t kk its cond elt own, .ListComp eelt [g] scope _ => decide (g.is_async = 0) && blkC k.N sc scope (ownP k.N own) && cT k.N scope t g.target && t.slots.all (own.contains ·) && (match itArgs false sc kk (isTuple g.target) g.iter with | some args => cEs k sc its args | none => false)
      && decide (g.ifs.length ≤ 1) && cEs k (relS scope sc) cond g.ifs && cE k (relS scope sc) elt eelt
  | .pop i, .Call (.Attribute (.Name n _) at_ apos) [] [] cpos => decide (at_ = "pop") && decide (k.N[i]? = some n) && visB sc n && okN n && (apos.endLine == cpos.line)
  | .mth m a e, .Call (.Attribute ea at_ apos) [ee] [] cpos => decide (at_ = mtName m) && attOk ea && notStar ee && (apos.endLine == cpos.line) && cE k sc a ea && cE k sc e ee
  | .rev a, .Subscript ea (.Slice none none (some (.UnaryOp .USub (.Constant (.int i) _ _) _)) _) _ => decide (i = 1) && cE k sc a ea
  | .isb ng kk a, .Compare ea [op] [.Constant (.bool b) _ _] _ => decide (op = if ng then .IsNot else .Is) && decide (b = kk) && cE k sc a ea
  | .rgv tup es, .Call (.Name x _) [.Call (.Name y _) ees [] _] [] _ => decide (x = rgvName tup) && decide (y = "range") && glB sc x && glB sc y && ees.all notStar && (ees.length == 1 || ees.length == 2) && cEs k sc es ees
  | .upper a, .Call (.Attribute ea at_ apos) [] [] cpos => decide (at_ = "upper") && attOk ea && (apos.endLine == cpos.line) && cE k sc a ea
  | .sset a, .Call (.Name x _) [.Call (.Name y _) [ea] [] _] [] _ => decide (x = "sorted") && decide (y = "set") && glB sc x && glB sc y && notStar ea && cE k sc a ea
  | _, _ => false
def cEs (k : Ck) (sc : Scope) : List E → List Expr → Bool
  | [], [] => true
  | m :: ms, e :: es => cE k sc m e && cEs k sc ms es
  | _, _ => false
def cO (k : Ck) (sc : Scope) : List E → Option Expr → Bool
  | [], none => true
  | [m], some e => cE k sc m e
  | _, _ => false
end
/-- the context of the code -/
structure CtxOk (k : Ck) (sc raw : Scope) (P : Ph) (lev : Nat) (X : Cx) : Prop where
  hN : X.N = k.N
  nd : X.N.Nodup
  sc : X.env.scope = sc
  calm : X.calm = true
  room : Room lev X.A
  xe : X.xe = fun _ _ => False
  fns : ∀ (j : Nat) (x : Str), k.fn[j]? = some x → FnC X P lev j x
  gls : ∀ (x : Str) (d : D), k.gl.lookup x = some d → GlOk X x d
  bls : ∀ b : Bl, X.mg (blName b) = none
  tys : ∀ t : Ty, X.mg (tyName t : Str) = none
  isi : X.mg "isinstance" = none
  its : X.mg "range" = none ∧ X.mg "enumerate" = none ∧ X.mg "zip" = none ∧ X.mg "reversed" = none ∧ X.mg "set" = none
  asg : ∀ x, locB raw x = true → Loc X.env.scope x ∧ (X.fn x = true ∨ X.env.scope.names.lookup x = some .local)
section
variable {k : Ck} {sc raw : Scope} {P : Ph} {lev : Nat} {X : Cx}
theorem vis_of (c : CtxOk k sc raw P lev X) {x : Str} (h : visB sc x = true) : Vis X.env.scope x := by
  rw [c.sc]
  unfold visB at h
  split at h
  · rename_i e; exact .inl e
  · rename_i e; exact .inr (.inl e)
  · rename_i e; exact .inr (.inr e)
  · cases h
theorem gl_of (c : CtxOk k sc raw P lev X) {x : Str} (h : glB sc x = true) : Gl X x := by
  show X.env.scope.names.lookup x = some .globalImplicit
  rw [c.sc]; exact of_decide_eq_true h
theorem okN_of {x : Str} (h : okN x = true) : (x == ("__debug__" : Str)) = false ∧ (x == ("__classdict__" : Str)) = false := by
  unfold okN at h
  simpa using h
/-- targets -/
theorem starA {e : Expr} {es : List Expr} {env : PySem.Env} (h : nmTup e = true) : assignEach (e :: es) env = (false, assign e env) :: assignEach es env := by
  cases e <;> first | rfl | cases h
theorem cT_form {N : List Str} {t : T} {e : Expr} (h : cT N raw t e = true) : nmTup e = true := by
  cases t <;> cases e <;> first | rfl | (simp [cT] at h)
mutual
theorem sT (c : CtxOk k sc raw P lev X) : ∀ (t : T) (e : Expr), cT k.N raw t e = true → PG X e (gT X.K t)
  | .nm i, e, h => by
    cases e with
    | Name x p =>
      simp only [cT, Bool.and_eq_true, decide_eq_true_eq] at h
      obtain ⟨h1, h2⟩ := c.asg x h.2
      exact pg_nm c.nd (by rw [c.hN]; exact h.1) h1 h2
    | _ => simp [cT] at h
  | .tp ts, e, h => by
    cases e with
    | Tuple es kk p =>
      have h' : cTs k.N raw ts es = true := by simpa only [cT] using h
      have key : ∀ (ts : List T) (es : List Expr), cTs k.N raw ts es = true → (assignEach es X.env).length = ts.length ∧ (assignEach es X.env).findIdx? (·.1) = none := by
        intro ts
        induction ts with
        | nil => intro es h; cases es with
          | nil => exact ⟨rfl, rfl⟩
          | cons _ _ => simp [cTs] at h
        | cons t ts ih => intro es h; cases es with
          | nil => simp [cTs] at h
          | cons e es =>
            simp only [cTs, Bool.and_eq_true] at h
            obtain ⟨h1, h2⟩ := ih es h.2
            rw [starA (cT_form h.1)]
            exact ⟨by simp [h1], by simp [List.findIdx?_cons, h2]⟩
      obtain ⟨k1, k2⟩ := key ts es h'
      exact pg_tp c.calm (sTs c ts es h') rfl k1 k2
    | _ => simp [cT] at h
theorem sTs (c : CtxOk k sc raw P lev X) : ∀ (ts : List T) (es : List Expr), cTs k.N raw ts es = true → PGs X es (gTs X.K ts)
  | [], es, h => by
    cases es with
    | nil => exact pgs_nilT
    | cons _ _ => simp [cTs] at h
  | t :: ts, es, h => by
    cases es with
    | nil => simp [cTs] at h
    | cons e es =>
      simp only [cTs, Bool.and_eq_true] at h
      exact pgs_consT (sT c t e h.1) (sTs c ts es h.2) (by rw [starA (cT_form h.1)]; rfl)
end
/-- a comprehension's block -/
theorem CtxOk.blk (c : CtxOk k sc raw P lev X) {scope : Scope} (own : List (Str × Nat)) (b : blkC k.N sc scope own = true) (s : Shared) (H : Hp) (C : Addr) (cl : List (Str × Addr)) (fp : List Addr) : CtxOk k (relS scope sc) scope P lev (X.blk s H scope (compEnvC scope cl C X.env) fp) where
  hN := c.hN
  nd := c.nd
  sc := by show relS scope X.env.scope = _; rw [c.sc]
  calm := c.calm
  room := c.room
  xe := rfl
  fns := fun j x h => ⟨(c.fns j x h).ex⟩
  gls := c.gls
  bls := c.bls
  tys := c.tys
  isi := c.isi
  its := c.its
  asg := fun x h => by
    unfold locB at h
    split at h
    · rename_i e
      have q : (relS scope X.env.scope).names.lookup x = some .local := lookup_relS_keep (by decide) e
      exact ⟨.inl q, .inr q⟩
    · rename_i e
      have q : (relS scope X.env.scope).names.lookup x = some .cell := lookup_relS_keep (by decide) e
      exact ⟨.inr q, .inl (by show (scope.names.lookup x == some .cell) = true; rw [e]; rfl)⟩
    · cases h
theorem notSet_mark {e : Expr} {op : CmpOp} (h : notSet e = true) : behindInMarks op e = false := by
  cases e <;> first | rfl | cases h
theorem fold_of {e : Expr} {env : PySem.Env} (h : notSet e = true) (x : Value) : foldedSetIterable e env x = pure x := by
  cases e <;> first | rfl | cases h
theorem plainIx_of {e : Expr} (h : plainIx e = true) : PlainIx e := fun o i => by
  cases e <;> first | rfl | cases h
/-- the walked thing -/
theorem sI (c : CtxOk k sc raw P lev X) {kk : IK} {tg iter : Expr} {args : List Expr} {ms : List M} {pl : Bool} (h : itArgs pl sc kk (isTuple tg) iter = some args) (hs : SEs X args ms) : PI X tg iter (tI X.K kk (opsM ms)) ∧ ∀ x, foldedSetIterable iter X.env x = pure x := by
  obtain ⟨m1, m2, m3, m4, _⟩ := c.its
  have call : ∀ (x : Str) (p : Pos) (as : List Expr) (pos : Pos) (v : Value), foldedSetIterable (.Call (.Name x p) as [] pos) X.env v = pure v := fun _ _ _ _ _ => rfl
  cases kk with
  | seq =>
    simp only [itArgs] at h
    split at h
    · rename_i hc
      simp only [Bool.and_eq_true] at hc
      cases h
      cases hs with
      | cons h1 h2 =>
        cases h2
        exact ⟨pi_seq h1, fold_of hc.1.1⟩
    · cases h
  | rng =>
    cases iter with
    | Call f as kw pos =>
      cases f with
      | Name x p =>
        cases kw with
        | nil =>
          simp only [itArgs] at h
          split at h
          · rename_i hc
            simp only [Bool.and_eq_true, decide_eq_true_eq] at hc
            obtain ⟨⟨⟨⟨rfl, hg⟩, hn⟩, hp⟩, hl⟩ := hc
            cases h
            refine ⟨?_, call _ _ _ _⟩
            cases hs with
            | nil => simp at hl
            | cons h1 h2 =>
              simp only [List.all_cons, Bool.and_eq_true] at hn
              cases h2 with
              | nil => exact pi_rng1 (gl_of c hg) m1 hn.1 h1
              | cons h3 h4 =>
                simp only [List.all_cons, Bool.and_eq_true] at hn
                cases h4 with
                | nil => exact pi_rng2 (gl_of c hg) m1 hn.1 hn.2.1 h1 h3
                | cons _ _ => simp at hl
          · cases h
        | cons _ _ => simp [itArgs] at h
      | _ => simp [itArgs] at h
    | _ => simp [itArgs] at h
  | enum =>
    cases tg with
    | Tuple elts k2 tpos =>
      cases iter with
      | Call f as kw pos =>
        cases f with
        | Name x p =>
          cases kw with
          | nil =>
            simp only [itArgs, isTuple] at h
            split at h
            · rename_i hc
              simp only [Bool.and_eq_true, decide_eq_true_eq] at hc
              obtain ⟨⟨⟨⟨rfl, hg⟩, hn⟩, hp⟩, hl⟩ := hc
              cases h
              refine ⟨?_, call _ _ _ _⟩
              cases hs with
              | nil => simp at hl
              | cons h1 h2 =>
                simp only [List.all_cons, Bool.and_eq_true] at hn
                cases h2 with
                | nil => exact pi_enumL (gl_of c hg) m2 hn.1 h1
                | cons _ _ => simp at hl
            · cases h
          | cons _ _ => simp [itArgs, isTuple] at h
        | _ => simp [itArgs, isTuple] at h
      | _ => simp [itArgs, isTuple] at h
    | _ => cases iter <;> simp [itArgs, isTuple] at h
  | zip =>
    cases tg with
    | Tuple elts k2 tpos =>
      cases iter with
      | Call f as kw pos =>
        cases f with
        | Name x p =>
          cases kw with
          | nil =>
            simp only [itArgs, isTuple] at h
            split at h
            · rename_i hc
              simp only [Bool.and_eq_true, decide_eq_true_eq] at hc
              obtain ⟨⟨⟨⟨rfl, hg⟩, hn⟩, hp⟩, hl⟩ := hc
              cases h
              refine ⟨?_, call _ _ _ _⟩
              cases hs with
              | nil => simp at hl
              | cons h1 h2 =>
                cases h2 with
                | nil => simp at hl
                | cons h3 h4 =>
                  simp only [List.all_cons, Bool.and_eq_true] at hn
                  cases h4 with
                  | nil => exact pi_zipD (gl_of c hg) m3 hn.1 hn.2.1 h1 h3
                  | cons h5 h6 =>
                    simp only [List.all_cons, Bool.and_eq_true] at hn
                    cases h6 with
                    | nil => exact pi_zipD3 (gl_of c hg) m3 hn.1 hn.2.1 hn.2.2.1 h1 h3 h5
                    | cons _ _ => simp at hl
            · cases h
          | cons _ _ => simp [itArgs, isTuple] at h
        | _ => simp [itArgs, isTuple] at h
      | _ => simp [itArgs, isTuple] at h
    | _ => cases iter <;> simp [itArgs, isTuple] at h
  | rev =>
    cases iter with
    | Call f as kw pos =>
      cases f with
      | Name x p =>
        cases kw with
        | nil =>
          simp only [itArgs] at h
          split at h
          · rename_i hc
            simp only [Bool.and_eq_true, decide_eq_true_eq] at hc
            obtain ⟨⟨⟨⟨rfl, hg⟩, hn⟩, hp⟩, hl⟩ := hc
            cases h
            refine ⟨?_, call _ _ _ _⟩
            cases hs with
            | nil => simp at hl
            | cons h1 h2 =>
              simp only [List.all_cons, Bool.and_eq_true] at hn
              cases h2 with
              | nil => exact pi_rev1 (gl_of c hg) m4 hn.1 h1
              | cons _ _ => simp at hl
          · cases h
        | cons _ _ => simp [itArgs] at h
      | _ => simp [itArgs] at h
    | _ => simp [itArgs] at h
theorem itArgs_plain {kk : IK} {b : Bool} {iter : Expr} {args : List Expr} (h : itArgs true sc kk b iter = some args) : args.all PlainT = true := by
  unfold itArgs at h
  split at h
  · split at h
    · rename_i hc
      simp only [Bool.and_eq_true, Bool.not_true, Bool.false_or] at hc
      cases h; simp [hc.2]
    · cases h
  all_goals first
    | (split at h
       · rename_i hc
         simp only [Bool.and_eq_true, Bool.not_true, Bool.false_or] at hc
         cases h
         first | exact hc.1.2 | exact hc.2
       · cases h)
    | cases h
theorem se_chn2 {k : Nat} (hr : Room k X.A) {a b c : Expr} {ma mb mc : M} {pos : Pos} {o1 o2 : CmpOp} (ha : SE X a ma) (hb : SE X b mb) (hc : SE X c mc) (nb : notSet b = true) (nc : notSet c = true) : SE X (.Compare a [o1, o2] [b, c] pos) (chnM o1 o2 ma mb mc) := by
  have hm : lastMarks [o1, o2] [b, c] = false := by
    show behindInMarks o2 c = false
    exact notSet_mark nc
  exact se_chn hr ha hb hc (pe_chain (or_cmp hr o1) (or_cmp hr o2) ha.opd hb.opd hc.opd hm) (pt_chain (or_cmp hr o1) (or_cmp hr o2) ha.opd hb.opd hc.opd hm)
end
end Mini

namespace Mini
open PySem PySem.Spec L2
section
variable {k : Ck} {P : Ph} {lev : Nat}
theorem pts_cond {X : Cx} : ∀ {ifs : List Expr} {ms : List M}, ifs.length ≤ 1 → SEs X ifs ms → PTs X ifs (tT X.K (condM ms))
  | [], _, _, .nil => ⟨fun pins s σ H Q I q => pts_nil.run pins s σ H Q I (by
      obtain ⟨O, env, b, env', w, e, q⟩ := q
      cases e
      exact q O H (Step.refl w.own) w)⟩
  | [e], _, _, .cons h .nil => pts_one h.tst
  | _ :: _ :: _, _, l, _ => by simp at l
/-- the parts of a comprehension -/
theorem lc_parts {X : Cx} {sc raw : Scope} {t : T} {kk : IK} {its cond : List E} {elt : E} {own : List Nat} {eelt tg iter : Expr} {ifs : List Expr} {scope : Scope} {pos : Pos} (c : CtxOk k sc raw P lev X) (hb : blkC k.N sc scope (ownP k.N own) = true)
    (ht : cT k.N scope t tg = true) (hsl : t.slots.all (own.contains ·) = true) {args : List Expr} (ha : itArgs false sc kk (isTuple tg) iter = some args) (hl : ifs.length ≤ 1) (h1 : SEs X args (evs P its))
    (h2 : ∀ (s : Shared) (H : Hp) (C : Addr) (cl : List (Str × Addr)) (fp : List Addr), SEs (X.blk s H scope (compEnvC scope cl C X.env) fp) ifs (evs P cond)) (h3 : ∀ (s : Shared) (H : Hp) (C : Addr) (cl : List (Str × Addr)) (fp : List Addr), SE (X.blk s H scope (compEnvC scope cl C X.env) fp) eelt (ev P elt)) :
    (PE X (.ListComp eelt [⟨tg, iter, ifs, 0⟩] scope pos) (tE X.K (ev P (.lc t kk its cond elt own)).val)) ∧
    (∀ {i : Nat} {y : Str} {py spos : Pos} {fz : List Nat}, i ∉ fz → X.N[i]? = some y → X.env.scope.names.lookup y = some .local → swapsWith (.ListComp eelt [⟨tg, iter, ifs, 0⟩] scope pos) (some (.Name y py)) spos.line X.env = pure true →
      SS X fz (.Assign [.Name y py] (.ListComp eelt [⟨tg, iter, ifs, 0⟩] scope pos) spos) (asgO i (ev P (.lc t kk its cond elt own)).val)) := by
  have sl : ∀ i ∈ t.slots, i ∈ own := fun i hi => by
    have := List.all_eq_true.mp hsl i hi
    simpa using this
  obtain ⟨pi, fold⟩ := sI c ha h1
  have ok : BlkOk X.N X.env.scope scope (ownP k.N own) := by
    rw [c.hN, c.sc]; exact blkOk_by hb
  have hown := ownP_snd k.N own
  constructor
  · have pe := pe_lc (pos := pos) (te := tD X.K (frzM (ev P elt).val)) (tt := tT X.K (condM (evs P cond))) (g := gT X.K t) c.calm c.nd (PI.line pi) ok (fun s H C cl fp => sT (c.blk _ hb s H C cl fp) t tg ht) (fun s H C cl fp => pts_cond hl (h2 s H C cl fp)) (fun s H C cl fp => (h3 s H C cl fp).d) fold
    rw [hown] at pe
    exact pe.imp fun σ H Q q => te_lc sl (by simpa only [ev] using q)
  · intro i y py spos fz hz hi hy hsw
    have ps := ps_setLc (i := i) (pos := pos) (te := tD X.K (frzM (ev P elt).val)) (tt := tT X.K (condM (evs P cond))) (g := gT X.K t) c.calm c.nd hi hy hsw (PI.line pi) ok (fun s H C cl fp => sT (c.blk _ hb s H C cl fp) t tg ht) (fun s H C cl fp => pts_cond hl (h2 s H C cl fp)) (fun s H C cl fp => (h3 s H C cl fp).d) fold
    rw [hown] at ps
    exact ⟨ps.imp fun D σ H q => te_lc sl (by simpa only [ev] using asg_end hz q)⟩
set_option maxHeartbeats 4000000 in
mutual
/-- THE EXPRESSIONS -/
theorem sE : ∀ (m : E) (e : Expr) (X : Cx) (sc raw : Scope), CtxOk k sc raw P lev X → cE k sc m e = true → SE X e (ev P m)
  | .var i, e, X, sc, raw, c, h => by
    cases e with
    | Name x p =>
      simp only [cE, Bool.and_eq_true, decide_eq_true_eq] at h
      obtain ⟨n1, n2⟩ := okN_of h.2
      simp only [ev]
      exact se_var (by rw [c.hN]; exact h.1.1) (vis_of c h.1.2) n1 n2
    | _ => simp [cE] at h
  | .cst d, e, X, sc, raw, c, h => by
    cases e with
    | Constant v kk p =>
      simp only [cE] at h
      simp only [ev]
      exact se_cst (cstB_eq h)
    | Name x p =>
      simp only [cE, Bool.and_eq_true] at h
      obtain ⟨n1, n2⟩ := okN_of h.1.2
      obtain ⟨⟨h1, _⟩, h2⟩ := h
      split at h2
      · rename_i d' hd
        have e := deq_eq h2
        subst e
        simp only [ev]
        exact se_glob (gl_of c h1) (c.gls x d hd) n1
      · cases h2
    | _ => simp [cE] at h
  | .bin op a b, e, X, sc, raw, c, h => by
    cases e with
    | BinOp ea op' eb p =>
      simp only [cE, Bool.and_eq_true, decide_eq_true_eq] at h
      obtain ⟨⟨rfl, h1⟩, h2⟩ := h
      simp only [ev]
      exact se_bin (sE a ea X sc raw c h1) (sE b eb X sc raw c h2)
    | _ => simp [cE] at h
  | .neg a, e, X, sc, raw, c, h => by
    cases e with
    | UnaryOp op ea p =>
      cases op with
      | USub =>
        simp only [cE] at h
        simp only [ev]
        exact se_neg (sE a ea X sc raw c h)
      | _ => simp [cE] at h
    | _ => simp [cE] at h
  | .not a, e, X, sc, raw, c, h => by
    cases e with
    | UnaryOp op ea p =>
      cases op with
      | Not =>
        simp only [cE] at h
        simp only [ev]
        exact se_not (sE a ea X sc raw c h)
      | _ => simp [cE] at h
    | _ => simp [cE] at h
  | .cmp op a b, e, X, sc, raw, c, h => by
    cases e with
    | Compare ea ops es p =>
      match ops, es, h with
      | [op'], [eb], h =>
        simp only [cE, Bool.and_eq_true, decide_eq_true_eq] at h
        obtain ⟨⟨⟨rfl, hn⟩, h1⟩, h2⟩ := h
        simp only [ev]
        exact se_cmp c.room (sE a ea X sc raw c h1) (sE b eb X sc raw c h2) (notSet_mark hn)
      | [], _, h => simp [cE] at h
      | _ :: _ :: _, _, h => simp [cE] at h
      | [_], [], h => simp [cE] at h
      | [_], _ :: _ :: _, h => simp [cE] at h
    | _ => simp [cE] at h
  | .chn o1 o2 a b d, e, X, sc, raw, c, h => by
    cases e with
    | Compare ea ops es p =>
      match ops, es, h with
      | [p1, p2], [eb, ec], h =>
        simp only [cE, Bool.and_eq_true, decide_eq_true_eq] at h
        obtain ⟨⟨⟨⟨⟨⟨rfl, rfl⟩, hn⟩, hn2⟩, h1⟩, h2⟩, h3⟩ := h
        simp only [ev]
        exact se_chn2 c.room (sE a ea X sc raw c h1) (sE b eb X sc raw c h2) (sE d ec X sc raw c h3) hn hn2
      | [], _, h => simp [cE] at h
      | [_], _, h => simp [cE] at h
      | _ :: _ :: _ :: _, _, h => simp [cE] at h
      | [_, _], [], h => simp [cE] at h
      | [_, _], [_], h => simp [cE] at h
      | [_, _], _ :: _ :: _ :: _, h => simp [cE] at h
    | _ => simp [cE] at h
  | .isn ng a, e, X, sc, raw, c, h => by
    cases e with
    | Compare ea ops es p =>
      match ops, es, h with
      | [op'], [.Constant .none j p2], h =>
        simp only [cE, Bool.and_eq_true, decide_eq_true_eq] at h
        obtain ⟨rfl, h1⟩ := h
        simp only [ev]
        cases ng with
        | true => exact se_isnot (sE a ea X sc raw c h1)
        | false => exact se_is (sE a ea X sc raw c h1)
      | [], _, h => simp [cE] at h
      | _ :: _ :: _, _, h => simp [cE] at h
      | [_], [], h => simp [cE] at h
      | [_], _ :: _ :: _, h => simp [cE] at h
      | [_], [e1], h =>
        cases e1 with
        | Constant v j p2 =>
          cases v with
          | none =>
            simp only [cE, Bool.and_eq_true, decide_eq_true_eq] at h
            obtain ⟨rfl, h1⟩ := h
            simp only [ev]
            cases ng with
            | true => exact se_isnot (sE a ea X sc raw c h1)
            | false => exact se_is (sE a ea X sc raw c h1)
          | _ => simp [cE] at h
        | _ => simp [cE] at h
    | _ => simp [cE] at h
  | .bop o es, e, X, sc, raw, c, h => by
    cases e with
    | BoolOp o' ees p =>
      simp only [cE, Bool.and_eq_true, decide_eq_true_eq] at h
      obtain ⟨⟨rfl, hn⟩, h1⟩ := h
      simp only [ev]
      exact se_bop (by intro z; subst z; simp at hn) (sEs es ees X sc raw c h1)
    | _ => simp [cE] at h
  | .ite d a b, e, X, sc, raw, c, h => by
    cases e with
    | IfExp ec ea eb p =>
      simp only [cE, Bool.and_eq_true] at h
      simp only [ev]
      exact se_ite (sE d ec X sc raw c h.1.1) (sE a ea X sc raw c h.1.2) (sE b eb X sc raw c h.2)
    | _ => simp [cE] at h
  | .tup es, e, X, sc, raw, c, h => by
    cases e with
    | Tuple ees kk p =>
      simp only [cE, Bool.and_eq_true] at h
      simp only [ev]
      exact se_tup h.1 (sEs es ees X sc raw c h.2)
    | _ => simp [cE] at h
  | .lst es, e, X, sc, raw, c, h => by
    cases e with
    | List ees p =>
      simp only [cE, Bool.and_eq_true] at h
      simp only [ev]
      exact se_lst h.1 (sEs es ees X sc raw c h.2)
    | _ => simp [cE] at h
  | .idx a i, e, X, sc, raw, c, h => by
    cases e with
    | Subscript ea ei p =>
      simp only [cE, Bool.and_eq_true] at h
      simp only [ev]
      exact se_idx (sE a ea X sc raw c h.1.2) (sE i ei X sc raw c h.2) (plainIx_of h.1.1)
    | _ => simp [cE] at h
  | .slc a lo hi, e, X, sc, raw, c, h => by
    cases e with
    | Subscript ea ei p =>
      cases ei with
      | Slice elo ehi est p2 =>
        cases est with
        | none =>
          simp only [cE, Bool.and_eq_true] at h
          simp only [ev]
          exact se_slc (sE a ea X sc raw c h.1.1) (sO lo elo X sc raw c h.1.2) (sO hi ehi X sc raw c h.2)
        | some _ => simp [cE] at h
      | _ => simp [cE] at h
    | _ => simp [cE] at h
  | .call f es, e, X, sc, raw, c, h => by
    cases e with
    | Call g ees kw p =>
      cases g with
      | Name x p2 =>
        cases kw with
        | nil =>
          simp only [cE, Bool.and_eq_true, decide_eq_true_eq] at h
          obtain ⟨⟨⟨⟨⟨h1, h2⟩, h3⟩, h4⟩, h5⟩, h6⟩ := h
          obtain ⟨n1, n2⟩ := okN_of h3
          cases ees with
          | nil => simp at h4
          | cons e0 er =>
            simp only [ev]
            exact se_call c.room (c.fns f x h1) (gl_of c h2) n1 h5 (sEs es (e0 :: er) X sc raw c h6)
        | cons _ _ => simp [cE] at h
      | _ => simp [cE] at h
    | _ => simp [cE] at h
  | .callB f i es, e, X, sc, raw, c, h => by
    cases e with
    | Call g ees kw p =>
      cases g with
      | Name x p2 =>
        cases kw with
        | nil =>
          cases ees with
          | nil => simp [cE] at h
          | cons e0 er =>
            cases e0 with
            | Name n p3 =>
              simp only [cE, Bool.and_eq_true, decide_eq_true_eq] at h
              obtain ⟨⟨⟨⟨⟨⟨⟨h1, h2⟩, h3⟩, h4⟩, h5⟩, h6⟩, h7⟩, h8⟩ := h
              obtain ⟨n1, n2⟩ := okN_of h3
              obtain ⟨n3, n4⟩ := okN_of h6
              simp only [ev]
              exact se_callB c.room (c.fns f x h1) (gl_of c h2) n1 (by rw [c.hN]; exact h4) (vis_of c h5) n3 n4 h7 (sEs es er X sc raw c h8)
            | _ => simp [cE] at h
        | cons _ _ => simp [cE] at h
      | _ => simp [cE] at h
    | _ => simp [cE] at h
  | .callS f i, e, X, sc, raw, c, h => by
    cases e with
    | Call g ees kw p =>
      cases g with
      | Name x p2 =>
        cases kw with
        | nil =>
          match ees, h with
          | [], h => simp [cE] at h
          | _ :: _ :: _, h => simp [cE] at h
          | [e0], h =>
            cases e0 with
            | Name n p3 =>
              simp only [cE, Bool.and_eq_true, decide_eq_true_eq] at h
              obtain ⟨⟨⟨⟨⟨h1, h2⟩, h3⟩, h4⟩, h5⟩, h6⟩ := h
              obtain ⟨n1, n2⟩ := okN_of h3
              obtain ⟨n3, n4⟩ := okN_of h6
              simp only [ev]
              exact se_callS c.room (c.fns f x h1) (gl_of c h2) n1 (by rw [c.hN]; exact h4) (vis_of c h5) n3 n4
            | _ => simp [cE] at h
        | cons _ _ => simp [cE] at h
      | _ => simp [cE] at h
    | _ => simp [cE] at h
  | .blt b es, e, X, sc, raw, c, h => by
    cases e with
    | Call g ees kw p =>
      cases g with
      | Name x p2 =>
        cases kw with
        | nil =>
          simp only [cE, Bool.and_eq_true, decide_eq_true_eq] at h
          obtain ⟨⟨⟨⟨rfl, h2⟩, h4⟩, h5⟩, h6⟩ := h
          cases ees with
          | nil => simp at h4
          | cons e0 er =>
            simp only [ev]
            exact se_blt c.calm (gl_of c h2) (c.bls b) h5 (sEs es (e0 :: er) X sc raw c h6)
        | cons _ _ => simp [cE] at h
      | _ => simp [cE] at h
    | _ => simp [cE] at h
  | .isi a t, e, X, sc, raw, c, h => by
    cases e with
    | Call g ees kw p =>
      cases g with
      | Name x p2 =>
        cases kw with
        | nil =>
          match ees, h with
          | [ea, .Name y p3], h =>
            simp only [cE, Bool.and_eq_true, decide_eq_true_eq] at h
            obtain ⟨⟨⟨⟨⟨rfl, rfl⟩, h3⟩, h4⟩, h5⟩, h6⟩ := h
            simp only [ev]
            exact se_isi (gl_of c h3) c.isi (gl_of c h4) (c.tys t) h5 (sE a ea X sc raw c h6)
          | [], h => simp [cE] at h
          | [_], h => simp [cE] at h
          | _ :: _ :: _ :: _, h => simp [cE] at h
          | [ea, ey], h =>
            cases ey with
            | Name y p3 =>
              simp only [cE, Bool.and_eq_true, decide_eq_true_eq] at h
              obtain ⟨⟨⟨⟨⟨rfl, rfl⟩, h3⟩, h4⟩, h5⟩, h6⟩ := h
              simp only [ev]
              exact se_isi (gl_of c h3) c.isi (gl_of c h4) (c.tys t) h5 (sE a ea X sc raw c h6)
            | _ => simp [cE] at h
        | cons _ _ => simp [cE] at h
      | _ => simp [cE] at h
    | _ => simp [cE] at h
  | .lc t kk its cond elt own, e, X, sc, raw, c, h => by
    cases e with
    | ListComp eelt gens scope p =>
      match gens, h with
      | [⟨tg, iter, ifs, ia⟩], h =>
        simp only [cE, Bool.and_eq_true, decide_eq_true_eq] at h
        obtain ⟨⟨⟨⟨⟨⟨⟨rfl, hb⟩, ht⟩, hsl⟩, hit⟩, hl⟩, hc⟩, he⟩ := h
        split at hit
        case h_2 => cases hit
        rename_i args ha
        have pe := (lc_parts (pos := p) c hb ht hsl ha hl (sEs its args X sc raw c hit) (fun s H C cl fp => sEs cond ifs _ _ _ (c.blk _ hb s H C cl fp) hc) (fun s H C cl fp => sE elt eelt _ _ _ (c.blk _ hb s H C cl fp) he)).1
        have r := SE.ofVal (X := X) (e := .ListComp eelt [⟨tg, iter, ifs, 0⟩] scope p) rfl pe
        simp only [ev, lcM, M.ofVal] at r ⊢
        exact r
      | [], h => simp [cE] at h
      | _ :: _ :: _, h => simp [cE] at h
    | _ => simp [cE] at h
  | .pop i, e, X, sc, raw, c, h => by
    cases e with
    | Call g ees kw cp =>
      cases g with
      | Attribute o at_ ap =>
        cases o with
        | Name n p2 =>
          cases ees with
          | nil =>
            cases kw with
            | nil =>
              simp only [cE, Bool.and_eq_true, decide_eq_true_eq] at h
              obtain ⟨⟨⟨⟨rfl, h1⟩, h2⟩, h3⟩, h4⟩ := h
              obtain ⟨n1, n2⟩ := okN_of h3
              simp only [ev]
              exact se_pop (by rw [c.hN]; exact h1) (vis_of c h2) n1 n2 rfl h4
            | cons _ _ => simp [cE] at h
          | cons _ _ => simp [cE] at h
        | _ => simp [cE] at h
      | _ => simp [cE] at h
    | _ => simp [cE] at h
  | .mth m a e1, e, X, sc, raw, c, h => by
    cases e with
    | Call g ees kw cp =>
      cases g with
      | Attribute o at_ ap =>
        match ees, h with
        | [ee], h =>
          cases kw with
          | nil =>
            simp only [cE, Bool.and_eq_true, decide_eq_true_eq] at h
            obtain ⟨⟨⟨⟨⟨rfl, h1⟩, h2⟩, h3⟩, h4⟩, h5⟩ := h
            simp only [ev]
            exact se_mth c.room h1 h2 h3 (sE a o X sc raw c h4) (sE e1 ee X sc raw c h5)
          | cons _ _ => simp [cE] at h
        | [], h => simp [cE] at h
        | _ :: _ :: _, h => simp [cE] at h
      | _ => simp [cE] at h
    | _ => simp [cE] at h
  | .rev a, e, X, sc, raw, c, h => by
    cases e with
    | Subscript ea ei p =>
      cases ei with
      | Slice elo ehi est p2 =>
        cases elo <;> cases ehi <;> first | (simp [cE] at h; done) | skip
        cases est with
        | none => simp [cE] at h
        | some st =>
          cases st with
          | UnaryOp op ec p3 =>
            cases op <;> cases ec <;> first | (simp [cE] at h; done) | skip
            rename_i cc j p4
            cases cc <;> first | (simp [cE] at h; done) | skip
            simp only [cE, Bool.and_eq_true, decide_eq_true_eq] at h
            obtain ⟨rfl, h2⟩ := h
            simp only [ev]
            exact se_rev (sE a ea X sc raw c h2)
          | _ => simp [cE] at h
      | _ => simp [cE] at h
    | _ => simp [cE] at h
  | .isb ng kk a, e, X, sc, raw, c, h => by
    cases e with
    | Compare ea ops es p =>
      match ops, es, h with
      | [op], [.Constant (.bool b) j p2], h =>
        simp only [cE, Bool.and_eq_true, decide_eq_true_eq] at h
        obtain ⟨⟨rfl, rfl⟩, h2⟩ := h
        simp only [ev]
        exact se_isb (sE a ea X sc raw c h2)
      | [], _, h => simp [cE] at h
      | _ :: _ :: _, _, h => simp [cE] at h
      | [_], [], h => simp [cE] at h
      | [_], _ :: _ :: _, h => simp [cE] at h
      | [_], [eb], h =>
        cases eb with
        | Constant cc j p2 =>
          cases cc with
          | bool b =>
            simp only [cE, Bool.and_eq_true, decide_eq_true_eq] at h
            obtain ⟨⟨rfl, rfl⟩, h2⟩ := h
            simp only [ev]
            exact se_isb (sE a ea X sc raw c h2)
          | _ => simp [cE] at h
        | _ => simp [cE] at h
    | _ => simp [cE] at h
  | .rgv tup es, e, X, sc, raw, c, h => by
    cases e with
    | Call g ees kw p =>
      cases g with
      | Name x p2 =>
        match ees, kw, h with
        | [.Call (.Name y p3) es2 [] p4], [], h =>
          simp only [cE, Bool.and_eq_true, decide_eq_true_eq] at h
          obtain ⟨⟨⟨⟨⟨⟨rfl, rfl⟩, h3⟩, h4⟩, h5⟩, h6⟩, h7⟩ := h
          have h6 : es2.length = 1 ∨ es2.length = 2 := by simpa using h6
          have hm2 : X.mg (rgvName tup) = none := by
            cases tup with
            | true => exact c.bls .tuple
            | false => exact c.bls .list
          simp only [ev]
          exact se_rgv c.calm (gl_of c h4) c.its.1 (gl_of c h3) hm2 h5 h6 (sEs es es2 X sc raw c h7)
        | [], _, h => simp [cE] at h
        | _ :: _ :: _, _, h => simp [cE] at h
        | [_], _ :: _, h => simp [cE] at h
        | [e1], [], h =>
          cases e1 with
          | Call g2 es2 kw2 p4 =>
            cases g2 with
            | Name y p3 =>
              cases kw2 with
              | nil =>
                simp only [cE, Bool.and_eq_true, decide_eq_true_eq] at h
                obtain ⟨⟨⟨⟨⟨⟨rfl, rfl⟩, h3⟩, h4⟩, h5⟩, h6⟩, h7⟩ := h
                have h6 : es2.length = 1 ∨ es2.length = 2 := by simpa using h6
                have hm2 : X.mg (rgvName tup) = none := by
                  cases tup with
                  | true => exact c.bls .tuple
                  | false => exact c.bls .list
                simp only [ev]
                exact se_rgv c.calm (gl_of c h4) c.its.1 (gl_of c h3) hm2 h5 h6 (sEs es es2 X sc raw c h7)
              | cons _ _ => simp [cE] at h
            | _ => simp [cE] at h
          | _ => simp [cE] at h
      | _ => simp [cE] at h
    | _ => simp [cE] at h
  | .upper a, e, X, sc, raw, c, h => by
    cases e with
    | Call g ees kw cp =>
      cases g with
      | Attribute o at_ ap =>
        cases ees with
        | nil =>
          cases kw with
          | nil =>
            simp only [cE, Bool.and_eq_true, decide_eq_true_eq] at h
            obtain ⟨⟨⟨rfl, h2⟩, h3⟩, h4⟩ := h
            simp only [ev]
            exact se_upper (sE a o X sc raw c h4) (att_ok h2) h3
          | cons _ _ => simp [cE] at h
        | cons _ _ => simp [cE] at h
      | _ => simp [cE] at h
    | _ => simp [cE] at h
  | .sset a, e, X, sc, raw, c, h => by
    cases e with
    | Call g ees kw p =>
      cases g with
      | Name x p2 =>
        match ees, kw, h with
        | [.Call (.Name y p3) [ea] [] p4], [], h =>
          simp only [cE, Bool.and_eq_true, decide_eq_true_eq] at h
          obtain ⟨⟨⟨⟨⟨rfl, rfl⟩, h3⟩, h4⟩, h5⟩, h6⟩ := h
          simp only [ev]
          exact se_sset c.calm (gl_of c h3) (c.bls .sorted) (gl_of c h4) c.its.2.2.2.2 h5 (sE a ea X sc raw c h6)
        | [], _, h => simp [cE] at h
        | _ :: _ :: _, _, h => simp [cE] at h
        | [_], _ :: _, h => simp [cE] at h
        | [e1], [], h =>
          cases e1 with
          | Call g2 es2 kw2 p4 =>
            cases g2 with
            | Name y p3 =>
              match es2, kw2, h with
              | [ea], [], h =>
                simp only [cE, Bool.and_eq_true, decide_eq_true_eq] at h
                obtain ⟨⟨⟨⟨⟨rfl, rfl⟩, h3⟩, h4⟩, h5⟩, h6⟩ := h
                simp only [ev]
                exact se_sset c.calm (gl_of c h3) (c.bls .sorted) (gl_of c h4) c.its.2.2.2.2 h5 (sE a ea X sc raw c h6)
              | [], _, h => simp [cE] at h
              | _ :: _ :: _, _, h => simp [cE] at h
              | [_], _ :: _, h => simp [cE] at h
            | _ => simp [cE] at h
          | _ => simp [cE] at h
      | _ => simp [cE] at h
    | _ => simp [cE] at h
theorem sEs : ∀ (ms : List E) (es : List Expr) (X : Cx) (sc raw : Scope), CtxOk k sc raw P lev X → cEs k sc ms es = true → SEs X es (evs P ms)
  | [], es, X, sc, raw, c, h => by
    cases es with
    | nil => exact .nil
    | cons _ _ => simp [cEs] at h
  | m :: ms, es, X, sc, raw, c, h => by
    cases es with
    | nil => simp [cEs] at h
    | cons e es =>
      simp only [cEs, Bool.and_eq_true] at h
      exact .cons (sE m e X sc raw c h.1) (sEs ms es X sc raw c h.2)
theorem sO : ∀ (ms : List E) (o : Option Expr) (X : Cx) (sc raw : Scope), CtxOk k sc raw P lev X → cO k sc ms o = true → match o, evs P ms with | none, [] => True | some e, [m] => SE X e m | _, _ => False
  | [], o, X, sc, raw, c, h => by
    cases o with
    | none => exact trivial
    | some e => simp [cO] at h
  | [m], o, X, sc, raw, c, h => by
    cases o with
    | none => simp [cO] at h
    | some e => exact sE m e X sc raw c (by simpa only [cO] using h)
  | _ :: _ :: _, o, X, sc, raw, c, h => by cases o <;> simp [cO] at h
end
end
end Mini

namespace Mini
open PySem PySem.Spec L2
/-! statements of the text -/
def plainSw : Expr → Bool
  | .ListComp _ _ _ _ => false
  | .SetComp _ _ _ _ => false
  | .DictComp _ _ _ _ _ => false
  | _ => true
theorem plainSw_of {v : Expr} {t : Option Expr} {l : Nat} {env : PySem.Env} (h : plainSw v = true) : swapsWith v t l env = pure false := by
  cases v <;> first | rfl | cases h
/-- a comprehension stored to a name: does the store swap -/
def swL (sc : Scope) (s : Scope) (x : Str) (xp lp : Pos) : Option Bool :=
  if sc.names.lookup x = some .local then
    (if (xp.line == lp.line) = true ∧ (s.names.any fun (n, k) => n == x && (k == .local || k == .cell)) = false then some true else if (xp.line == lp.line) = false then some false else none)
  else some false
theorem sw_false {elt : Expr} {gs : List Comprehension} {scope : Scope} {pos py : Pos} {y : Str} {l : Nat} {env : PySem.Env} (hy : env.scope.names.lookup y ≠ some .local) : swapsWith (.ListComp elt gs scope pos) (some (.Name y py)) l env = pure false := by
  have ky : (env.kindOf y == some .local) = false := by
    have : env.kindOf y ≠ some .local := hy
    simpa using this
  unfold swapsWith
  simp only [ky, Bool.and_false, Bool.false_and]
theorem sw_line {elt : Expr} {gs : List Comprehension} {scope : Scope} {pos py : Pos} {y : Str} {l : Nat} {env : PySem.Env} (hl : (py.line == pos.line) = false) : swapsWith (.ListComp elt gs scope pos) (some (.Name y py)) l env = pure false := by
  unfold swapsWith
  simp only [Expr.pos, hl, Bool.and_false, Bool.false_and]
def okV (sc : Scope) (x : Str) (xp : Pos) : Expr → Bool
  | .ListComp _ _ s lp => (match swL sc s x xp lp with | some _ => true | none => false)
  | v => plainSw v
/-- several names at once: which way the stores go -/
def isStar : Expr → Bool
  | .Starred _ _ => true
  | _ => false
def nmAt (sc : Scope) (line : Nat) : Expr → Option Str
  | .Name id pos => if sc.names.lookup id == some .local && pos.line == line then some id else none
  | _ => none
def nms (sc : Scope) (tes : List Expr) : List Str := tes.filterMap (nmAt sc ((tes.head?.map (·.pos.line)).getD 0))
def swS (sc : Scope) (tes : List Expr) (v : Expr) : Option (Option (List Str)) :=
  match v with
  | .Tuple vs _ _ =>
    if (!(tes.length == 2 || tes.length == 3) || vs.length != tes.length) = true then some none
    else if (vs.any isStar) = true then some none
    else if ((nms sc tes).length != tes.length || (nms sc tes).eraseDups.length != (nms sc tes).length) = true then some none
    else if vs.all (foldedForSure 8) = true then some none
    else if vs.all (constantsAlone 8) = true then none
    else some (some (nms sc tes))
  | _ => some none
theorem sw_form (tes vs : List Expr) (kt k2 : Nat) (pt p2 : Pos) (env : PySem.Env) : swappedStores [.Tuple tes kt pt] (.Tuple vs k2 p2) env =
    (if (!(tes.length == 2 || tes.length == 3) || vs.length != tes.length || env.blockKind != ScopeKind.function) = true then pure none
    else if (vs.any isStar) = true then pure none
    else if ((nms env.scope tes).length != tes.length || (nms env.scope tes).eraseDups.length != (nms env.scope tes).length) = true then pure none
    else if vs.all (foldedForSure 8) = true then pure none
    else if vs.all (constantsAlone 8) = true then (do unsupported "assign.tuple-of-constant-expressions:order-of-the-stores"; pure (some (nms env.scope tes))) else pure (some (nms env.scope tes))) := by
  unfold swappedStores
  dsimp only [pure_bind]
  rfl
theorem swS_of {sc : Scope} {tes : List Expr} {v : Expr} {kt : Nat} {pt : Pos} {env : PySem.Env} (hs : env.scope = sc) (hk : sc.kind = .function) {r : Option (List Str)} (h : swS sc tes v = some r) : swappedStores [.Tuple tes kt pt] v env = pure r := by
  have hb : env.blockKind = .function := by unfold PySem.Env.blockKind; rw [hs, hk]; rfl
  have hb2 : (env.blockKind != .function) = false := by rw [hb]; rfl
  subst hs
  have other : swS env.scope tes v = some none → (∀ vs a b, v ≠ .Tuple vs a b) → swappedStores [.Tuple tes kt pt] v env = pure none := fun _ n => by
    cases v <;> first | rfl | exact absurd rfl (n _ _ _)
  by_cases hv : ∃ vs a b, v = .Tuple vs a b
  · obtain ⟨vs, k2, p2, rfl⟩ := hv
    rw [sw_form, hb2, Bool.or_false]
    simp only [swS] at h
    by_cases c1 : (!(tes.length == 2 || tes.length == 3) || vs.length != tes.length) = true
    · rw [if_pos c1] at h ⊢; cases h; rfl
    rw [if_neg c1] at h ⊢
    by_cases c2 : (vs.any isStar) = true
    · rw [if_pos c2] at h ⊢; cases h; rfl
    rw [if_neg c2] at h ⊢
    by_cases c3 : ((nms env.scope tes).length != tes.length || (nms env.scope tes).eraseDups.length != (nms env.scope tes).length) = true
    · rw [if_pos c3] at h ⊢; cases h; rfl
    rw [if_neg c3] at h ⊢
    by_cases c4 : vs.all (foldedForSure 8) = true
    · rw [if_pos c4] at h ⊢; cases h; rfl
    rw [if_neg c4] at h ⊢
    by_cases c5 : vs.all (constantsAlone 8) = true
    · rw [if_pos c5] at h; cases h
    rw [if_neg c5] at h ⊢
    cases h; rfl
  · have n : ∀ vs a b, v ≠ .Tuple vs a b := fun vs a b e => hv ⟨vs, a, b, e⟩
    have e : swS env.scope tes v = some none := by
      cases v <;> first | rfl | exact absurd rfl (n _ _ _)
    rw [e] at h; cases h
    exact other e n
/-- two names at once -/
def parB (sc : Scope) (ts : List T) (e : E) (tes : List Expr) (v : Expr) (names : List Str) : Bool := match ts, e, tes, v with
        | [.nm i, .nm j], .tup [ea, eb], [.Name x _, .Name y _], .Tuple [a, b] _ _ => decide (i ≠ j) && notStar a && notStar b && decide (sc.names.lookup x = some .local) && decide (sc.names.lookup y = some .local) && decide (names = [x, y])
        | _, _, _, _ => false
theorem parB_form {sc : Scope} {ts : List T} {e : E} {tes : List Expr} {v : Expr} {names : List Str} (h : parB sc ts e tes v names = true) : ∃ i j ea eb x px y py a b k2 pt2, ts = [.nm i, .nm j] ∧ e = .tup [ea, eb] ∧ tes = [.Name x px, .Name y py] ∧ v = .Tuple [a, b] k2 pt2 ∧
    i ≠ j ∧ notStar a = true ∧ notStar b = true ∧ sc.names.lookup x = some .local ∧ sc.names.lookup y = some .local ∧ names = [x, y] := by
  unfold parB at h
  split at h
  · simp only [Bool.and_eq_true, decide_eq_true_eq] at h
    obtain ⟨⟨⟨⟨⟨g1, g2⟩, g3⟩, g4⟩, g5⟩, g6⟩ := h
    exact ⟨_, _, _, _, _, _, _, _, _, _, _, _, rfl, rfl, rfl, rfl, g1, g2, g3, g4, g5, g6⟩
  · cases h
def cAsg (k : Ck) (sc : Scope) (fz : List Nat) (t : T) (e : E) (st : Stmt) : Bool := match t, st with
  | .nm i, .Assign [.Name x xp] v p => decide (k.N[i]? = some x) && locB sc x && !fz.contains i && cE k sc e v && okV sc x xp v
  | .tp ts, .Assign [.Tuple tes kt pt] v p => cT k.N sc (.tp ts) (.Tuple tes kt pt) && (slotsL ts).all (fun i => !fz.contains i) && cE k sc e v && plainSw v && (match swS sc tes v with
      | some none => true
      | some (some names) => parB sc ts e tes v names
      | none => false)
  | _, _ => false
def notSlice : Expr → Bool
  | .Slice _ _ _ _ => false
  | _ => true
def cSeti (k : Ck) (sc : Scope) (x : Nat) (i e : E) (st : Stmt) : Bool := match st with
  | .Assign [.Subscript (.Name n _) ie _] v p => decide (k.N[x]? = some n) && visB sc n && okN n && plainSw v && notSlice ie && cE k sc i ie && cE k sc e v
  | _ => false
def cAug (k : Ck) (sc : Scope) (fz : List Nat) (i : Nat) (op : Operator) (e : E) (st : Stmt) : Bool := match st with
  | .AugAssign (.Name x _) op' v _ => decide (op = op') && decide (k.N[i]? = some x) && locB sc x && !fz.contains i && cE k sc e v
  | _ => false
def cMeth (k : Ck) (sc : Scope) (name : Str) (x : Nat) (e : E) (st : Stmt) : Bool := match st with
  | .Expr (.Call (.Attribute (.Name n _) at_ ap) [v] [] cp) _ => decide (at_ = name) && decide (k.N[x]? = some n) && visB sc n && okN n && notStar v && (ap.endLine == cp.line) && cE k sc e v
  | _ => false
def cExp (k : Ck) (sc : Scope) (e : E) (st : Stmt) : Bool := match st with
  | .Expr v _ => plainSw v && cE k sc e v
  | _ => false
def cRet (k : Ck) (sc : Scope) (e : E) (st : Stmt) : Bool := match st with
  | .Return (some v) _ => cE k sc e v
  | _ => false
def isBrk : Stmt → Bool
  | .Break _ => true
  | _ => false
def isCont : Stmt → Bool
  | .Continue _ => true
  | _ => false
def isPass : Stmt → Bool
  | .Pass _ => true
  | _ => false
mutual
def cC (k : Ck) (sc : Scope) (fz : List Nat) : C → Stmt → Bool
  | .asg t e, st => cAsg k sc fz t e st
  | .seti x i e, st => cSeti k sc x i e st
  | .aug i op e, st => cAug k sc fz i op e st
  | .augi x i op e, st => false
  | .app x e, st => cMeth k sc "append" x e st
  | .ext x e, st => cMeth k sc "extend" x e st
  | .expr e, st => cExp k sc e st
  | .ret e, st => cRet k sc e st
  | .ife c a b, st => (match st with
    | .If ec ea eb _ => cE k sc c ec && cCs k sc fz a ea && cCs k sc fz b eb
    | _ => false)
  | .wh c b, st => (match st with
    | .While ec eb el _ => el.isEmpty && cE k sc c ec && cCs k sc fz b eb
    | _ => false)
  | .fr t kk its b, st => (match st with
    | .For tg it eb el _ => el.isEmpty && cT k.N sc t tg && t.slots.all (fun i => !fz.contains i) && (match itArgs true sc kk (isTuple tg) it with | some args => cEs k sc its args | none => false) && cCs k sc fz b eb
    | _ => false)
  | .brk, st => isBrk st
  | .cont, st => isCont st
  | .pass, st => isPass st
  | .never, _ => true
def cCs (k : Ck) (sc : Scope) (fz : List Nat) : List C → List Stmt → Bool
  | [], sts => sts.isEmpty
  | c :: cs, sts => (match sts with
    | s :: ss => cC k sc fz c s && cCs k sc fz cs ss
    | [] => false)
end
section
variable {k : Ck} {P : Ph} {lev : Nat} {sc : Scope} {X : Cx} {fz : List Nat}
theorem nin {i : Nat} (h : (!fz.contains i) = true) : i ∉ fz := fun z => by
  simp only [Bool.not_eq_true', List.contains_eq_mem, decide_eq_false_iff_not] at h; exact h z
theorem ses_frO {P : Ph} : ∀ {es : List Expr} {ms : List M}, es.all PlainT = true → SEs X es ms → SEs X es (ms.map frO)
  | [], _, _, .nil => .nil
  | e :: es, _, n, .cons h hs => by
    simp only [List.all_cons, Bool.and_eq_true] at n
    exact .cons (se_frO h n.1) (ses_frO (P := P) n.2 hs)
theorem loc_of (c : CtxOk k sc sc P lev X) {x : Str} (h : locB sc x = true) : Loc X.env.scope x := (c.asg x h).1
theorem assign_sub {n : Str} {p sp : Pos} {ie : Expr} {env : PySem.Env} (h : notSlice ie = true) (v : Value) : assign (.Subscript (.Name n p) ie sp) env v = (do
      let ov ← holding [v] (eval (.Name n p) env)
      let iv ← holding [v, ov] (eval ie env)
      standAt sp
      holding [v, ov, iv] (setItem ov iv v)
      release [v, ov, iv] []) := by
  cases ie <;> first | rfl | cases h
set_option maxHeartbeats 4000000 in
/-- the assignment to one name -/
theorem sAsg (hk : sc.kind = .function) (c : CtxOk k sc sc P lev X) {i : Nat} {x : Str} {xp p : Pos} {e : E} {v : Expr} (h1 : k.N[i]? = some x) (h2 : locB sc x = true) (h3 : i ∉ fz) (h4 : cE k sc e v = true)
    (h5 : okV sc x xp v = true) : SS X fz (.Assign [.Name x xp] v p) (asgO i (ev P e).val) := by
  have hi : X.N[i]? = some x := by rw [c.hN]; exact h1
  have hf := (c.asg x h2).2
  have plain : ∀ {l : Nat}, swapsWith v (some (.Name x xp)) l X.env = pure false → SS X fz (.Assign [.Name x xp] v p) (asgO i (ev P e).val) := fun {l} hs => by
    have hs' : swapsWith v (some (.Name x xp)) p.line X.env = pure false := by
      cases v with
      | ListComp elt gs s lp => exact hs
      | SetComp elt gs s lp => exact hs
      | DictComp a elt gs s lp => exact hs
      | _ => rfl
    exact ss_set h3 c.nd hi (loc_of c h2) (sE e v X sc sc c h4).val hs' hf
  cases v with
  | ListComp elt gs s lp =>
    simp only [okV] at h5
    split at h5
    case h_2 => cases h5
    rename_i bb hsw
    unfold swL at hsw
    split at hsw
    · rename_i hl
      split at hsw
      · rename_i hc
        -- the store swaps
        cases e with
        | lc t kk its cond elt' own =>
          match gs, h4 with
          | [⟨tg, iter, ifs, ia⟩], h =>
            simp only [cE, Bool.and_eq_true, decide_eq_true_eq] at h
            obtain ⟨⟨⟨⟨⟨⟨⟨rfl, hb⟩, ht⟩, hsl⟩, hit⟩, hl2⟩, hc2⟩, he⟩ := h
            split at hit
            case h_2 => cases hit
            rename_i args ha
            refine (lc_parts (pos := lp) c hb ht hsl ha hl2 (sEs its args X sc sc c hit) (fun s H C cl fp => sEs cond ifs _ _ _ (c.blk _ hb s H C cl fp) hc2) (fun s H C cl fp => sE elt' elt _ _ _ (c.blk _ hb s H C cl fp) he)).2 h3 hi (by rw [c.sc]; exact hl) ?_
            exact sw_true (by rw [c.sc]; exact hk) (by rw [c.sc]; exact hl) hc.1 hc.2
          | [], h => simp [cE] at h
          | _ :: _ :: _, h => simp [cE] at h
        | _ => simp [cE] at h4
      · split at hsw
        · rename_i hline
          exact plain (l := 0) (sw_line hline)
        · cases hsw
    · rename_i hl
      exact plain (l := 0) (sw_false (by rw [c.sc]; exact hl))
  | _ => exact plain (l := 0) (plainSw_of h5)
end
end Mini

namespace Mini
open PySem PySem.Spec L2
section
variable {k : Ck} {P : Ph} {lev : Nat} {sc : Scope} {X : Cx} {fz : List Nat}
theorem sPar (hk : sc.kind = .function) (c : CtxOk k sc sc P lev X) {ts : List T} {e : E} {tes : List Expr} {v : Expr} {names : List Str} {kt : Nat} {pt p : Pos} (hz : ∀ i ∈ fz, i ∉ (T.tp ts).slots) (h1 : cT k.N sc (.tp ts) (.Tuple tes kt pt) = true) (h3 : cE k sc e v = true) (h4 : plainSw v = true)
    (hsw : swS sc tes v = some (some names)) (h5 : parB sc ts e tes v names = true) : SS X fz (.Assign [.Tuple tes kt pt] v p) (unpO (.tp ts) (ev P e).val) := by
  obtain ⟨i, j, ea, eb, x, px, y, py, a, b, k2, pt2, rfl, rfl, rfl, rfl, g1, g2, g3, g4, g5, rfl⟩ := parB_form h5
  simp only [cT, cTs, Bool.and_eq_true, decide_eq_true_eq] at h1
  obtain ⟨⟨q1, q2⟩, ⟨q3, q4⟩, _⟩ := h1
  simp only [cE, cEs, Bool.and_eq_true] at h3
  obtain ⟨_, h3a, h3b, _⟩ := h3
  have hz' : ∀ l ∈ fz, l ≠ i ∧ l ≠ j := fun l hl => ⟨fun z => hz l hl (by subst z; simp [T.slots, slotsL]), fun z => hz l hl (by subst z; simp [T.slots, slotsL])⟩
  have hsl : swapsWithSole [.Tuple [.Name x px, .Name y py] kt pt] (.Tuple [a, b] k2 pt2) p.line X.env = pure false := plainSw_of (v := .Tuple [a, b] k2 pt2) (t := some (.Tuple [.Name x px, .Name y py] kt pt)) (l := p.line) (env := X.env) h4
  have r := ss_par (X := X) (fz := fz) (pos := p) (kt := kt) (pt := pt) (k2 := k2) (pt2 := pt2) (px := px) (py := py) hz' c.calm c.nd
    (by rw [c.hN]; exact q1) (by rw [c.hN]; exact q3) g1 (by rw [c.sc]; exact g4) (by rw [c.sc]; exact g5) g2 g3 (sE ea a X sc sc c h3a) (sE eb b X sc sc c h3b) (swS_of c.sc hk hsw) hsl
  have e2 : (ev P (.tup [ea, eb])).val = (tupM [ev P ea, ev P eb]).val := by simp only [ev, evs]
  rw [e2]; exact r
theorem sAsgC (hk : sc.kind = .function) (c : CtxOk k sc sc P lev X) (t : T) (e : E) (st : Stmt) (h : cAsg k sc fz t e st = true) : SS X fz st (ex P (.asg t e)) := by
  unfold cAsg at h
  split at h
  · rename_i i x xp v p
    simp only [Bool.and_eq_true, decide_eq_true_eq] at h
    obtain ⟨⟨⟨⟨h1, h2⟩, h3⟩, h4⟩, h5⟩ := h
    have r := sAsg (fz := fz) (xp := xp) (p := p) hk c h1 h2 (nin h3) h4 h5
    have e : ex P (.asg (.nm i) e) = asgO i (ev P e).val := by funext env; simp only [ex, asgO]
    rw [e]; exact r
  · rename_i ts tes kt pt v p
    simp only [Bool.and_eq_true] at h
    obtain ⟨⟨⟨⟨h1, h2⟩, h3⟩, h4⟩, h5⟩ := h
    have hz : ∀ i ∈ fz, i ∉ (T.tp ts).slots := fun i hi z => by
      have := List.all_eq_true.mp h2 i (by simpa only [T.slots] using z)
      exact nin this hi
    have e1 : ex P (.asg (.tp ts) e) = unpO (.tp ts) (ev P e).val := by funext env; simp only [ex, unpO]
    rw [e1]
    cases hsw : swS sc tes v with
    | none => rw [hsw] at h5; cases h5
    | some o =>
      cases o with
      | none =>
        have hsl : swapsWithSole [.Tuple tes kt pt] v p.line X.env = pure false := plainSw_of (v := v) (t := some (.Tuple tes kt pt)) (l := p.line) (env := X.env) h4
        exact ss_unp hz (sE e v X sc sc c h3).val (sT c (.tp ts) _ h1) hsl (swS_of c.sc hk hsw) rfl
      | some names =>
        rw [hsw] at h5
        exact sPar hk c hz h1 h3 h4 hsw h5
  · cases h
theorem sSetiC (c : CtxOk k sc sc P lev X) (x : Nat) (i e : E) (st : Stmt) (h : cSeti k sc x i e st = true) : SS X fz st (ex P (.seti x i e)) := by
  unfold cSeti at h
  split at h
  · rename_i n p2 ie sp v p
    simp only [Bool.and_eq_true, decide_eq_true_eq] at h
    obtain ⟨⟨⟨⟨⟨⟨h1, h2⟩, h3⟩, h4⟩, h5⟩, h6⟩, h7⟩ := h
    obtain ⟨n1, n2⟩ := okN_of h3
    have e1 : ex P (.seti x i e) = setiO x (ev P i) (ev P e) := by funext env; simp only [ex, setiO]
    rw [e1]
    have hsl : swapsWithSole [.Subscript (.Name n p2) ie sp] v p.line X.env = pure false := plainSw_of (v := v) (t := some (.Subscript (.Name n p2) ie sp)) (l := p.line) (env := X.env) h4
    exact ss_seti (by rw [c.hN]; exact h1) (vis_of c h2) n1 n2 (sE i ie X sc sc c h6) (sE e v X sc sc c h7) (assign_sub h5) hsl rfl
  · cases h
theorem sAugC (c : CtxOk k sc sc P lev X) (i : Nat) (op : Operator) (e : E) (st : Stmt) (h : cAug k sc fz i op e st = true) : SS X fz st (ex P (.aug i op e)) := by
  unfold cAug at h
  split at h
  · rename_i x p2 op' v p
    simp only [Bool.and_eq_true, decide_eq_true_eq] at h
    obtain ⟨⟨⟨⟨rfl, h1⟩, h2⟩, h3⟩, h4⟩ := h
    have e1 : ex P (.aug i op e) = augO i op (ev P e) := by funext env; simp only [ex, augO] <;> rfl
    rw [e1]
    exact ss_aug (nin h3) c.nd (by rw [c.hN]; exact h1) (loc_of c h2) (sE e v X sc sc c h4) (c.asg x h2).2
  · cases h
theorem sAppC (c : CtxOk k sc sc P lev X) (x : Nat) (e : E) (st : Stmt) (h : cMeth k sc "append" x e st = true) : SS X fz st (ex P (.app x e)) := by
  unfold cMeth at h
  split at h
  · rename_i n p2 at_ ap v cp p
    simp only [Bool.and_eq_true, decide_eq_true_eq] at h
    obtain ⟨⟨⟨⟨⟨⟨rfl, h1⟩, h2⟩, h3⟩, h4⟩, h5⟩, h6⟩ := h
    obtain ⟨n1, n2⟩ := okN_of h3
    have e1 : ex P (.app x e) = appO x (ev P e) := by funext env; simp only [ex, appO]
    rw [e1]
    exact ss_app (by rw [c.hN]; exact h1) (vis_of c h2) n1 n2 (sE e v X sc sc c h6) h4 rfl h5 (by rw [star_of h4]; rfl) rfl
  · cases h
theorem sExtC (c : CtxOk k sc sc P lev X) (x : Nat) (e : E) (st : Stmt) (h : cMeth k sc "extend" x e st = true) : SS X fz st (ex P (.ext x e)) := by
  unfold cMeth at h
  split at h
  · rename_i n p2 at_ ap v cp p
    simp only [Bool.and_eq_true, decide_eq_true_eq] at h
    obtain ⟨⟨⟨⟨⟨⟨rfl, h1⟩, h2⟩, h3⟩, h4⟩, h5⟩, h6⟩ := h
    obtain ⟨n1, n2⟩ := okN_of h3
    have e1 : ex P (.ext x e) = extO x (ev P e) := by funext env; simp only [ex, extO]
    rw [e1]
    exact ss_ext (by rw [c.hN]; exact h1) (vis_of c h2) n1 n2 (sE e v X sc sc c h6) h4 rfl h5 (by rw [star_of h4]; rfl) rfl
  · cases h
theorem sExpC (c : CtxOk k sc sc P lev X) (e : E) (st : Stmt) (h : cExp k sc e st = true) : SS X fz st (ex P (.expr e)) := by
  unfold cExp at h
  split at h
  · rename_i v p
    simp only [Bool.and_eq_true] at h
    have e1 : ex P (.expr e) = expO (ev P e).val := by funext env; simp only [ex, expO]
    rw [e1]
    exact ss_expr (sE e v X sc sc c h.2).val (plainSw_of h.1)
  · cases h
theorem sRetC (c : CtxOk k sc sc P lev X) (e : E) (st : Stmt) (h : cRet k sc e st = true) : SS X fz st (ex P (.ret e)) := by
  unfold cRet at h
  split at h
  · rename_i v p
    have e1 : ex P (.ret e) = retO (ev P e).val := by funext env; simp only [ex, retO]
    rw [e1]
    exact ss_ret (sE e v X sc sc c h).val
  · cases h
mutual
/-- THE STATEMENTS -/
theorem sC (hk : sc.kind = .function) (c : CtxOk k sc sc P lev X) : ∀ (m : C) (st : Stmt), cC k sc fz m st = true → SS X fz st (ex P m)
  | .asg t e, st, h => sAsgC hk c t e st (by rw [cC] at h; exact h)
  | .seti x i e, st, h => sSetiC c x i e st (by rw [cC] at h; exact h)
  | .aug i op e, st, h => sAugC c i op e st (by rw [cC] at h; exact h)
  | .augi x i op e, st, h => by rw [cC] at h; cases h
  | .app x e, st, h => sAppC c x e st (by rw [cC] at h; exact h)
  | .ext x e, st, h => sExtC c x e st (by rw [cC] at h; exact h)
  | .expr e, st, h => sExpC c e st (by rw [cC] at h; exact h)
  | .ret e, st, h => sRetC c e st (by rw [cC] at h; exact h)
  | .ife cc a b, st, h => by
    cases st with
    | If ec ea eb p =>
      simp only [cC, Bool.and_eq_true] at h
      have e1 : ex P (.ife cc a b) = ifO (ev P cc).tst (exs P a) (exs P b) := by funext env; simp only [ex, ifO]
      rw [e1]
      exact ss_if (sE cc ec X sc sc c h.1.1) (sCs hk c a ea h.1.2) (sCs hk c b eb h.2)
    | _ => simp [cC] at h
  | .wh cc b, st, h => by
    cases st with
    | While ec eb el p =>
      simp only [cC, Bool.and_eq_true, List.isEmpty_iff] at h
      obtain ⟨⟨rfl, h1⟩, h2⟩ := h
      have e1 : ex P (.wh cc b) = whC (ev P cc).tst (exs P b) := by funext env; simp only [ex]
      rw [e1]
      exact ss_wh (by rw [c.xe]; exact PassesOwn.never) (sE cc ec X sc sc c h1) (sCs hk c b eb h2)
    | _ => simp [cC] at h
  | .fr t kk its b, st, h => by
    cases st with
    | For tg it eb el p =>
      simp only [cC, Bool.and_eq_true, List.isEmpty_iff] at h
      obtain ⟨⟨⟨⟨rfl, h1⟩, h2⟩, h3⟩, h4⟩ := h
      cases ha : itArgs true sc kk (isTuple tg) it with
      | none => rw [ha] at h3; cases h3
      | some args =>
        rw [ha] at h3
        have e1 : ex P (.fr t kk its b) = frO2 t kk (evs P its) (exs P b) := by funext env; simp only [ex, frO2]
        rw [e1]
        obtain ⟨pi, fold⟩ := sI c ha (ses_frO (P := P) (itArgs_plain ha) (sEs its args X sc sc c h3))
        exact ss_for (fun i hi z => nin (List.all_eq_true.mp h2 i z) hi) (by rw [c.xe]; exact PassesOwn.never) c.calm pi (sT c t tg h1) (sCs hk c b eb h4) fold
    | _ => simp [cC] at h
  | .brk, st, h => by
    rw [cC] at h
    have e1 : ex P .brk = fun env => some (.bk env) := by funext env; simp only [ex]
    rw [e1]
    cases st <;> first | exact ss_brk | cases h
  | .cont, st, h => by
    rw [cC] at h
    have e1 : ex P .cont = fun env => some (.ct env) := by funext env; simp only [ex]
    rw [e1]
    cases st <;> first | exact ss_cont | cases h
  | .pass, st, h => by
    rw [cC] at h
    have e1 : ex P .pass = fun env => some (.nx env) := by funext env; simp only [ex]
    rw [e1]
    cases st <;> first | exact ss_pass | cases h
  | .never, st, h => by
    have e1 : ex P .never = fun env => none := by funext env; simp only [ex]
    rw [e1]; exact ss_never
theorem sCs (hk : sc.kind = .function) (c : CtxOk k sc sc P lev X) : ∀ (ms : List C) (sts : List Stmt), cCs k sc fz ms sts = true → SB X fz sts (exs P ms)
  | [], sts, h => by
    rw [cCs, List.isEmpty_iff] at h
    subst h
    have e1 : exs P [] = fun env => some (.nx env) := by funext env; simp only [exs]
    rw [e1]; exact sb_nil
  | m :: ms, sts, h => by
    cases sts with
    | cons st sts =>
      simp only [cCs, Bool.and_eq_true] at h
      have e1 : exs P (m :: ms) = seqO (ex P m) (exs P ms) := by funext env; simp only [exs, seqO] <;> rfl
      rw [e1]
      exact sb_cons (sC hk c m st h.1) (sCs hk c ms sts h.2)
    | nil => simp [cCs] at h
end
end
end Mini

namespace Mini
open PySem PySem.Spec L2
section
variable {K : PySem.W.Frag} {O O' : Own} {H H' : Hp}
theorem pad_get {as : En} {n i : Nat} {s : Sl} (h : (as ++ List.replicate n Sl.no)[i]? = some s) : as[i]? = some s ∨ s = .no := by
  by_cases hi : i < as.length
  · rw [List.getElem?_append_left hi] at h; exact .inl h
  · rw [List.getElem?_append_right (by omega), List.getElem?_replicate] at h
    split at h
    · cases h; exact .inr rfl
    · cases h
theorem W.pad {as : En} {vs : List V} {n : Nat} (w : W K O H as (vs.map some)) : W K O H (as ++ List.replicate n .no) (vs.map some ++ List.replicate n none) ∧ ∀ b, FpE H (as ++ List.replicate n .no) (vs.map some ++ List.replicate n none) b → FpE H as (vs.map some) b := by
  have l : as.length = vs.length := by have := w.len; simpa using this
  have sg : ∀ {i : Nat} {s : Sl} {v : V}, as[i]? = some s → (vs.map some ++ List.replicate n none)[i]? = some (some v) → (vs.map some)[i]? = some (some v) := fun {i s v} e h => by
    have hi : i < as.length := (List.getElem?_eq_some_iff.mp e).1
    rw [List.getElem?_append_left (by simp; omega)] at h; exact h
  refine ⟨⟨w.own, by simp [l], fun i s e => ?_, fun i j s t v u b ne e1 e2 e3 e4 f1 f2 => ?_⟩, fun b ⟨i, s, v, e1, e2, f⟩ => ?_⟩
  · rcases pad_get e with e | z
    · have hi : i < as.length := (List.getElem?_eq_some_iff.mp e).1
      rcases w.rep i s e with z | ⟨v, h1, h2⟩
      · exact .inl z
      · exact .inr ⟨v, by rw [List.getElem?_append_left (by simp; omega)]; exact h1, h2⟩
    · exact .inl z
  · rcases pad_get e1 with e1 | rfl
    · rcases pad_get e2 with e2 | rfl
      · exact w.sep i j s t v u b ne e1 e2 (sg e1 e3) (sg e2 e4) f1 f2
      · exact f2
    · exact f1
  · rcases pad_get e1 with e1 | rfl
    · exact ⟨i, s, v, e1, sg e1 e2, f⟩
    · exact f.elim
/-- what is told of the arguments, from the frame's end -/
theorem W.back {as e : En} {vs : List V} {σ' : St} (w : W K O' H' e σ') (l : as.length = vs.length) (h0 : hasBx as = true → ∀ v, vs[0]? = some v → σ'[0]? = some (some v)) : W K O' H' (wb as e) (vs.map some) ∧ ∀ b, FpE H' (wb as e) (vs.map some) b → FpE H' e σ' b := by
  have nos : wb as e = as.map (fun _ => .no) → W K O' H' (wb as e) (vs.map some) ∧ ∀ b, FpE H' (wb as e) (vs.map some) b → FpE H' e σ' b := fun z => by
    rw [z]
    obtain ⟨w1, nf⟩ := W.nos (K := K) (O := O') (H := H') (as := as) (σ := vs.map some) w.own (by simp [l])
    exact ⟨w1, fun b f => (nf b f).elim⟩
  match as, e, w, l, h0, nos with
  | [], e, w, l, h0, nos => exact nos rfl
  | .no :: r, e, w, l, h0, nos => exact nos rfl
  | .v _ :: r, e, w, l, h0, nos => exact nos rfl
  | .l _ :: r, e, w, l, h0, nos => exact nos rfl
  | .sc _ :: r, e, w, l, h0, nos => exact nos rfl
  | .bx _ _ :: r, [], w, l, h0, nos => exact nos rfl
  | .bx _ _ :: r, .no :: _, w, l, h0, nos => exact nos rfl
  | .bx _ _ :: r, .v _ :: _, w, l, h0, nos => exact nos rfl
  | .bx _ _ :: r, .l _ :: _, w, l, h0, nos => exact nos rfl
  | .bx _ _ :: r, .sc _ :: _, w, l, h0, nos => exact nos rfl
  | .bx cs rs :: r, .bx cs2 rs2 :: e', w, l, h0, nos =>
    cases vs with
    | nil => simp at l
    | cons v0 vs =>
      have s0 : σ'[0]? = some (some v0) := h0 rfl v0 rfl
      have e0 : wb (.bx cs rs :: r) (.bx cs2 rs2 :: e') = .bx cs2 rs2 :: r.map fun _ => .no := rfl
      rw [e0]
      have get : ∀ (i : Nat) (s : Sl), (Sl.bx cs2 rs2 :: r.map fun _ => Sl.no)[i]? = some s → (i = 0 ∧ s = .bx cs2 rs2) ∨ s = .no := fun i s z => by
        cases i with
        | zero => exact .inl ⟨rfl, by simpa using z.symm⟩
        | succ i =>
          simp only [List.getElem?_cons_succ, List.getElem?_map] at z
          cases hh : r[i]? with
          | none => rw [hh] at z; cases z
          | some q => rw [hh] at z; cases z; exact .inr rfl
      have rep0 : RepS K O' H' (.bx cs2 rs2) v0 := by
        rcases w.rep 0 (.bx cs2 rs2) rfl with z | ⟨u, h1, h2⟩
        · cases z
        · rw [s0] at h1; cases h1; exact h2
      refine ⟨⟨w.own, by simpa using l, fun i s z => ?_, fun i j s t v u b ne e1 e2 e3 e4 f1 f2 => ?_⟩, fun b ⟨i, s, v, e1, e2, f⟩ => ?_⟩
      · rcases get i s z with ⟨rfl, rfl⟩ | z
        · exact .inr ⟨v0, rfl, rep0⟩
        · exact .inl z
      · rcases get i s e1 with ⟨rfl, rfl⟩ | rfl
        · rcases get j t e2 with ⟨rfl, rfl⟩ | rfl
          · exact ne rfl
          · exact f2
        · exact f1
      · rcases get i s e1 with ⟨rfl, rfl⟩ | rfl
        · simp at e2; subst e2
          exact ⟨0, .bx cs2 rs2, v0, rfl, s0, f⟩
        · exact f.elim
end
/-! a whole program -/
structure FnI where
  x : Str
  st : Stmt
  ps : List Str
  N : List Str
  body : List C
  b : Bool
def FnI.fz (i : FnI) : List Nat := if i.b then [0] else []
def scopeB (i : FnI) : Bool :=
  (match (defScope i.st).kind with | .function => true | _ => false) && !(defScope i.st).isCoroutine && !(defScope i.st).isGenerator && decide i.N.Nodup && decide (i.N.take i.ps.length = i.ps) &&
    i.ps.all (fun x => match (defScope i.st).names.lookup x with | some .local => true | some .cell => true | _ => false) && (defScope i.st).names.all (fun y => match y.2 with | .free => false | _ => true)
theorem scope_of {i : FnI} (h : scopeB i = true) : FnScope i.N i.ps (defScope i.st) := by
  unfold scopeB at h
  simp only [Bool.and_eq_true, Bool.not_eq_true', decide_eq_true_eq, List.all_eq_true] at h
  obtain ⟨⟨⟨⟨⟨⟨h1, h2⟩, h3⟩, h4⟩, h5⟩, h6⟩, h7⟩ := h
  refine ⟨?_, h2, h3, h4, h5, fun x hx => ?_, fun y hy z => ?_⟩
  · split at h1
    · assumption
    · cases h1
  · have := h6 x hx
    split at this
    · exact .inl (by assumption)
    · exact .inr (by assumption)
    · cases this
  · have := h7 y hy
    rw [z] at this; cases this
def fnB (fn : List Str) (gl : List (Str × D)) (i : FnI) : Bool := scopeB i && cCs ⟨fn, gl, i.N⟩ (defScope i.st) i.fz i.body (defBody i.st)
/-- what the program's top has left -/
structure Top (gl : List (Str × D)) (K : PySem.W.Frag) (mg : Str → Option Value) : Prop where
  gls : ∀ (x : Str) (d : D), gl.lookup x = some d → ∃ v u, mg x = some u ∧ RelV v u ∧ ∀ (O : Own) (H : Hp), RepD K O H d v
  bls : ∀ b : Bl, mg (blName b) = none
  tys : ∀ t : Ty, mg (tyName t : Str) = none
  isi : mg "isinstance" = none
  its : mg "range" = none ∧ mg "enumerate" = none ∧ mg "zip" = none ∧ mg "reversed" = none ∧ mg "set" = none
section
variable {Pr : Program} {w : World} {K : PySem.W.Frag} {mg : Str → Option Value} {base : Heap}
/-- the functions at a level -/
def Lvl (Pr : Program) (w : World) (K : PySem.W.Frag) (mg : Str → Option Value) (base : Heap) (fn : List Str) (P : Ph) (lev : Nat) : Prop :=
  ∀ (j : Nat) (x : Str), fn[j]? = some x → ∃ (f : Addr) (fd : FuncData) (ps : List Str), FnOk Pr w K mg base CX0 lev f fd ps (spF K P j) ∧ mg x = some (.ref f) ∧ PySem.W.keepIn K (.ref f) = true ∧ Binds K fd ps []
theorem fn_body {fn : List Str} {gl : List (Str × D)} {i : FnI} {qual : Str} {f : Addr} {fd : FuncData} {P P' : Ph} {lev j : Nat} (F : Fun K i.x qual i.st f fd) (ok : fnB fn gl i = true) (T : Top gl K mg) (L : Lvl Pr w K mg base fn P lev)
    (hP : ∀ as, P' j as = runB P i.b i.ps.length i.N.length i.body as) : FnOk Pr w K mg base CX0 (lev + 1) f fd i.ps (spF K P' j) := by
  simp only [fnB, Bool.and_eq_true] at ok
  have S := scope_of ok.1
  have arity : ∀ (vs : List V) (H : Hp) (Q : VK) (E : XK), spF K P' j vs H Q E → vs.length = i.ps.length := fun vs H Q E h => by
    obtain ⟨O, as, r, as', wv, e, _⟩ := h
    rw [hP] at e
    unfold runB at e
    split at e
    · rename_i hl
      have := wv.len
      simp at this
      omega
    · cases e
  refine F.ok S arity fun cdv A outer s H vs Q E hr h => ?_
  have hvl := arity vs H Q E h
  obtain ⟨O, as, r, as', wv, e, q⟩ := h
  rw [hP] at e
  unfold runB at e
  split at e
  case isFalse => cases e
  rename_i hl
  simp only [Option.bind_eq_some_iff] at e
  obtain ⟨out, e1, e2⟩ := e
  have c : CtxOk ⟨fn, gl, i.N⟩ (defScope i.st) (defScope i.st) P lev (cxOf CX0 Pr w K mg base i.N qual (defScope i.st) f cdv A outer s H E).nox := {
    hN := rfl
    nd := S.nd
    sc := rfl
    calm := rfl
    room := hr
    xe := rfl
    fns := fun j x hx => ⟨L j x hx⟩
    gls := T.gls
    bls := T.bls
    tys := T.tys
    isi := T.isi
    its := T.its
    asg := fun x hx => by
      unfold locB at hx
      split at hx
      · rename_i z; exact ⟨.inl z, .inl rfl⟩
      · rename_i z; exact ⟨.inr z, .inl rfl⟩
      · cases hx }
  have sb := sCs (fz := i.fz) S.kind c i.body (defBody i.st) ok.2
  refine ⟨_, sb.run, ?_⟩
  have hst : L2.start i.N vs = vs.map some ++ List.replicate (i.N.length - i.ps.length) none := by unfold L2.start; rw [hvl]
  obtain ⟨wp, kp⟩ := wv.pad (n := i.N.length - i.ps.length)
  rw [hst]
  refine ⟨O, as ++ List.replicate (i.N.length - i.ps.length) Sl.no, out, wp, e1, ?_⟩
  -- the end
  have fin : ∀ {O' : Own} {H' : Hp} {σ' : St} {e' : En} {rr : Sl} {v : V}, Step O H (FpE H (as ++ List.replicate (i.N.length - i.ps.length) .no) (vs.map some ++ List.replicate (i.N.length - i.ps.length) none)) O' H' (FpR H' e' σ' rr v) → WR K O' H' e' σ' rr v →
      Kp i.fz (vs.map some ++ List.replicate (i.N.length - i.ps.length) none) σ' → r = rr → as' = e' → Q v H' := fun {O' H' σ' e' rr v} st wr kk er ee => by
    subst er ee
    obtain ⟨wB, kB⟩ := wr.w.back (as := as) (vs := vs) (by omega) fun hb v0 hv0 => by
      have hi : i.b = true := by rw [← hl.2]; exact hb
      have := kk 0 (by simp [FnI.fz, hi])
      rw [this, List.getElem?_append_left (by simp; exact (List.getElem?_eq_some_iff.mp hv0).1)]
      simp [hv0]
    refine q O' H' v ?_ ⟨wB, wr.val, fun b f1 f2 => wr.sep b f1 (kB b f2)⟩
    exact (st.wide kp).sub fun b f => f.imp (kB b) id
  cases out with
  | nx e' =>
    cases e2
    exact fun O' H' σ' st w' kk => fin (rr := .v .none) (v := .non) (st.sub fun b f => f.elim id fun z => z.elim) ⟨w', by simp only [RepS, RepD], fun b f => f.elim⟩ kk rfl rfl
  | rt s' e' =>
    cases e2
    exact fun O' H' σ' v st wr kk => fin st wr kk rfl rfl
  | bk e' => cases e2
  | ct e' => cases e2
/-- nothing is promised of no calls -/
theorem none_ok {f : Addr} {fd : FuncData} {ps : List Str} {P : Ph} {j lev : Nat} (h : ∀ as, P j as = none) : FnOk Pr w K mg base CX0 lev f fd ps (spF K P j) := by
  have no : ∀ vs H Q E, ¬ spF K P j vs H Q E := fun vs H Q E ⟨O, as, r, as', _, e, _⟩ => by rw [h] at e; cases e
  exact ⟨fun vs H Q E h => absurd h (no vs H Q E), fun A outer s H args us vs Q E _ _ _ _ h => absurd h (no vs H Q E)⟩
/-- a function of the table: of the text, or one that is shown by hand -/
inductive Entry where
  | user (i : FnI)
  | prim (m : Nat) (g : List Sl → Option (Sl × List Sl))
def Entry.fn : Entry → Fn
  | .user i => .user i.b i.ps.length i.N.length i.body
  | .prim m g => .prim m g
/-- what is to be known of each entry -/
def EntOk (Pr : Program) (w : World) (K : PySem.W.Frag) (mg : Str → Option Value) (base : Heap) (fn : List Str) (gl : List (Str × D)) (x : Str) : Entry → Prop
  | .user i => ∃ (f : Addr) (fd : FuncData), i.x = x ∧ Fun K x x i.st f fd ∧ fnB fn gl i = true ∧ mg x = some (.ref f) ∧ Binds K fd i.ps []
  | .prim m g => ∃ (f : Addr) (fd : FuncData) (ps : List Str), FnOk Pr w K mg base CX0 (m + 1) f fd ps (spF K (fun _ as => g as) 0) ∧ mg x = some (.ref f) ∧ PySem.W.keepIn K (.ref f) = true ∧ Binds K fd ps []
def tbOf (es : List Entry) (j : Nat) : Option Fn := (es[j]?).map Entry.fn
theorem all_ok {fn : List Str} {gl : List (Str × D)} {es : List Entry} (T : Top gl K mg) (len : fn.length = es.length) (h : ∀ (j : Nat) (x : Str) (e : Entry), fn[j]? = some x → es[j]? = some e → EntOk Pr w K mg base fn gl x e) : ∀ d, Lvl Pr w K mg base fn (callN (tbOf es) d) d
  | 0 => fun j x hx => by
    obtain ⟨e, he⟩ : ∃ e, es[j]? = some e := by
      have := (List.getElem?_eq_some_iff.mp hx).1
      exact ⟨es[j]'(by omega), List.getElem?_eq_getElem _⟩
    have := h j x e hx he
    cases e with
    | user i =>
      obtain ⟨f, fd, rfl, F, ok, hm, hb⟩ := this
      exact ⟨f, fd, i.ps, none_ok fun as => rfl, hm, F.kp, hb⟩
    | prim m g =>
      obtain ⟨f, fd, ps, F, hm, hk, hb⟩ := this
      exact ⟨f, fd, ps, none_ok fun as => rfl, hm, hk, hb⟩
  | d + 1 => fun j x hx => by
    have ih := all_ok T len h d
    obtain ⟨e, he⟩ : ∃ e, es[j]? = some e := by
      have := (List.getElem?_eq_some_iff.mp hx).1
      exact ⟨es[j]'(by omega), List.getElem?_eq_getElem _⟩
    have := h j x e hx he
    cases e with
    | user i =>
      obtain ⟨f, fd, rfl, F, ok, hm, hb⟩ := this
      exact ⟨f, fd, i.ps, fn_body F ok T ih fun as => by simp only [callN, tbOf, he, Option.map_some, Entry.fn], hm, F.kp, hb⟩
    | prim m g =>
      obtain ⟨f, fd, ps, F, hm, hk, hb⟩ := this
      refine ⟨f, fd, ps, ?_, hm, hk, hb⟩
      by_cases hmd : m ≤ d
      · refine (F.mono (by omega)).imp fun vs H Q E ⟨O, as, r, as', w1, e, q⟩ => ⟨O, as, r, as', w1, ?_, q⟩
        simpa only [callN, tbOf, he, Option.map_some, Entry.fn, if_pos hmd] using e
      · exact none_ok fun as => by simp only [callN, tbOf, he, Option.map_some, Entry.fn, if_neg hmd]
end
end Mini

namespace Mini
open PySem PySem.Spec L2
/-! the law's box: its own drawing of numbers -/
def boxMix (s : Int) : Int × Int :=
  let first := (s * 48271 + 17) % 2147483629
  let second := (first * 69621 + 5) % 2147483587
  let s2 := (second * 40692 + 3) % 2147483563
  (first * 4611686014132420609 + second * 2147483647 + s2, s2)
def boxLoad : List Int → Int → Int × List Int × Int
  | [], seed => ((boxMix seed).1, [], (boxMix seed).2)
  | c :: cs, seed =>
    let z := if c ≥ 0 then 2 * c else -2 * c - 1
    if z ≥ 1000000000000000000 then (z, cs, seed)
    else
      let s1 := (seed * 69621 + z * 48271 + 11) % 2147483647
      ((boxMix s1).1, cs, (boxMix s1).2)
def boxTake (cs : List Int) (size seed many : Int) : Int × List Int × Int × Int :=
  if size < many then ((boxLoad cs seed).1 % many, (boxLoad cs seed).2.1, (boxLoad cs seed).1 / many, (boxLoad cs seed).2.2)
  else (size % many, cs, size / many, seed)
def primDraw : List Sl → Option (Sl × List Sl)
  | [.bx cs [size, seed], .v (.int many)] => if divOk many then some (.v (.int (boxTake cs size seed many).1), [.bx (boxTake cs size seed many).2.1 [(boxTake cs size seed many).2.2.1, (boxTake cs size seed many).2.2.2], .v (.int many)]) else none
  | _ => none
def primBox : List Sl → Option (Sl × List Sl)
  | [.sc ns] => if ns.length ≤ 63 then some (.bx ns [0, 4711 + ns.length], [.sc ns]) else none
  | _ => none
/-- the promise of the loading -/
def spLoad : Sp := fun vs H Q _ => ∃ (a c : Addr) (cs : List Int) (size seed : Int), vs = [.ref a] ∧ H a = some (.lst [.ref c, .int size, .int seed]) ∧ H c = some (.lst (cs.map V.int)) ∧ a ≠ c ∧
  ∀ H', H' a = some (.lst [.ref c, .int size, .int (boxLoad cs seed).2.2]) → H' c = some (.lst ((boxLoad cs seed).2.1.map V.int)) → (∀ b, b ≠ a → b ≠ c → H' b = H b) → Q (.int (boxLoad cs seed).1) H'
/-- .. of the drawing -/
def spDraw : Sp := fun vs H Q _ => ∃ (a c : Addr) (cs : List Int) (size seed many : Int), vs = [.ref a, .int many] ∧ H a = some (.lst [.ref c, .int size, .int seed]) ∧ H c = some (.lst (cs.map V.int)) ∧ a ≠ c ∧ divOk many ∧
  ∀ H', H' a = some (.lst [.ref c, .int (boxTake cs size seed many).2.2.1, .int (boxTake cs size seed many).2.2.2]) → H' c = some (.lst ((boxTake cs size seed many).2.1.map V.int)) → (∀ b, b ≠ a → b ≠ c → H' b = H b) → Q (.int (boxTake cs size seed many).1) H'
theorem cmulR {i j : Int} (h : -(2 ^ 64) < j ∧ j < 2 ^ 64) : CMul i j := .inr h
theorem cmulL {i j : Int} (h : -(2 ^ 64) < i ∧ i < 2 ^ 64) : CMul i j := .inl h
end Mini

namespace Mini
open PySem PySem.Spec L2
/-! the law's tape: its own drawing of numbers, from cells that stay -/
def tapeMix (n : Int) : Int :=
  let a := (n * 6364136223846793005 + 1442695040888963407) % 18446744073709551616
  (a * a / 4294967296 + a * 69621) % 18446744073709551557
/-- place, size, seed behind a loading -/
def tapeLoad (cs : List Int) (p t : Int) : Int × Int × Int :=
  if p < (cs.length : Int) then
    let c := cs.getD p.toNat 0
    let z := if 0 ≤ c then 2 * c else -2 * c - 1
    (p + 1, if 1000000000000000000 ≤ z then z else tapeMix (tapeMix z + (p + 1)), tapeMix (t + z))
  else (p, tapeMix (t + 1), tapeMix (t + 1))
def tapeTake (cs : List Int) (p s t many : Int) : Int × Int × Int × Int :=
  if s < many then ((tapeLoad cs p t).2.1 % many, (tapeLoad cs p t).1, (tapeLoad cs p t).2.1 / many, (tapeLoad cs p t).2.2)
  else (s % many, p, s / many, t)
def primTake : List Sl → Option (Sl × List Sl)
  | [.bx cs [p, s, t], .v (.int many)] => if divOk many ∧ 0 ≤ p then some (.v (.int (tapeTake cs p s t many).1), [.bx cs [(tapeTake cs p s t many).2.1, (tapeTake cs p s t many).2.2.1, (tapeTake cs p s t many).2.2.2], .v (.int many)]) else none
  | _ => none
def primTape : List Sl → Option (Sl × List Sl)
  | [.sc ns] => if ns.length ≤ 63 then some (.bx ns [0, 0, 1 + ns.length], [.sc ns]) else none
  | _ => none
theorem tapeTake_p {cs : List Int} {p s t many : Int} (h : 0 ≤ p) : 0 ≤ (tapeTake cs p s t many).2.1 := by
  unfold tapeTake tapeLoad
  split
  · split
    · show 0 ≤ p + 1; omega
    · exact h
  · exact h
def spMix : Sp := fun vs H Q _ => ∃ n : Int, vs = [.int n] ∧ Q (.int (tapeMix n)) H
def spTake : Sp := fun vs H Q _ => ∃ (a c : Addr) (cs : List Int) (p s t many : Int), vs = [.ref a, .int many] ∧ H a = some (.lst [.ref c, .int p, .int s, .int t]) ∧ H c = some (.lst (cs.map V.int)) ∧ a ≠ c ∧ divOk many ∧ 0 ≤ p ∧
  ∀ H', H' a = some (.lst [.ref c, .int (tapeTake cs p s t many).2.1, .int (tapeTake cs p s t many).2.2.1, .int (tapeTake cs p s t many).2.2.2]) → (∀ b, b ≠ a → H' b = H b) → Q (.int (tapeTake cs p s t many).1) H'
end Mini

namespace Mini
open PySem L2
/-! the evaluator's equations, for the simplifier -/
section
variable (P : Ph) (env : En)
@[simp] theorem ev_var (i : Nat) : ev P (.var i) = varM i := by simp only [ev]
@[simp] theorem ev_cst (d : D) : ev P (.cst d) = .ofVal fun env => some (.v d, env) := by simp only [ev]
@[simp] theorem ev_bin (op : Operator) (a b : E) : ev P (.bin op a b) = op2 (binD op) (ev P a) (ev P b) := by simp only [ev]
@[simp] theorem ev_neg (a : E) : ev P (.neg a) = op1 negD (ev P a) := by simp only [ev]
@[simp] theorem ev_cmp (op : CmpOp) (a b : E) : ev P (.cmp op a b) = cmpM op (ev P a) (ev P b) := by simp only [ev]
@[simp] theorem ev_chn (o1 o2 : CmpOp) (a b c : E) : ev P (.chn o1 o2 a b c) = chnM o1 o2 (ev P a) (ev P b) (ev P c) := by simp only [ev]
@[simp] theorem ev_isn (ng : Bool) (a : E) : ev P (.isn ng a) = isnM ng (ev P a) := by simp only [ev]
@[simp] theorem ev_bop (o : BoolOp) (es : List E) : ev P (.bop o es) = bopM o (evs P es) := by simp only [ev]
@[simp] theorem ev_not (a : E) : ev P (.not a) = notM (ev P a) := by simp only [ev]
@[simp] theorem ev_ite (c a b : E) : ev P (.ite c a b) = iteM (ev P c) (ev P a) (ev P b) := by simp only [ev]
@[simp] theorem ev_tup (es : List E) : ev P (.tup es) = tupM (evs P es) := by simp only [ev]
@[simp] theorem ev_lst (es : List E) : ev P (.lst es) = lstM (evs P es) := by simp only [ev]
@[simp] theorem ev_idx (a i : E) : ev P (.idx a i) = op2 idxD (ev P a) (ev P i) := by simp only [ev]
@[simp] theorem ev_slc (a : E) (lo hi : List E) : ev P (.slc a lo hi) = slcM (ev P a) (evs P lo) (evs P hi) := by simp only [ev]
@[simp] theorem ev_call (f : Nat) (es : List E) : ev P (.call f es) = callM P f (evs P es) := by simp only [ev]
@[simp] theorem ev_callB (f i : Nat) (es : List E) : ev P (.callB f i es) = callBM P f i (evs P es) := by simp only [ev]
@[simp] theorem ev_callS (f i : Nat) : ev P (.callS f i) = callSM P f i := by simp only [ev]
@[simp] theorem ev_blt (b : Bl) (es : List E) : ev P (.blt b es) = bltM b (evs P es) := by simp only [ev]
@[simp] theorem ev_isi (a : E) (t : Ty) : ev P (.isi a t) = .cmp (op1 (fun d => some (.v (.bool (isiD d t)))) (ev P a)).val := by simp only [ev]
@[simp] theorem ev_lc (t : T) (k : IK) (its cond : List E) (elt : E) (own : List Nat) : ev P (.lc t k its cond elt own) = lcM t k (evs P its) (evs P cond) (ev P elt) own := by simp only [ev]
@[simp] theorem ev_pop (i : Nat) : ev P (.pop i) = popM i := by simp only [ev]
@[simp] theorem ev_mth (m : Mt) (a e : E) : ev P (.mth m a e) = mthM m (ev P a) (ev P e) := by simp only [ev]
@[simp] theorem ev_rev (a : E) : ev P (.rev a) = op1 revD (ev P a) := by simp only [ev]
@[simp] theorem ev_isb (ng k : Bool) (a : E) : ev P (.isb ng k a) = .cmp (op1 (isbD ng k) (ev P a)).val := by simp only [ev]
@[simp] theorem ev_rgv (tup : Bool) (es : List E) : ev P (.rgv tup es) = rgvM tup (evs P es) := by simp only [ev]
@[simp] theorem ev_upper (a : E) : ev P (.upper a) = upperM (ev P a) := by simp only [ev]
@[simp] theorem ev_sset (a : E) : ev P (.sset a) = op1 ssetD (ev P a) := by simp only [ev]
@[simp] theorem rgvM_eq (tup : Bool) (es : List M) : rgvM tup es = .ofVal fun env => (opsM es env).bind fun t => (gets t.2 t.1).bind fun ds => (rgvD tup ds).map fun r => (r, t.2) := (rfl)
@[simp] theorem upperM_eq (a : M) : upperM a = .ofVal fun env => (a.opd env).bind fun t => (t.1.get t.2).bind fun x0 => if isStr x0 then (upperD x0).map fun r => (r, t.2) else none := (rfl)
@[simp] theorem isStr_s (s : Str) : isStr (.str s) = true := (rfl)
@[simp] theorem revD_t (xs : List D) : revD (.tuple xs) = some (.v (.tuple xs.reverse)) := (rfl)
@[simp] theorem revD_l (xs : List D) : revD (.list xs) = some (.l xs.reverse) := (rfl)
@[simp] theorem isbD_b (ng k b : Bool) : isbD ng k (.bool b) = some (.v (.bool (if ng then !decide (b = k) else decide (b = k)))) := (rfl)
@[simp] theorem evs_nil : evs P [] = [] := by simp only [evs]
@[simp] theorem evs_cons (e : E) (es : List E) : evs P (e :: es) = ev P e :: evs P es := by simp only [evs]
@[simp] theorem ofVal_val (f : En → Option (Sl × En)) : (M.ofVal f).val = f := (rfl)
@[simp] theorem ofVal_opd (f : En → Option (Sl × En)) : (M.ofVal f).opd env = (frzM f env).map fun r => (.d r.1, r.2) := (rfl)
@[simp] theorem ofVal_tst (f : En → Option (Sl × En)) : (M.ofVal f).tst env = trM (fun env => (frzM f env).map fun r => (.d r.1, r.2)) env := (rfl)
@[simp] theorem cmp_val (f : En → Option (Sl × En)) : (M.cmp f).val = f := (rfl)
@[simp] theorem cmp_opd (f : En → Option (Sl × En)) : (M.cmp f).opd env = (frzM f env).map fun r => (.d r.1, r.2) := (rfl)
@[simp] theorem cmp_tst (f : En → Option (Sl × En)) : (M.cmp f).tst env = (f env).bind fun r => (bOf r.1).map fun b => (b, r.2) := (rfl)
@[simp] theorem op1_eq (f : D → Option Sl) (a : M) : op1 f a = .ofVal fun env => (a.opd env).bind fun r => (r.1.get r.2).bind fun x => (f x).map fun s => (s, r.2) := (rfl)
@[simp] theorem op2_eq (f : D → D → Option Sl) (a b : M) : op2 f a b = .ofVal fun env => (a.opd env).bind fun r => (b.opd r.2).bind fun t => (r.1.get t.2).bind fun x => (t.1.get t.2).bind fun y => (f x y).map fun s => (s, t.2) := (rfl)
@[simp] theorem cmpM_eq (op : CmpOp) (a b : M) : cmpM op a b = .cmp (op2 (cmpD op) a b).val := (rfl)
@[simp] theorem chnM_eq (op op2 : CmpOp) (a b c : M) : chnM op op2 a b c = .cmp fun env => (a.opd env).bind fun r => (b.opd r.2).bind fun t => (r.1.get t.2).bind fun x => (t.1.get t.2).bind fun y =>
  (cmpD op x y).bind fun s => (bOf s).bind fun k => if k then (c.opd t.2).bind fun u => (t.1.get u.2).bind fun y2 => (u.1.get u.2).bind fun z => (cmpD op2 y2 z).map fun r2 => (r2, u.2) else some (.v (.bool false), t.2) := (rfl)
@[simp] theorem isnM_eq (ng : Bool) (a : M) : isnM ng a = .cmp (op1 (isnD ng) a).val := (rfl)
@[simp] theorem notM_val (a : M) : (notM a).val env = (trM a.opd env).map fun r => (.v (.bool !r.1), r.2) := (rfl)
@[simp] theorem notM_opd (a : M) : (notM a).opd env = (frzM (notM a).val env).map fun r => (.d r.1, r.2) := (rfl)
@[simp] theorem notM_tst (a : M) : (notM a).tst env = (a.tst env).map fun r => (!r.1, r.2) := (rfl)
@[simp] theorem bopM_val (o : BoolOp) (es : List M) : (bopM o es).val env = (bopV o es env).map fun r => (.v r.1, r.2) := (rfl)
@[simp] theorem bopM_opd (o : BoolOp) (es : List M) : (bopM o es).opd env = (frzM (bopM o es).val env).map fun r => (.d r.1, r.2) := (rfl)
@[simp] theorem bopM_tst (o : BoolOp) (es : List M) : (bopM o es).tst env = bopT o es env := (rfl)
@[simp] theorem bopV_1 (o : BoolOp) (a : M) : bopV o [a] env = frzM a.val env := (rfl)
@[simp] theorem bopV_2 (o : BoolOp) (a b : M) (r : List M) : bopV o (a :: b :: r) env = (frzM a.val env).bind fun t => (truth t.1).bind fun k => if k == isAnd o then bopV o (b :: r) t.2 else some (t.1, t.2) := (rfl)
@[simp] theorem bopT_1 (o : BoolOp) (a : M) : bopT o [a] env = a.tst env := (rfl)
@[simp] theorem bopT_2 (o : BoolOp) (a b : M) (r : List M) : bopT o (a :: b :: r) env = (a.tst env).bind fun t => if t.1 == isAnd o then bopT o (b :: r) t.2 else some (t.1, t.2) := (rfl)
@[simp] theorem isAnd_1 : isAnd .And = true := (rfl)
@[simp] theorem isAnd_2 : isAnd .Or = false := (rfl)
@[simp] theorem iteM_val (c a b : M) : (iteM c a b).val env = (c.tst env).bind fun r => if r.1 then a.val r.2 else b.val r.2 := (rfl)
@[simp] theorem iteM_opd (c a b : M) : (iteM c a b).opd env = (frzM (iteM c a b).val env).map fun r => (.d r.1, r.2) := (rfl)
@[simp] theorem iteM_tst (c a b : M) : (iteM c a b).tst env = (c.tst env).bind fun r => if r.1 then a.tst r.2 else b.tst r.2 := (rfl)
@[simp] theorem frzM_eq (f : En → Option (Sl × En)) : frzM f env = (f env).bind fun r => r.1.frz.map fun d => (d, r.2) := (rfl)
@[simp] theorem trM_eq (g : En → Option (Opd × En)) : trM g env = (g env).bind fun r => (r.1.get r.2).bind fun d => (truth d).map fun b => (b, r.2) := (rfl)
@[simp] theorem argsM_nil : argsM [] env = some ([], env) := (rfl)
@[simp] theorem argsM_cons (a : M) (r : List M) : argsM (a :: r) env = (frzM a.val env).bind fun t => (argsM r t.2).map fun u => (t.1 :: u.1, u.2) := (rfl)
@[simp] theorem opsM_nil : opsM [] env = some ([], env) := (rfl)
@[simp] theorem opsM_cons (a : M) (r : List M) : opsM (a :: r) env = (a.opd env).bind fun t => (opsM r t.2).map fun u => (t.1 :: u.1, u.2) := (rfl)
@[simp] theorem gets_nil : gets env [] = some [] := (rfl)
@[simp] theorem gets_cons (p : Opd) (r : List Opd) : gets env (p :: r) = (p.get env).bind fun d => (gets env r).map (d :: ·) := (rfl)
@[simp] theorem tupM_eq (es : List M) : tupM es = .ofVal fun env => (argsM es env).bind fun t => if t.1.length ≤ sizeLine then some (.v (.tuple t.1), t.2) else none := (rfl)
@[simp] theorem lstM_eq (es : List M) : lstM es = .ofVal fun env => (argsM es env).bind fun t => if t.1.length ≤ sizeLine then some (.l t.1, t.2) else none := (rfl)
@[simp] theorem bltM_eq (b : Bl) (es : List M) : bltM b es = .ofVal fun env => (opsM es env).bind fun t => (gets t.2 t.1).bind fun ds => (bltD b ds).map fun r => (r, t.2) := (rfl)
@[simp] theorem mthM_eq (m : Mt) (a b : M) : mthM m a b = .ofVal fun env => (a.opd env).bind fun r => (r.1.get r.2).bind fun x0 => if isLst x0 then (b.opd r.2).bind fun t => (r.1.get t.2).bind fun x => (t.1.get t.2).bind fun y => (mthD m x y).map fun z => (z, t.2) else none := (rfl)
@[simp] theorem isLst_l (xs : List D) : isLst (.list xs) = true := (rfl)
@[simp] theorem partM_0 : partM [] env = some (none, env) := (rfl)
@[simp] theorem partM_1 (a : M) : partM [a] env = (a.opd env).bind fun t => (t.1.get t.2).bind fun d => match d with
    | .int i => some (some i, t.2)
    | _ => none := (rfl)
@[simp] theorem slcM_eq (a : M) (lo hi : List M) : slcM a lo hi = .ofVal fun env => (a.opd env).bind fun t => (partM lo t.2).bind fun u => (partM hi u.2).bind fun v => (t.1.get v.2).bind fun x => (slcD x u.1 v.1).map fun r => (r, v.2) := (rfl)
@[simp] theorem callM_eq (f : Nat) (es : List M) : callM P f es = .ofVal fun env => (argsM es env).bind fun t => (retOf P f (t.1.map .v)).map fun r => (r, t.2) := (rfl)
@[simp] theorem callSM_val (f i : Nat) (ns : List Int) (h : env[i]? = some (.sc ns)) : (callSM P f i).val env = (retOf P f [.sc ns]).map fun r => (r, env) := by
  show (match env[i]? with | some (.sc ns) => (retOf P f [.sc ns]).map fun r => (r, env) | _ => none) = _
  rw [h]
@[simp] theorem varM_val (i : Nat) : (varM i).val env = match env[i]? with
    | some (.v d) => some (.v d, env)
    | some (.l xs) => some (.v (.list xs), env.set i (.v (.list xs)))
    | _ => none := (rfl)
@[simp] theorem varM_opd (i : Nat) : (varM i).opd env = match env[i]? with
    | some (.v d) => some (.d d, env)
    | some (.l _) => some (.s i, env)
    | _ => none := (rfl)
@[simp] theorem varM_tst (i : Nat) : (varM i).tst env = trM (varM i).opd env := (rfl)
@[simp] theorem get_d (x : D) : (Opd.d x).get env = some x := (rfl)
@[simp] theorem get_s (i : Nat) : (Opd.s i).get env = (env[i]?).bind Sl.rd := (rfl)
@[simp] theorem rd_v (x : D) : (Sl.v x).rd = some x := (rfl)
@[simp] theorem rd_l (x : List D) : (Sl.l x).rd = some (.list x) := (rfl)
@[simp] theorem frz_v (x : D) : (Sl.v x).frz = some x := (rfl)
@[simp] theorem frz_l (x : List D) : (Sl.l x).frz = some (.list x) := (rfl)
@[simp] theorem bOf_v (b : Bool) : bOf (.v (.bool b)) = some b := (rfl)
@[simp] theorem b2s_eq (b : Bool) : b2s b = some (.v (.bool b)) := (rfl)
@[simp] theorem setS_v (i : Nat) (s : Sl) (d : D) (h : env[i]? = some (.v d)) : setS i s env = some (env.set i s) := by unfold setS; rw [h]
@[simp] theorem setS_l (i : Nat) (s : Sl) (d : List D) (h : env[i]? = some (.l d)) : setS i s env = some (env.set i s) := by unfold setS; rw [h]
@[simp] theorem setS_no (i : Nat) (s : Sl) (h : env[i]? = some .no) : setS i s env = some (env.set i s) := by unfold setS; rw [h]
@[simp] theorem asgT_nm (i : Nat) (d : D) : asgT (.nm i) d env = setS i (.v d) env := by simp only [asgT]
@[simp] theorem asgT_tp (ts : List T) (ds : List D) : asgT (.tp ts) (.tuple ds) env = asgTs ts ds env := by simp only [asgT]
@[simp] theorem asgTs_nil : asgTs [] [] env = some env := by simp only [asgTs]
@[simp] theorem asgTs_cons (t : T) (ts : List T) (d : D) (ds : List D) : asgTs (t :: ts) (d :: ds) env = (asgT t d env).bind (asgTs ts ds) := by simp only [asgTs]
@[simp] theorem wipeE_nil : wipeE env [] = env := (rfl)
@[simp] theorem wipeE_cons (v : Nat) (vs : List Nat) : wipeE env (v :: vs) = (wipeE env vs).set v .no := (rfl)
@[simp] theorem ex_asg (i : Nat) (e : E) : ex P (.asg (.nm i) e) env = ((ev P e).val env).bind fun r => (setS i r.1 r.2).map .nx := by simp only [ex]
@[simp] theorem ex_unp (ts : List T) (e : E) : ex P (.asg (.tp ts) e) env = (frzM (ev P e).val env).bind fun r => (asgT (.tp ts) r.1 r.2).map .nx := by simp only [ex]
@[simp] theorem ex_seti (x : Nat) (i e : E) : ex P (.seti x i e) env = (frzM (ev P e).val env).bind fun r => if isL r.2[x]? then ((ev P i).opd r.2).bind fun t => (t.1.get t.2).bind fun k => setiS x k r.1 t.2 else none := by simp only [ex]
@[simp] theorem ex_aug (i : Nat) (op : Operator) (e : E) (a : D) (h : env[i]? = some (.v a)) : ex P (.aug i op e) env = (frzM (ev P e).val env).bind fun r => (augD op a r.1).bind fun s => (setS i s r.2).map .nx := by simp only [ex, h]
@[simp] theorem ex_app (x : Nat) (e : E) : ex P (.app x e) env = if isL env[x]? then (frzM (ev P e).val env).bind fun r => appS x r.1 r.2 else none := by simp only [ex]
@[simp] theorem ex_ext (x : Nat) (e : E) : ex P (.ext x e) env = if isL env[x]? then (frzM (ev P e).val env).bind fun r => extS x r.1 r.2 else none := by simp only [ex]
@[simp] theorem ex_expr (e : E) : ex P (.expr e) env = ((ev P e).val env).map fun r => .nx r.2 := by simp only [ex]
@[simp] theorem ex_ret (e : E) : ex P (.ret e) env = ((ev P e).val env).map fun r => .rt r.1 r.2 := by simp only [ex]
@[simp] theorem ex_ife (c : E) (a b : List C) : ex P (.ife c a b) env = ((ev P c).tst env).bind fun r => if r.1 then exs P a r.2 else exs P b r.2 := by simp only [ex]
@[simp] theorem ex_wh (c : E) (b : List C) : ex P (.wh c b) env = whC (ev P c).tst (exs P b) env := by simp only [ex]
@[simp] theorem ex_fr (t : T) (k : IK) (its : List E) (b : List C) : ex P (.fr t k its b) env = (opsM ((evs P its).map frO) env).bind fun r => (gets r.2 r.1).bind fun ds => (itemsOf k ds).bind fun xs => frL t (exs P b) xs r.2 := by simp only [ex]
@[simp] theorem ex_brk : ex P .brk env = some (.bk env) := by simp only [ex]
@[simp] theorem ex_cont : ex P .cont env = some (.ct env) := by simp only [ex]
@[simp] theorem ex_pass : ex P .pass env = some (.nx env) := by simp only [ex]
/-- what follows a statement -/
noncomputable def thenO (P : Ph) (cs : List C) : Out → Option Out
  | .nx e1 => exs P cs e1
  | .rt s e1 => some (.rt s e1)
  | .bk e1 => some (.bk e1)
  | .ct e1 => some (.ct e1)
@[simp] theorem thenO_nx (cs : List C) (e : En) : thenO P cs (.nx e) = exs P cs e := (rfl)
@[simp] theorem thenO_rt (cs : List C) (s : Sl) (e : En) : thenO P cs (.rt s e) = some (.rt s e) := (rfl)
@[simp] theorem thenO_bk (cs : List C) (e : En) : thenO P cs (.bk e) = some (.bk e) := (rfl)
@[simp] theorem thenO_ct (cs : List C) (e : En) : thenO P cs (.ct e) = some (.ct e) := (rfl)
@[simp] theorem exs_nil : exs P [] env = some (.nx env) := by simp only [exs]
@[simp] theorem exs_cons (c : C) (cs : List C) : exs P (c :: cs) env = (ex P c env).bind (thenO P cs) := by
  simp only [exs]; congr 1
@[simp] theorem frO_opd (m : M) : (frO m).opd env = (frzM m.val env).map fun r => (.d r.1, r.2) := (rfl)
end
/-! loops -/
theorem whN_mono {c : En → Option (Bool × En)} {b : En → Option Out} : ∀ {n m : Nat} {env : En} {o : Out}, whN c b n env = some o → n ≤ m → whN c b m env = some o
  | 0, _, _, _, h, _ => by cases h
  | n + 1, 0, _, _, _, l => by omega
  | n + 1, m + 1, env, o, h, l => by
    simp only [whN, Option.bind_eq_some_iff] at h ⊢
    obtain ⟨⟨k, e1⟩, h1, h2⟩ := h
    refine ⟨(k, e1), h1, ?_⟩
    cases k with
    | false => exact h2
    | true =>
      simp only [if_true] at h2 ⊢
      simp only [Option.bind_eq_some_iff] at h2 ⊢
      obtain ⟨r, h3, h4⟩ := h2
      refine ⟨r, h3, ?_⟩
      cases r with
      | nx e2 => exact whN_mono h4 (by omega)
      | ct e2 => exact whN_mono h4 (by omega)
      | bk e2 => exact h4
      | rt s e2 => exact h4
theorem whC_of {c : En → Option (Bool × En)} {b : En → Option Out} {n : Nat} {env : En} {o : Out} (h : whN c b n env = some o) : whC c b env = some o := by
  have hh : ∃ n r, whN c b n env = some r := ⟨n, o, h⟩
  unfold whC
  rw [dif_pos hh]
  have h2 := hh.choose_spec.choose_spec
  have h3 := whN_mono h (Nat.le_max_left n hh.choose)
  have h4 := whN_mono h2 (Nat.le_max_right n hh.choose)
  rw [h3] at h4
  exact h4.symm
theorem whC_end {c : En → Option (Bool × En)} {b : En → Option Out} {env e1 : En} (h : c env = some (false, e1)) : whC c b env = some (.nx e1) :=
  whC_of (n := 1) (by simp [whN, h])
theorem whC_step {c : En → Option (Bool × En)} {b : En → Option Out} {env e1 e2 : En} {o : Out} (h : c env = some (true, e1)) (hb : b e1 = some (.nx e2)) (r : whC c b e2 = some o) : whC c b env = some o := by
  obtain ⟨n, hn⟩ := whC_some r
  exact whC_of (n := n + 1) (by simp [whN, h, hb, hn])
theorem whC_ret {c : En → Option (Bool × En)} {b : En → Option Out} {env e1 e2 : En} {s : Sl} (h : c env = some (true, e1)) (hb : b e1 = some (.rt s e2)) : whC c b env = some (.rt s e2) :=
  whC_of (n := 1) (by simp [whN, h, hb])
/-- calls -/
theorem call_user {es : List Entry} {d j : Nat} {i : FnI} (h : es[j]? = some (.user i)) (as : List Sl) : callN (tbOf es) (d + 1) j as = runB (callN (tbOf es) d) i.b i.ps.length i.N.length i.body as := by
  simp only [callN, tbOf, h, Option.map_some, Entry.fn]
theorem call_prim {es : List Entry} {d j m : Nat} {g : List Sl → Option (Sl × List Sl)} (h : es[j]? = some (.prim m g)) (hm : m ≤ d) (as : List Sl) : callN (tbOf es) (d + 1) j as = g as := by
  simp only [callN, tbOf, h, Option.map_some, Entry.fn, if_pos hm]
/-- a function's answer, by its body's outcome -/
theorem ret_user {es : List Entry} {d j : Nat} {i : FnI} {as : List Sl} {s : Sl} {e : En} (h : es[j]? = some (.user i)) (hl : as.length = i.ps.length) (hb : hasBx as = i.b) (hx : exs (callN (tbOf es) d) i.body (as ++ List.replicate (i.N.length - i.ps.length) .no) = some (.rt s e)) : retOf (callN (tbOf es) (d + 1)) j as = some s := by
  unfold retOf
  rw [call_user h]
  unfold runB
  rw [if_pos ⟨hl, hb⟩, hx]
  rfl
theorem retB_user {es : List Entry} {d j : Nat} {i : FnI} {as : List Sl} {s b : Sl} {e : En} (h : es[j]? = some (.user i)) (hl : as.length = i.ps.length) (hb : hasBx as = i.b) (hx : exs (callN (tbOf es) d) i.body (as ++ List.replicate (i.N.length - i.ps.length) .no) = some (.rt s (b :: e))) : retB (callN (tbOf es) (d + 1)) j as = some (s, b) := by
  unfold retB
  rw [call_user h]
  unfold runB
  rw [if_pos ⟨hl, hb⟩, hx]
  rfl
end Mini

namespace Mini
open PySem PySem.Spec L2
section
theorem setS_ok {env : En} {i : Nat} {s : Sl} (h : ∃ t, env[i]? = some t ∧ t.isBx = false) : setS i s env = some (env.set i s) := by
  obtain ⟨t, h1, h2⟩ := h
  unfold setS; rw [h1]
  cases t <;> first | rfl | cases h2
theorem setS_t (env : En) (i : Nat) (s t : Sl) (h : env[i]? = some t) (h2 : t.isBx = false) : setS i s env = some (env.set i s) := setS_ok ⟨t, h, h2⟩
@[simp] theorem binD_add (x y : Int) : binD .Add (.int x) (.int y) = some (.v (.int (x + y))) := (rfl)
@[simp] theorem binD_sub (x y : Int) : binD .Sub (.int x) (.int y) = some (.v (.int (x - y))) := (rfl)
@[simp] theorem binD_mod (x y : Int) (h : 0 < y) : binD .Mod (.int x) (.int y) = some (.v (.int (x % y))) := by simp [binD, h]
@[simp] theorem binD_mul (x y : Int) (h : mulOk x y) : binD .Mult (.int x) (.int y) = some (.v (.int (x * y))) := by simp [binD, h]
@[simp] theorem binD_div (x y : Int) (h : divOk y) : binD .FloorDiv (.int x) (.int y) = some (.v (.int (x / y))) := by simp [binD, h]
@[simp] theorem negD_int (x : Int) : negD (.int x) = some (.v (.int (-x))) := (rfl)
@[simp] theorem truth_int (x : Int) : truth (.int x) = some (x != 0) := (rfl)
@[simp] theorem truth_bool (x : Bool) : truth (.bool x) = some x := (rfl)
@[simp] theorem isn_eq (ng : Bool) (d : D) : isnD ng d = some (.v (.bool (match d with | .none => !ng | _ => ng))) := by cases d <;> rfl
@[simp] theorem cmp_lt (x y : Int) : cmpD .Lt (.int x) (.int y) = some (.v (.bool (decide (x < y)))) := (rfl)
@[simp] theorem cmp_gt (x y : Int) : cmpD .Gt (.int x) (.int y) = some (.v (.bool (decide (y < x)))) := (rfl)
@[simp] theorem cmp_le (x y : Int) : cmpD .LtE (.int x) (.int y) = some (.v (.bool (decide (x ≤ y)))) := (rfl)
@[simp] theorem cmp_ge (x y : Int) : cmpD .GtE (.int x) (.int y) = some (.v (.bool (decide (y ≤ x)))) := (rfl)
@[simp] theorem shaped_int (x : Int) : SeqAt.shaped (.int x) = true := (rfl)
@[simp] theorem shaped_bool (x : Bool) : SeqAt.shaped (.bool x) = true := (rfl)
@[simp] theorem cmp_eq (x y : Int) : cmpD .Eq (.int x) (.int y) = some (.v (.bool (decide (x = y)))) := by simp [cmpD, PyData.eqv]; rfl
@[simp] theorem cmp_ne (x y : Int) : cmpD .NotEq (.int x) (.int y) = some (.v (.bool (!decide (x = y)))) := by simp [cmpD, PyData.eqv]; rfl
@[simp] theorem cmp_eqb (x y : Bool) : cmpD .Eq (.bool x) (.bool y) = some (.v (.bool (x == y))) := by simp [cmpD, PyData.eqv]
@[simp] theorem abs_int (x : Int) : bltD .abs [.int x] = some (.v (.int x.natAbs)) := by
  have : (if x < 0 then -x else x) = (x.natAbs : Int) := by split <;> omega
  simp [bltD, this]
@[simp] theorem len_t (xs : List D) : bltD .len [.tuple xs] = some (.v (.int xs.length)) := (rfl)
@[simp] theorem len_l (xs : List D) : bltD .len [.list xs] = some (.v (.int xs.length)) := (rfl)
@[simp] theorem isBx_v (x : D) : (Sl.v x).isBx = false := (rfl)
@[simp] theorem isBx_no : (Sl.no).isBx = false := (rfl)
@[simp] theorem isBx_l (xs : List D) : (Sl.l xs).isBx = false := (rfl)
def Sm (x : Int) : Prop := x.natAbs < 2 ^ 4000
theorem Sm.log {x : Int} (h : Sm x) : x.natAbs.log2 < 4001 := by
  by_cases z : x.natAbs = 0
  · rw [z]; decide
  · rw [Nat.log2_lt z]; exact Nat.lt_of_lt_of_le h (Nat.pow_le_pow_right (by decide) (by decide))
theorem Sm.mul {x y : Int} (h : Sm x) (k : Sm y) : mulOk x y := .inl (by have := h.log; have := k.log; omega)
theorem Sm.div {x : Int} (h : Sm x) (p : 0 < x) : divOk x := ⟨p, by have := h.log; omega⟩
theorem Sm.le {x y : Int} (h : Sm x) (k : y.natAbs ≤ x.natAbs) : Sm y := Nat.lt_of_le_of_lt k h
@[simp] theorem idx_t (xs : List D) (i : Int) : idxD (.tuple xs) (.int i) = (atI xs i).map .v := (rfl)
@[simp] theorem idx_l (xs : List D) (i : Int) : idxD (.list xs) (.int i) = (atI xs i).map .v := (rfl)
theorem at0 (a : D) (xs : List D) : atI (a :: xs) 0 = some a := by simp [atI, ixN]
theorem at1 (a b : D) (xs : List D) : atI (a :: b :: xs) 1 = some b := by
  have : (1 : Int) < (xs.length : Int) + 1 + 1 := by omega
  simp [atI, ixN, this]
@[simp] theorem at0s (a : D) (xs : List D) : atI (a :: xs) 0 = some a := at0 a xs
@[simp] theorem at1s (a b : D) (xs : List D) : atI (a :: b :: xs) 1 = some b := at1 a b xs
theorem sm_of {x : Int} {n : Nat} (h : x.natAbs < 2 ^ n) (l : n ≤ 4000) : Sm x := Nat.lt_of_lt_of_le h (Nat.pow_le_pow_right (by decide) l)
theorem bd_mul {x y : Int} {m n : Nat} (h : x.natAbs < 2 ^ m) (k : y.natAbs < 2 ^ n) : (x * y).natAbs < 2 ^ (m + n) := by
  rw [Int.natAbs_mul, Nat.pow_add]
  exact Nat.mul_lt_mul'' h k
theorem bd_add {x y : Int} {n : Nat} (h : x.natAbs < 2 ^ n) (k : y.natAbs < 2 ^ n) : (x + y).natAbs < 2 ^ (n + 1) := by
  have := Int.natAbs_add_le x y
  rw [Nat.pow_succ]; omega
theorem bd_neg {x : Int} {n : Nat} (h : x.natAbs < 2 ^ n) : (-x).natAbs < 2 ^ n := by simpa using h
theorem bd_le {x : Int} {m n : Nat} (h : x.natAbs < 2 ^ n) (l : n ≤ m) : x.natAbs < 2 ^ m := Nat.lt_of_lt_of_le h (Nat.pow_le_pow_right (by decide) l)
@[simp] theorem gets_pair (env : En) (x y : D) : gets env [.d x, .d y] = some [x, y] := (rfl)
open Classical in
@[simp] theorem lcM_val (t : T) (k : IK) (its cond : List M) (elt : M) (own : List Nat) (env : En) : (lcM t k its cond elt own).val env = (opsM its env).bind fun r => (gets r.2 r.1).bind fun ds => (itemsOf k ds).bind fun xs =>
  if stillB r.2 (wipeE r.2 own) r.1 then (lcLoop t cond elt own r.1 r.2 xs (wipeE r.2 own)).map fun u => (.l u.1, restE r.2 u.2 own) else none := by
  unfold lcM
  rfl
@[simp] theorem lcM_opd (t : T) (k : IK) (its cond : List M) (elt : M) (own : List Nat) (env : En) : (lcM t k its cond elt own).opd env = (frzM (lcM t k its cond elt own).val env).map fun r => (.d r.1, r.2) := (rfl)
@[simp] theorem stillB_nil (e0 e1 : En) : stillB e0 e1 [] = True := (rfl)
@[simp] theorem stillB_d (e0 e1 : En) (d : D) (r : List Opd) : stillB e0 e1 (.d d :: r) = stillB e0 e1 r := (rfl)
@[simp] theorem stillB_s (e0 e1 : En) (i : Nat) (r : List Opd) : stillB e0 e1 (.s i :: r) = (e1[i]? = e0[i]? ∧ stillB e0 e1 r) := (rfl)
@[simp] theorem condM_0 (env : En) : condM [] env = some (true, env) := (rfl)
@[simp] theorem condM_1 (c : M) (env : En) : condM [c] env = c.tst env := (rfl)
section
variable (t : T) (cond : List M) (elt : M) (own : List Nat) (ps : List Opd) (e0 env : En)
@[simp] theorem lcLoop_nil : lcLoop t cond elt own ps e0 [] env = some ([], env) := by unfold lcLoop; rfl
open Classical in
@[simp] theorem lcLoop_cons (x : D) (xs : List D) : lcLoop t cond elt own ps e0 (x :: xs) env = (asgT t x env).bind fun e1 => (condM cond e1).bind fun r =>
      if r.1 then (frzM elt.val r.2).bind fun u => if stillB e0 (wipeE u.2 own) ps then (lcLoop t cond elt own ps e0 xs (wipeE u.2 own)).map fun v => (u.1 :: v.1, v.2) else none
      else if stillB e0 (wipeE r.2 own) ps then lcLoop t cond elt own ps e0 xs (wipeE r.2 own) else none := by
  rw [lcLoop]
end
@[simp] theorem restE_nil (e1 e2 : En) : restE e1 e2 [] = e2 := (rfl)
theorem restE_no (e1 e2 : En) (i : Nat) (r : List Nat) (h : e1[i]? = some .no) : restE e1 e2 (i :: r) = restE e1 e2 r := by
  simp only [restE, h]
theorem restE_v (e1 e2 : En) (i : Nat) (r : List Nat) (d : D) (h : e1[i]? = some (.v d)) : restE e1 e2 (i :: r) = (restE e1 e2 r).set i (.v d) := by
  simp only [restE, h]
@[simp] theorem items_t (xs : List D) : itemsOf .seq [.tuple xs] = some xs := (rfl)
@[simp] theorem items_l (xs : List D) : itemsOf .seq [.list xs] = some xs := (rfl)
theorem items_r (n : Nat) (h : n ≤ 1000) : itemsOf .rng [.int n] = some (rngL 0 n) := by
  have h1 : rngOk n := by unfold rngOk; omega
  have h2 : (n : Int) ≤ (sizeLine : Nat) := by unfold sizeLine; omega
  simp [itemsOf, h1, h2]
@[simp] theorem all_l (xs : List D) : bltD .all [.list xs] = (boolsL xs).map fun bs => .v (.bool (bs.all id)) := (rfl)
@[simp] theorem boolsL_nil : boolsL [] = some [] := (rfl)
@[simp] theorem boolsL_cons (b : Bool) (r : List D) : boolsL (.bool b :: r) = (boolsL r).map (b :: ·) := (rfl)
@[simp] theorem isB_bx (cs rs : List Int) : isB (some (.bx cs rs)) = true := (rfl)
@[simp] theorem isL_l (xs : List D) : isL (some (.l xs)) = true := (rfl)
@[simp] theorem callBM_val (P : Ph) (f i : Nat) (es : List M) (env : En) : (callBM P f i es).val env = if isB env[i]? then (argsM es env).bind fun t => match t.2[i]? with
  | some (.bx cs rs) => (retB P f (.bx cs rs :: t.1.map .v)).bind fun u => match u.2 with
    | .bx cs2 rs2 => some (u.1, t.2.set i (.bx cs2 rs2))
    | _ => none
  | _ => none else none := (rfl)
@[simp] theorem callBM_opd (P : Ph) (f i : Nat) (es : List M) (env : En) : (callBM P f i es).opd env = (frzM (callBM P f i es).val env).map fun r => (.d r.1, r.2) := (rfl)
theorem frL_inv {t : T} {b : En → Option Out} (J : List D → En → Prop) (step : ∀ x xs env, J (x :: xs) env → ∃ e1 e2, asgT t x env = some e1 ∧ b e1 = some (.nx e2) ∧ J xs e2) : ∀ xs env, J xs env → ∃ e, frL t b xs env = some (.nx e) ∧ J [] e
  | [], env, h => ⟨env, rfl, h⟩
  | x :: xs, env, h => by
    obtain ⟨e1, e2, h1, h2, h3⟩ := step x xs env h
    obtain ⟨e, h4, h5⟩ := frL_inv J step xs e2 h3
    exact ⟨e, by simp only [frL, h1, h2, Option.bind_some, h4], h5⟩
theorem app_ok (i : Nat) (xs : List D) (d : D) (env : En) (h : env[i]? = some (.l xs)) (hl : xs.length < 1000) : appS i d env = some (.nx (env.set i (.l (xs ++ [d])))) := by
  unfold appS
  rw [h]
  simp only []
  rw [if_pos (by unfold sizeLine; omega)]
@[simp] theorem at_last (xs : List D) (d : D) : atI (xs ++ [d]) (-1) = some d := by
  have : (-((xs.length : Int) + 1) ≤ -1) := by omega
  have h2 : ((-1 : Int) + ((xs.length : Int) + 1)).toNat = xs.length := by omega
  simp [atI, ixN, this, h2]
end
end Mini

namespace Mini
open PySem PySem.Spec L2
/-! a law's end -/
/-- the law's promise: True for each script of at most 63 ints -/
def spLaw (K : PySem.W.Frag) : Sp := fun vs H Q _ => ∃ (a : Addr) (ns : List Int), vs = [.ref a] ∧ ScL K H a (ns.map V.int) ∧ ns.length ≤ 63 ∧ ∀ H', Q (.bl true) H'
theorem spLaw_of {K : PySem.W.Frag} {H : Hp} {a : Addr} {ns : List Int} (hl : ns.length ≤ 63) (o : Only H) (h : SqL K H a (ns.map V.int)) : spLaw K [.ref a] H (fun v _ => v = .bl true) fun _ _ _ => False := by
  refine ⟨a, ns, rfl, ?_, hl, fun _ => rfl⟩
  rcases h with (h | h) | h
  · rcases o a with z | ⟨ob, xs, z⟩
    · rw [z] at h; cases h
    · rw [z] at h; cases h
  · exact .inl h
  · exact .inr h
theorem law_imp {Pr : Program} {w : World} {K : PySem.W.Frag} {mg : Str → Option Value} {base : Heap} {lev : Nat} {f : Addr} {fd : FuncData} {ps : List Str} {P : Ph} {j : Nat} (F : FnOk Pr w K mg base CX0 lev f fd ps (spF K P j))
    (h : ∀ ns : List Int, ns.length ≤ 63 → retOf P j [.sc ns] = some (.v (.bool true))) : FnOk Pr w K mg base CX0 lev f fd ps (spLaw K) := by
  refine F.imp fun vs H Q E ⟨a, ns, e, hs, hl, q⟩ => ?_
  subst e
  have hh := h ns hl
  unfold retOf at hh
  simp only [Option.map_eq_some_iff] at hh
  obtain ⟨⟨r, as'⟩, h1, h2⟩ := hh
  have h2 : r = .v (.bool true) := h2
  subst h2
  have wa : W K (fun _ => False) H [.sc ns] ([V.ref a].map some) := by
    refine ⟨fun b z => z.elim, rfl, fun i s z => ?_, fun i j s t v u b n z1 z2 z3 z4 f1 f2 => ?_⟩
    · match i, z with
      | 0, z => have e : s = .sc ns := by simpa using z.symm
                subst e; exact .inr ⟨.ref a, rfl, a, rfl, hs⟩
      | i + 1, z => simp at z
    · match i, z1 with
      | 0, z1 => have e : s = .sc ns := by simpa using z1.symm
                 subst e; exact f1
      | i + 1, z1 => simp at z1
  refine ⟨fun _ => False, [.sc ns], _, as', wa, h1, fun O' H' v st wr => ?_⟩
  have e : v = .bl true := by simpa only [RepS, RepD] using wr.val
  subst e
  exact q H'
/-- constants of the top -/
def GVal (d : D) (u : Value) : Prop := match d with
  | .int i => ∃ t, u = .int i t
  | .str s => ∃ t, u = .str s t
  | .bool b => u = .bool b
  | .none => u = .none
  | _ => False
theorem gl_val {K : PySem.W.Frag} {mg : Str → Option Value} {x : Str} {d : D} {u : Value} (h : mg x = some u) (g : GVal d u) : ∃ v u, mg x = some u ∧ RelV v u ∧ ∀ (O : Own) (H : Hp), RepD K O H d v := by
  cases d with
  | int i => exact ⟨.int i, u, h, g, fun _ _ => by simp only [RepD]⟩
  | str i => exact ⟨.str i, u, h, g, fun _ _ => by simp only [RepD]⟩
  | bool i => exact ⟨.bl i, u, h, g, fun _ _ => by simp only [RepD]⟩
  | none => exact ⟨.non, u, h, g, fun _ _ => by simp only [RepD]⟩
  | _ => exact g.elim
def GVals : List D → List Value → Prop
  | [], us => us = []
  | d :: ds, us => ∃ u r, us = u :: r ∧ GVal d u ∧ GVals ds r
def GTup (K : PySem.W.Frag) (d : D) (us : List Value) : Prop := match d with
  | .tuple ds => us.length ≤ sizeLine ∧ GVals ds us
  | _ => False
theorem gvals_of {K : PySem.W.Frag} : ∀ {ds : List D} {us : List Value}, GVals ds us → ∃ vs, Vals vs us ∧ ∀ (O : Own) (H : Hp), RepDs K O H ds vs
  | [], us, h => by
    have h : us = [] := h
    subst h
    exact ⟨[], .nil, fun _ _ => by simp only [RepDs]⟩
  | d :: ds, us, h => by
    obtain ⟨u, r, rfl, h1, h2⟩ := h
    obtain ⟨v, u', e, hv, hr⟩ := gl_val (K := K) (mg := fun _ => some u) (x := "a") rfl h1
    cases e
    obtain ⟨vs, h3, h4⟩ := gvals_of (K := K) h2
    exact ⟨v :: vs, .cons hv h3, fun O H => by simp only [RepDs]; exact ⟨v, vs, rfl, hr O H, h4 O H⟩⟩
theorem gl_tuple {K : PySem.W.Frag} {mg : Str → Option Value} {x : Str} {d : D} {z : Addr} {dd : Option Addr} {its : Array Value} {n : Nat} {sl : Array (Option Value)} (h : mg x = some (.ref z)) (l : K.lookup z = some ⟨.type "tuple", dd, .seq its n, sl⟩) (g : GTup K d its.toList) : ∃ v u, mg x = some u ∧ RelV v u ∧ ∀ (O : Own) (H : Hp), RepD K O H d v := by
  cases d with
  | tuple ds =>
    obtain ⟨g1, g2⟩ := g
    obtain ⟨vs, h3, h4⟩ := gvals_of (K := K) g2
    refine ⟨.ref z, .ref z, h, rfl, fun O H => ?_⟩
    simp only [RepD]
    exact ⟨z, vs, rfl, .inr ⟨_, its, n, l, rfl, rfl, by simpa using g1, h3⟩, h4 O H⟩
  | _ => exact g.elim
theorem lookup_mem {α : Type} : ∀ {l : List (Str × α)} {x : Str} {d : α}, l.lookup x = some d → (x, d) ∈ l
  | [], x, d, h => by simp at h
  | (y, e) :: r, x, d, h => by
    rw [List.lookup_cons] at h
    split at h
    · rename_i hb
      cases h
      have : x = y := by simpa using hb
      subst this
      exact List.mem_cons_self
    · exact List.mem_cons_of_mem _ (lookup_mem h)
theorem gls_of {gl : List (Str × D)} {Q : Str → D → Prop} (h : ∀ p ∈ gl, Q p.1 p.2) (x : Str) (d : D) (e : gl.lookup x = some d) : Q x d := h (x, d) (lookup_mem e)
end Mini

namespace Mini
open PySem PySem.Spec L2
section
theorem gcd_step (a b : Nat) : Nat.gcd b (a % b) = Nat.gcd a b := by
  rw [Nat.gcd_comm b, ← Nat.gcd_rec b a, Nat.gcd_comm]
theorem gcd_w (P : Ph) : ∀ (n a b : Nat), b ≤ n → whC (ev P (.var 1)).tst (exs P [(.asg (.tp [(.nm 0), (.nm 1)]) (.tup [(.var 1), (.bin .Mod (.var 0) (.var 1))]))]) [.v (.int a), .v (.int b)] = some (.nx [.v (.int (Nat.gcd a b)), .v (.int 0)])
  | n, a, 0, l => by
    apply whC_end
    simp
  | 0, a, b + 1, l => by omega
  | n + 1, a, b + 1, l => by
    refine whC_step (e1 := [.v (.int a), .v (.int ((b + 1 : Nat) : Int))]) (e2 := [.v (.int ((b + 1 : Nat) : Int)), .v (.int ((a % (b + 1) : Nat) : Int))]) ?_ ?_ ?_
    · simp; omega
    · have : (0 : Int) < (b : Int) + 1 := by omega
      simp [this, sizeLine]
    · rw [gcd_w P n (b + 1) (a % (b + 1)) (by have : a % (b + 1) < b + 1 := Nat.mod_lt a (Nat.succ_pos b); omega), gcd_step]
def rp (p q : Int) : Int := (if q < 0 then -p else p) / (Int.gcd p q : Int)
def rq (p q : Int) : Int := (if q < 0 then -q else q) / (Int.gcd p q : Int)
theorem g_pos {p q : Int} (h : q ≠ 0) : 0 < (Int.gcd p q : Int) := by
  have := Int.gcd_pos_of_ne_zero_right p h
  omega
theorem g_div {p q : Int} (h : q ≠ 0) (s : Sm q) : divOk (Int.gcd p q : Int) := by
  refine Sm.div (s.le ?_) (g_pos h)
  have := Nat.le_of_dvd (by omega) (Int.gcd_dvd_natAbs_right p q)
  simpa using this
theorem div_w (P : Ph) : ∀ (n a b : Nat), b ≤ n → Sm a → Sm b → whC (ev P (.cmp .NotEq (.var 1) (.cst (.int 0)))).tst (exs P [(.asg (.tp [(.nm 0), (.nm 1)]) (.tup [(.var 1), (.bin .Sub (.var 0) (.bin .Mult (.bin .FloorDiv (.var 0) (.var 1)) (.var 1)))]))]) [.v (.int a), .v (.int b)] = some (.nx [.v (.int (Nat.gcd a b)), .v (.int 0)])
  | n, a, 0, l, _, _ => by
    apply whC_end
    simp
  | 0, a, b + 1, l, _, _ => by omega
  | n + 1, a, b + 1, l, sa, sb => by
    have hm : ((a : Int) - (a : Int) / ((b : Int) + 1) * ((b : Int) + 1)) = ((a % (b + 1) : Nat) : Int) := by
      have := Int.emod_def (a : Int) ((b : Int) + 1)
      rw [Int.mul_comm] at this
      rw [← this]; rfl
    have lt : a % (b + 1) < b + 1 := Nat.mod_lt a (Nat.succ_pos b)
    have hd : divOk ((b : Int) + 1) := sb.div (by omega)
    have hp : mulOk ((a : Int) / ((b : Int) + 1)) ((b : Int) + 1) := by
      refine Sm.mul (sa.le ?_) sb
      have : (a : Int) / ((b : Int) + 1) = ((a / (b + 1) : Nat) : Int) := rfl
      rw [this, Int.natAbs_natCast, Int.natAbs_natCast]
      exact Nat.div_le_self _ _
    refine whC_step (e1 := [.v (.int a), .v (.int ((b + 1 : Nat) : Int))]) (e2 := [.v (.int ((b + 1 : Nat) : Int)), .v (.int ((a % (b + 1) : Nat) : Int))]) ?_ ?_ ?_
    · simp; omega
    · simp [sizeLine, hd, hp, hm]
    · rw [div_w P n (b + 1) (a % (b + 1)) (by omega) sb (sb.le (by rw [Int.natAbs_natCast, Int.natAbs_natCast]; omega)), gcd_step]
structure Rat2 (x y : Int) (n : Nat) : Prop where
  p : x.natAbs < 2 ^ n
  q : y.natAbs < 2 ^ n
  pos : 0 < y
theorem rr {p q : Int} {n : Nat} (hp : p.natAbs < 2 ^ n) (hq : q.natAbs < 2 ^ n) (h : q ≠ 0) : Rat2 (rp p q) (rq p q) n := by
  have g := g_pos (p := p) h
  have gn : 0 < Int.gcd p q := by omega
  refine ⟨?_, ?_, ?_⟩
  · refine Nat.lt_of_le_of_lt ?_ hp
    unfold rp
    have := Int.natAbs_ediv_le_natAbs (if q < 0 then -p else p) (Int.gcd p q : Int)
    refine Nat.le_trans this ?_
    split <;> simp
  · refine Nat.lt_of_le_of_lt ?_ hq
    unfold rq
    have := Int.natAbs_ediv_le_natAbs (if q < 0 then -q else q) (Int.gcd p q : Int)
    refine Nat.le_trans this ?_
    split <;> simp
  · unfold rq
    apply Int.ediv_pos_of_pos_of_dvd (by split <;> omega) (by omega)
    split
    · exact Int.dvd_neg.mpr (Int.gcd_dvd_right p q)
    · exact Int.gcd_dvd_right p q
theorem plus_b {a b c d : Int} {m n : Nat} (h1 : Rat2 a b m) (h2 : Rat2 c d n) : Rat2 (rp (a * d + c * b) (b * d)) (rq (a * d + c * b) (b * d)) (m + n + 1) := by
  have s1 := bd_mul h1.q h2.q
  have s2 := bd_mul h1.p h2.q
  have s3 := bd_mul h2.p h1.q
  rw [Nat.add_comm] at s3
  have pp := Int.mul_pos h1.pos h2.pos
  exact rr (bd_add s2 s3) (bd_le s1 (by omega)) (by omega)
theorem Rat2.neg {c d : Int} {n : Nat} (h : Rat2 c d n) : Rat2 (-c) d n := ⟨bd_neg h.p, h.q, h.pos⟩
theorem rp_neg {p q : Int} (h : 0 < q) : (rp p q < 0) ↔ p < 0 := by
  have g := g_pos (p := p) (q := q) (by omega)
  unfold rp
  rw [if_neg (by omega)]
  exact ⟨fun z => by
    refine Int.not_le.mp fun l => ?_
    have := Int.ediv_nonneg l (Int.le_of_lt g)
    omega, fun z => Int.ediv_neg_of_neg_of_pos z g⟩
end
end Mini

namespace Mini
open PySem PySem.Spec L2
section
theorem rp_g {p q : Int} (h : 0 < q) : rp p q * (Int.gcd p q : Int) = p := by
  unfold rp
  rw [if_neg (by omega)]
  exact Int.ediv_mul_cancel (Int.gcd_dvd_left p q)
theorem rq_g {p q : Int} (h : 0 < q) : rq p q * (Int.gcd p q : Int) = q := by
  unfold rq
  rw [if_neg (by omega)]
  exact Int.ediv_mul_cancel (Int.gcd_dvd_right p q)
theorem rq_pos {p q : Int} (h : 0 < q) : 0 < rq p q := by
  have g := g_pos (p := p) (q := q) (by omega)
  have e := rq_g (p := p) h
  refine Int.not_le.mp fun l => ?_
  have := Int.mul_nonpos_of_nonpos_of_nonneg l (Int.le_of_lt g)
  omega
/-- cross products of what is reduced -/
theorem rat_cross {p q : Int} (h : 0 < q) : rp p q * q = p * rq p q := by
  have e1 := rp_g (p := p) h
  have e2 := rq_g (p := p) h
  calc rp p q * q = rp p q * (rq p q * (Int.gcd p q : Int)) := by rw [e2]
    _ = (rp p q * (Int.gcd p q : Int)) * rq p q := by ac_rfl
    _ = p * rq p q := by rw [e1]
theorem less_iff {a b c d : Int} (hb : 0 < b) (hd : 0 < d) : rp a b * rq c d < rp c d * rq a b ↔ a * d < c * b := by
  have e1 := rp_g (p := a) hb
  have e2 := rq_g (p := a) hb
  have e3 := rp_g (p := c) hd
  have e4 := rq_g (p := c) hd
  have g1 := g_pos (p := a) (q := b) (by omega)
  have g2 := g_pos (p := c) (q := d) (by omega)
  have gg := Int.mul_pos g1 g2
  have x1 : a * d = (rp a b * rq c d) * ((Int.gcd a b : Int) * (Int.gcd c d : Int)) := by
    calc a * d = (rp a b * (Int.gcd a b : Int)) * (rq c d * (Int.gcd c d : Int)) := by rw [e1, e4]
      _ = _ := by ac_rfl
  have x2 : c * b = (rp c d * rq a b) * ((Int.gcd a b : Int) * (Int.gcd c d : Int)) := by
    calc c * b = (rp c d * (Int.gcd c d : Int)) * (rq a b * (Int.gcd a b : Int)) := by rw [e3, e2]
      _ = _ := by ac_rfl
  rw [x1, x2]
  exact ⟨fun z => Int.mul_lt_mul_of_pos_right z gg, fun z => Int.lt_of_mul_lt_mul_right z (Int.le_of_lt gg)⟩
theorem gcd_red {p q : Int} (h : 0 < q) : Int.gcd (rp p q) (rq p q) = 1 := by
  unfold rp rq
  rw [if_neg (by omega), if_neg (by omega)]
  exact Int.gcd_ediv_gcd_ediv_gcd (by have := g_pos (p := p) (q := q) (by omega); omega)
theorem dvd_gcd1 {a b c : Int} (h : a ∣ b * c) (g : Int.gcd a b = 1) : a ∣ c := by
  rw [← Int.natAbs_dvd_natAbs] at h ⊢
  rw [Int.natAbs_mul] at h
  exact Nat.Coprime.dvd_of_dvd_mul_left (show Nat.gcd a.natAbs b.natAbs = 1 from g) h
/-- two reduced ratios with one value are one -/
theorem red_uniq {x y u v : Int} (hy : 0 < y) (hv : 0 < v) (g1 : Int.gcd x y = 1) (g2 : Int.gcd u v = 1) (e : x * v = u * y) : x = u ∧ y = v := by
  have d1 : y ∣ v := by
    have : y ∣ x * v := ⟨u, by rw [e, Int.mul_comm]⟩
    exact dvd_gcd1 this (by rw [Int.gcd_comm]; exact g1)
  have d2 : v ∣ y := by
    have : v ∣ u * y := ⟨x, by rw [← e, Int.mul_comm]⟩
    exact dvd_gcd1 this (by rw [Int.gcd_comm]; exact g2)
  have l1 := Int.le_of_dvd hv d1
  have l2 := Int.le_of_dvd hy d2
  have ev : y = v := by omega
  subst ev
  exact ⟨Int.eq_of_mul_eq_mul_right (by omega) e, rfl⟩
theorem rat_uniq {p q u v : Int} (hq : 0 < q) (hv : 0 < v) (e : p * v = u * q) : rp p q = rp u v ∧ rq p q = rq u v := by
  apply red_uniq (rq_pos hq) (rq_pos hv) (gcd_red hq) (gcd_red hv)
  have c1 := rat_cross (p := p) hq
  have c2 := rat_cross (p := u) hv
  have : (rp p q * rq u v) * (q * v) = (rp u v * rq p q) * (q * v) := by
    calc (rp p q * rq u v) * (q * v) = (rp p q * q) * (rq u v * v) := by ac_rfl
      _ = (p * rq p q) * (rq u v * v) := by rw [c1]
      _ = (p * v) * (rq p q * rq u v) := by ac_rfl
      _ = (u * q) * (rq p q * rq u v) := by rw [e]
      _ = (u * rq u v) * (rq p q * q) := by ac_rfl
      _ = (rp u v * v) * (rq p q * q) := by rw [c2]
      _ = (rp u v * rq p q) * (q * v) := by ac_rfl
  exact Int.eq_of_mul_eq_mul_right (Int.ne_of_gt (Int.mul_pos hq hv)) this
end
end Mini

namespace Mini
open PySem PySem.Spec L2
section
@[simp] theorem isi_none_int : isiD .none .int = false := rfl
@[simp] theorem isi_none_bool : isiD .none .bool = false := rfl
@[simp] theorem isi_none_tuple : isiD .none .tuple = false := rfl
@[simp] theorem isi_none_list : isiD .none .list = false := rfl
@[simp] theorem isi_none_str : isiD .none .str = false := rfl
@[simp] theorem isi_bool_int (b : Bool) : isiD (.bool b) .int = true := rfl
@[simp] theorem isi_bool_bool (b : Bool) : isiD (.bool b) .bool = true := rfl
@[simp] theorem isi_bool_tuple (b : Bool) : isiD (.bool b) .tuple = false := rfl
@[simp] theorem isi_bool_list (b : Bool) : isiD (.bool b) .list = false := rfl
@[simp] theorem isi_bool_str (b : Bool) : isiD (.bool b) .str = false := rfl
@[simp] theorem isi_int_int (b : Int) : isiD (.int b) .int = true := rfl
@[simp] theorem isi_int_bool (b : Int) : isiD (.int b) .bool = false := rfl
@[simp] theorem isi_int_tuple (b : Int) : isiD (.int b) .tuple = false := rfl
@[simp] theorem isi_int_list (b : Int) : isiD (.int b) .list = false := rfl
@[simp] theorem isi_int_str (b : Int) : isiD (.int b) .str = false := rfl
@[simp] theorem isi_str_int (b : Str) : isiD (.str b) .int = false := rfl
@[simp] theorem isi_str_bool (b : Str) : isiD (.str b) .bool = false := rfl
@[simp] theorem isi_str_tuple (b : Str) : isiD (.str b) .tuple = false := rfl
@[simp] theorem isi_str_list (b : Str) : isiD (.str b) .list = false := rfl
@[simp] theorem isi_str_str (b : Str) : isiD (.str b) .str = true := rfl
@[simp] theorem isi_tuple_int (b : List D) : isiD (.tuple b) .int = false := rfl
@[simp] theorem isi_tuple_bool (b : List D) : isiD (.tuple b) .bool = false := rfl
@[simp] theorem isi_tuple_tuple (b : List D) : isiD (.tuple b) .tuple = true := rfl
@[simp] theorem isi_tuple_list (b : List D) : isiD (.tuple b) .list = false := rfl
@[simp] theorem isi_tuple_str (b : List D) : isiD (.tuple b) .str = false := rfl
@[simp] theorem isi_list_int (b : List D) : isiD (.list b) .int = false := rfl
@[simp] theorem isi_list_bool (b : List D) : isiD (.list b) .bool = false := rfl
@[simp] theorem isi_list_tuple (b : List D) : isiD (.list b) .tuple = false := rfl
@[simp] theorem isi_list_list (b : List D) : isiD (.list b) .list = true := rfl
@[simp] theorem isi_list_str (b : List D) : isiD (.list b) .str = false := rfl
theorem cmp_eqs (x y : Str) (h : SeqAt.shaped (.str x) = true) (h2 : SeqAt.shaped (.str y) = true) : cmpD .Eq (.str x) (.str y) = some (.v (.bool (x == y))) := by
  show (if _ then b2s _ else none) = _
  rw [if_pos ⟨h, h2⟩]; rfl
/-- a comprehension whose parts leave the names as they are -/
theorem lc_gen {t : T} {cond : List M} {elt : M} {own : List Nat} {ps : List Opd} {e0 env : En} (f : D → D) (g : D → Bool) (hs : stillB e0 env ps) : ∀ (xs : List D),
    (∀ x ∈ xs, ∃ e1, asgT t x env = some e1 ∧ wipeE e1 own = env ∧ condM cond e1 = some (g x, e1) ∧ (g x = true → frzM elt.val e1 = some (f x, e1))) →
    lcLoop t cond elt own ps e0 xs env = some ((xs.filter g).map f, env)
  | [], h => by rw [lcLoop_nil]; rfl
  | x :: xs, h => by
    obtain ⟨e1, h1, h2, h3, h4⟩ := h x List.mem_cons_self
    have ih := lc_gen f g hs xs fun y hy => h y (List.mem_cons_of_mem _ hy)
    rw [lcLoop_cons, h1]
    simp only [Option.bind_some, h3]
    have hs' : stillB e0 (wipeE e1 own) ps := by rw [h2]; exact hs
    by_cases b : g x = true
    · simp only [b, if_true, h4 b, Option.bind_some, if_pos hs']
      rw [h2, ih]
      simp [b]
    · have b : g x = false := by simpa using b
      simp only [b, Bool.false_eq_true, if_false, if_pos hs']
      rw [h2, ih]
      simp [b]
/-- .. without a condition -/
theorem lc_map {t : T} {elt : M} {own : List Nat} {ps : List Opd} {e0 env : En} (f : D → D) (hs : stillB e0 env ps) (xs : List D)
    (h : ∀ x ∈ xs, ∃ e1, asgT t x env = some e1 ∧ wipeE e1 own = env ∧ frzM elt.val e1 = some (f x, e1)) :
    lcLoop t [] elt own ps e0 xs env = some (xs.map f, env) := by
  have := lc_gen (cond := []) f (fun _ => true) hs xs fun x hx => by
    obtain ⟨e1, h1, h2, h3⟩ := h x hx
    exact ⟨e1, h1, h2, rfl, fun _ => h3⟩
  rw [List.filter_eq_self.mpr (fun _ _ => rfl)] at this
  exact this
/-- .. whose parts change the names -/
theorem lc_inv {t : T} {cond : List M} {elt : M} {own : List Nat} {ps : List Opd} {e0 : En} (J : List D → List D → En → Prop)
    (step : ∀ x xs ys env, J (x :: xs) ys env → ∃ e1 e2, asgT t x env = some e1 ∧
      ((condM cond e1 = some (true, e2) ∧ ∃ d e3, frzM elt.val e2 = some (d, e3) ∧ stillB e0 (wipeE e3 own) ps ∧ J xs (ys ++ [d]) (wipeE e3 own)) ∨
       (condM cond e1 = some (false, e2) ∧ stillB e0 (wipeE e2 own) ps ∧ J xs ys (wipeE e2 own)))) :
    ∀ xs ys env, J xs ys env → ∃ zs e, lcLoop t cond elt own ps e0 xs env = some (zs, e) ∧ J [] (ys ++ zs) e
  | [], ys, env, h => ⟨[], env, by rw [lcLoop_nil], by simpa using h⟩
  | x :: xs, ys, env, h => by
    obtain ⟨e1, e2, h1, h2⟩ := step x xs ys env h
    rcases h2 with ⟨h2, d, e3, h3, h4, h5⟩ | ⟨h2, h4, h5⟩
    · obtain ⟨zs, e, h6, h7⟩ := lc_inv J step xs (ys ++ [d]) _ h5
      refine ⟨d :: zs, e, ?_, by simpa using h7⟩
      rw [lcLoop_cons, h1]
      simp only [Option.bind_some, h2, if_true, h3, if_pos h4, h6, Option.map_some]
    · obtain ⟨zs, e, h6, h7⟩ := lc_inv J step xs ys _ h5
      refine ⟨zs, e, ?_, h7⟩
      rw [lcLoop_cons, h1]
      simp only [Option.bind_some, h2, Bool.false_eq_true, if_false, if_pos h4, h6]
theorem lcM_of {t : T} {k : IK} {its cond : List M} {elt : M} {own : List Nat} {env e1 e2 : En} {ps : List Opd} {ds xs rs : List D} (h1 : opsM its env = some (ps, e1)) (h2 : gets e1 ps = some ds) (h3 : itemsOf k ds = some xs)
    (h4 : stillB e1 (wipeE e1 own) ps) (h5 : lcLoop t cond elt own ps e1 xs (wipeE e1 own) = some (rs, e2)) : (lcM t k its cond elt own).val env = some (.l rs, restE e1 e2 own) := by
  rw [lcM_val, h1, Option.bind_some, h2, Option.bind_some, h3, Option.bind_some, if_pos h4, h5, Option.map_some]
theorem fr_of {P : Ph} {t : T} {k : IK} {its : List E} {b : List C} {env e1 : En} {ps : List Opd} {ds xs : List D} (h1 : opsM ((evs P its).map frO) env = some (ps, e1)) (h2 : gets e1 ps = some ds) (h3 : itemsOf k ds = some xs) : ex P (.fr t k its b) env = frL t (exs P b) xs e1 := by
  rw [ex_fr, h1, Option.bind_some, h2, Option.bind_some, h3, Option.bind_some]
theorem frz_of {f : En → Option (Sl × En)} {env e1 : En} {s : Sl} {d : D} (h : f env = some (s, e1)) (h2 : s.frz = some d) : frzM f env = some (d, e1) := by
  rw [frzM_eq, h, Option.bind_some, h2, Option.map_some]
/-! the law's look at two values alike -/
def bSame (j : Nat) : List C := [(.ife (.bop .Or [(.bop .And [(.isi (.var 0) .tuple), (.isi (.var 1) .tuple)]), (.bop .And [(.isi (.var 0) .list), (.isi (.var 1) .list)])]) [(.ret (.bop .And [(.cmp .Eq (.blt .len [(.var 0)]) (.blt .len [(.var 1)])), (.blt .all [(.lc (.nm 2) .rng [(.blt .len [(.var 0)])] [] (.call j [(.idx (.var 0) (.var 2)), (.idx (.var 1) (.var 2))]) [2])])]))] []),
    (.ife (.bop .Or [(.isi (.var 0) .bool), (.isi (.var 1) .bool)]) [(.ret (.bop .And [(.isi (.var 0) .bool), (.isi (.var 1) .bool), (.cmp .Eq (.var 0) (.var 1))]))] []),
    (.ife (.bop .Or [(.bop .And [(.isi (.var 0) .int), (.isi (.var 1) .int)]), (.bop .And [(.isi (.var 0) .str), (.isi (.var 1) .str)])]) [(.ret (.cmp .Eq (.var 0) (.var 1)))] []),
    (.ret (.bop .And [(.isn false (.var 0)), (.isn false (.var 1))]))]
def cap : Nat := 1000000
/-- data that the look takes, of no more depth than n -/
inductive OkS : Nat → D → Prop
  | none (n : Nat) : OkS n .none
  | bool (n : Nat) (b : Bool) : OkS n (.bool b)
  | int (n : Nat) (b : Int) : OkS n (.int b)
  | str (n : Nat) (s : Str) (h : SeqAt.shaped (.str s) = true) : OkS n (.str s)
  | tuple (n : Nat) (xs : List D) (h : xs.length ≤ cap) (h2 : ∀ x ∈ xs, OkS n x) : OkS (n + 1) (.tuple xs)
  | list (n : Nat) (xs : List D) (h : xs.length ≤ cap) (h2 : ∀ x ∈ xs, OkS n x) : OkS (n + 1) (.list xs)
structure SameAt (es : List Entry) (j : Nat) (i : FnI) : Prop where
  e : es[j]? = some (.user i)
  b : i.body = bSame j
  p : i.ps.length = 2
  n : i.N.length = 3
  x : i.b = false
theorem at_nth (xs : List D) (k : Nat) (d : D) (h : xs[k]? = some d) : atI xs (k : Int) = some d := by
  have hk : k < xs.length := by
    rcases Nat.lt_or_ge k xs.length with q | q
    · exact q
    · rw [List.getElem?_eq_none q] at h; cases h
  unfold atI ixN
  rw [if_pos (by omega), if_pos (by omega)]
  simpa using h
theorem items_r2 (n : Nat) (h : n ≤ cap) : itemsOf .rng [.int n] = some (rngL 0 n) := by
  have h0 : n ≤ 1000000 := h
  have h1 : rngOk n := by unfold rngOk; omega
  have h2 : (n : Int) ≤ (sizeLine : Nat) := by unfold sizeLine; omega
  simp [itemsOf, h1, h2]
theorem boolsL_all : ∀ (n : Nat) (bs : List D), (∀ b ∈ bs, b = .bool true) → boolsL bs = some (List.replicate bs.length true)
  | n, [], h => rfl
  | n, b :: bs, h => by
    rw [h b List.mem_cons_self]
    simp only [boolsL, boolsL_all n bs fun x hx => h x (List.mem_cons_of_mem _ hx), Option.map_some, List.length_cons, List.replicate_succ]
section
variable {es : List Entry} {j : Nat} {i : FnI} (S : SameAt es j i)
include S
theorem same_fin (m : Nat) (d : D) (h : exs (callN (tbOf es) m) (bSame j) [.v d, .v d, .no] = some (.rt (.v (.bool true)) [.v d, .v d, .no])) : retOf (callN (tbOf es) (m + 1)) j [.v d, .v d] = some (.v (.bool true)) := by
  have e : ([.v d, .v d] : List Sl) ++ List.replicate (3 - 2) .no = [.v d, .v d, .no] := rfl
  have h1 : ([.v d, .v d] : List Sl).length = i.ps.length := by rw [S.p]; rfl
  have h2 : hasBx ([.v d, .v d] : List Sl) = i.b := by rw [S.x]; rfl
  refine ret_user S.e h1 h2 (e := [.v d, .v d, .no]) ?_
  rw [S.b, S.n, S.p, e]
  exact h
theorem same_lc (m : Nat) (xs : List D) (d : D) (hd : d = .tuple xs ∨ d = .list xs) (hx : ∀ x ∈ xs, retOf (callN (tbOf es) m) j [.v x, .v x] = some (.v (.bool true))) :
    lcLoop (.nm 2) [] (ev (callN (tbOf es) m) (.call j [(.idx (.var 0) (.var 2)), (.idx (.var 1) (.var 2))])) [2] [.d (.int xs.length)] [.v d, .v d, .no] (rngL 0 xs.length) [.v d, .v d, .no] = some ((rngL 0 xs.length).map fun _ => .bool true, [.v d, .v d, .no]) := by
  apply lc_map (fun _ => .bool true) (by simp)
  intro x hx'
  unfold rngL at hx'
  simp only [List.mem_map, List.mem_range] at hx'
  obtain ⟨q, hq, rfl⟩ := hx'
  have hy := at_nth xs q xs[q] (List.getElem?_eq_getElem hq)
  have hz := hx xs[q] (List.getElem_mem hq)
  refine ⟨[.v d, .v d, .v (.int (0 + q))], ?_, ?_, ?_⟩
  · simp
  · simp
  · rcases hd with rfl | rfl <;> simp [hy, hz]
theorem same_seq (m : Nat) (xs : List D) (d : D) (hd : d = .tuple xs ∨ d = .list xs) (hl : xs.length ≤ cap) (hx : ∀ x ∈ xs, retOf (callN (tbOf es) m) j [.v x, .v x] = some (.v (.bool true))) :
    retOf (callN (tbOf es) (m + 1)) j [.v d, .v d] = some (.v (.bool true)) := by
  apply same_fin S
  have lc := same_lc S m xs d hd hx
  have bl : boolsL ((rngL 0 xs.length).map fun _ => (.bool true : D)) = some (List.replicate xs.length true) := by
    rw [boolsL_all 0 _ (fun b hb => by simp only [List.mem_map] at hb; obtain ⟨_, _, e⟩ := hb; exact e.symm)]
    simp [rngL]
  have it := items_r2 xs.length hl
  have c1 : (ev (callN (tbOf es) m) (.bop .Or [(.bop .And [(.isi (.var 0) .tuple), (.isi (.var 1) .tuple)]), (.bop .And [(.isi (.var 0) .list), (.isi (.var 1) .list)])])).tst [.v d, .v d, .no] = some (true, [.v d, .v d, .no]) := by
    rcases hd with rfl | rfl <;> simp
  have c2 : frzM (ev (callN (tbOf es) m) (.cmp .Eq (.blt .len [(.var 0)]) (.blt .len [(.var 1)]))).val [.v d, .v d, .no] = some (.bool true, [.v d, .v d, .no]) := by
    rcases hd with rfl | rfl <;> simp
  have c3 : (opsM [ev (callN (tbOf es) m) (.blt .len [(.var 0)])]) [.v d, .v d, .no] = some ([.d (.int xs.length)], [.v d, .v d, .no]) := by
    rcases hd with rfl | rfl <;> simp
  have c4 : (lcM (.nm 2) .rng (evs (callN (tbOf es) m) [(.blt .len [(.var 0)])]) (evs (callN (tbOf es) m) []) (ev (callN (tbOf es) m) (.call j [(.idx (.var 0) (.var 2)), (.idx (.var 1) (.var 2))])) [2]).val [.v d, .v d, .no] = some (.l ((rngL 0 xs.length).map fun _ => .bool true), [.v d, .v d, .no]) := by
    have := lcM_of (ds := [.int xs.length]) (k := .rng) c3 rfl it (by simp) lc
    rw [evs_cons, evs_nil, this, restE_no _ _ _ _ rfl, restE_nil]
  have c5 : (ev (callN (tbOf es) m) (.blt .all [(.lc (.nm 2) .rng [(.blt .len [(.var 0)])] [] (.call j [(.idx (.var 0) (.var 2)), (.idx (.var 1) (.var 2))]) [2])])).val [.v d, .v d, .no] = some (.v (.bool true), [.v d, .v d, .no]) := by
    rw [ev_blt, evs_cons, evs_nil, ev_lc, bltM_eq, ofVal_val, opsM_cons, lcM_opd, frz_of c4 rfl]
    simp only [opsM_nil, Option.map_some, Option.bind_some, gets_cons, gets_nil, get_d, all_l, bl, List.all_replicate]
    simp
  have c6 : (ev (callN (tbOf es) m) (.bop .And [(.cmp .Eq (.blt .len [(.var 0)]) (.blt .len [(.var 1)])), (.blt .all [(.lc (.nm 2) .rng [(.blt .len [(.var 0)])] [] (.call j [(.idx (.var 0) (.var 2)), (.idx (.var 1) (.var 2))]) [2])])])).val [.v d, .v d, .no] = some (.v (.bool true), [.v d, .v d, .no]) := by
    rw [ev_bop, bopM_val, evs_cons, evs_cons, evs_nil, bopV_2, c2]
    simp only [Option.bind_some, truth_bool, isAnd_1, beq_self_eq_true, if_true, bopV_1]
    rw [frz_of c5 rfl]
    rfl
  rw [bSame, exs_cons, ex_ife, c1]
  simp only [Option.bind_some, if_true, exs_cons, ex_ret, c6, Option.map_some, thenO_rt]
theorem same_none (m : Nat) : retOf (callN (tbOf es) (m + 1)) j [.v .none, .v .none] = some (.v (.bool true)) := same_fin S _ _ (by simp [bSame])
theorem same_bl (m : Nat) (b : Bool) : retOf (callN (tbOf es) (m + 1)) j [.v (.bool b), .v (.bool b)] = some (.v (.bool true)) := same_fin S _ _ (by simp [bSame])
theorem same_in (m : Nat) (b : Int) : retOf (callN (tbOf es) (m + 1)) j [.v (.int b), .v (.int b)] = some (.v (.bool true)) := same_fin S _ _ (by simp [bSame])
theorem same_st (m : Nat) (b : Str) (hs : SeqAt.shaped (.str b) = true) : retOf (callN (tbOf es) (m + 1)) j [.v (.str b), .v (.str b)] = some (.v (.bool true)) := same_fin S _ _ (by simp [bSame, cmp_eqs, hs])
theorem same_self : ∀ (n k : Nat) (d : D), OkS n d → retOf (callN (tbOf es) (n + k + 1)) j [.v d, .v d] = some (.v (.bool true)) := by
  intro n
  induction n with
  | zero =>
    intro k d h
    cases h with
    | none => exact same_none S _
    | bool _ b => exact same_bl S _ _
    | int _ b => exact same_in S _ _
    | str _ b hs => exact same_st S _ _ hs
  | succ n ih =>
    intro k d h
    have e : n + 1 + k + 1 = (n + k + 1) + 1 := by omega
    rw [e]
    cases h with
    | none => exact same_none S _
    | bool _ b => exact same_bl S _ _
    | int _ b => exact same_in S _ _
    | str _ b hs => exact same_st S _ _ hs
    | tuple _ xs hl hx => exact same_seq S _ _ _ (.inl rfl) hl fun x hy => ih k x (hx x hy)
    | list _ xs hl hx => exact same_seq S _ _ _ (.inr rfl) hl fun x hy => ih k x (hx x hy)
end
end
end Mini

namespace Mini
open PySem PySem.Spec L2
/-! what an environment forgets: a slot may be told as empty -/
def sle (a b : Sl) : Prop := a = b ∨ (a = .no ∧ b.isBx = false)
inductive LE : En → En → Prop
  | nil : LE [] []
  | cons {a b : Sl} {as bs : En} : sle a b → LE as bs → LE (a :: as) (b :: bs)
theorem sle.refl (a : Sl) : sle a a := .inl rfl
theorem sle.trans {a b c : Sl} (h : sle a b) (g : sle b c) : sle a c := by
  rcases h with rfl | ⟨rfl, h⟩
  · exact g
  · rcases g with rfl | ⟨rfl, g⟩
    · exact .inr ⟨rfl, h⟩
    · exact .inr ⟨rfl, g⟩
theorem LE.refl : ∀ e : En, LE e e
  | [] => .nil
  | a :: as => .cons (.refl a) (LE.refl as)
theorem LE.trans : ∀ {e f g : En}, LE e f → LE f g → LE e g
  | _, _, _, .nil, .nil => .nil
  | _, _, _, .cons h1 h2, .cons g1 g2 => .cons (h1.trans g1) (h2.trans g2)
theorem LE.get : ∀ {e f : En} {i : Nat} {s : Sl}, LE e f → e[i]? = some s → ∃ t, f[i]? = some t ∧ sle s t
  | _, _, _, _, .nil, h => by simp at h
  | _, _, 0, s, .cons (b := b) h1 h2, h => by
    simp at h; subst h; exact ⟨b, by simp, h1⟩
  | _, _, i + 1, s, .cons h1 h2, h => by
    simp at h; simpa using LE.get h2 h
theorem LE.same {e f : En} {i : Nat} {s : Sl} (l : LE e f) (h : e[i]? = some s) (n : s ≠ .no) : f[i]? = some s := by
  obtain ⟨t, h1, h2⟩ := l.get h
  rcases h2 with rfl | ⟨z, _⟩
  · exact h1
  · exact absurd z n
theorem LE.set : ∀ {e f : En} {i : Nat} {s t : Sl}, LE e f → sle s t → LE (e.set i s) (f.set i t)
  | _, _, _, _, _, .nil, h => .nil
  | _, _, 0, s, t, .cons h1 h2, h => .cons h h2
  | _, _, i + 1, s, t, .cons h1 h2, h => .cons h1 (LE.set h2 h)
theorem LE.setR : ∀ {e f : En} {i : Nat} {t : Sl}, LE e f → (e[i]? = none ∨ e[i]? = some .no) → t.isBx = false → LE e (f.set i t)
  | _, _, _, _, .nil, h, b => .nil
  | _, _, 0, t, .cons (a := a) h1 h2, h, b => by
    simp at h
    exact .cons (.inr ⟨h, b⟩) h2
  | _, _, i + 1, t, .cons h1 h2, h, b => .cons h1 (LE.setR h2 (by simpa using h) b)
theorem LE.none : ∀ {e f : En} {i : Nat}, LE e f → e[i]? = none → f[i]? = none
  | _, _, _, .nil, h => by simp
  | _, _, 0, .cons h1 h2, h => by simp at h
  | _, _, i + 1, .cons h1 h2, h => by
    simp at h ⊢; 
    have := LE.none h2 (i := i) (by simpa using h)
    simpa using this
/-- at forgotten slots too -/
def Mon {α : Type} (f : En → Option (α × En)) : Prop := ∀ (e g : En) (r : α) (e1 : En), LE e g → f e = some (r, e1) → ∃ g1, f g = some (r, g1) ∧ LE e1 g1
section
variable {α β : Type}
theorem Mon.pure (r : α) : Mon fun e => some (r, e) := fun e g r' e1 l h => by
  cases h; exact ⟨g, rfl, l⟩
theorem Mon.none : Mon (fun _ => (none : Option (α × En))) := fun _ _ _ _ l h => by cases h
theorem Mon.opt (o : Option α) : Mon fun e => o.map fun r => (r, e) := fun e g r' e1 l h => by
  cases o with
  | none => cases h
  | some r => cases h; exact ⟨g, rfl, l⟩
theorem Mon.bind {f : En → Option (β × En)} {k : β → En → Option (α × En)} (hf : Mon f) (hk : ∀ b, Mon (k b)) : Mon fun e => (f e).bind fun p => k p.1 p.2 := fun e g r e1 l h => by
  obtain ⟨⟨b, e2⟩, h1, h2⟩ := Option.bind_eq_some_iff.mp h
  obtain ⟨g2, h3, h4⟩ := hf _ _ _ _ l h1
  obtain ⟨g1, h5, h6⟩ := hk b _ _ _ _ h4 h2
  exact ⟨g1, by simp only [h3, Option.bind_some, h5], h6⟩
theorem Mon.map {f : En → Option (β × En)} {k : β → α} (hf : Mon f) : Mon fun e => (f e).map fun p => (k p.1, p.2) := fun e g r e1 l h => by
  obtain ⟨⟨b, e2⟩, h1, h2⟩ := Option.map_eq_some_iff.mp h
  obtain ⟨g2, h3, h4⟩ := hf _ _ _ _ l h1
  cases h2
  exact ⟨g2, by simp only [h3, Option.map_some], h4⟩
theorem Mon.obind {o : Option β} {k : β → En → Option (α × En)} (hk : ∀ b, Mon (k b)) : Mon fun e => o.bind fun b => k b e := fun e g r e1 l h => by
  obtain ⟨b, h1, h2⟩ := Option.bind_eq_some_iff.mp h
  obtain ⟨g1, h5, h6⟩ := hk b _ _ _ _ l h2
  exact ⟨g1, by simp only [h1, Option.bind_some, h5], h6⟩
theorem get_mono {e g : En} {p : Opd} {x : D} (l : LE e g) (h : p.get e = some x) : p.get g = some x := by
  cases p with
  | d y => exact h
  | s i =>
    simp only [Opd.get, Option.bind_eq_some_iff] at h ⊢
    obtain ⟨s, h1, h2⟩ := h
    exact ⟨s, l.same h1 (by intro z; subst z; cases h2), h2⟩
theorem Mon.get {p : Opd} {k : D → En → Option (α × En)} (hk : ∀ x, Mon (k x)) : Mon fun e => (p.get e).bind fun x => k x e := fun e g r e1 l h => by
  obtain ⟨x, h1, h2⟩ := Option.bind_eq_some_iff.mp h
  obtain ⟨g1, h5, h6⟩ := hk x _ _ _ _ l h2
  exact ⟨g1, by simp only [get_mono l h1, Option.bind_some, h5], h6⟩
theorem gets_mono {e g : En} (l : LE e g) : ∀ {ps : List Opd} {ds : List D}, gets e ps = some ds → gets g ps = some ds
  | [], ds, h => h
  | p :: ps, ds, h => by
    simp only [gets, Option.bind_eq_some_iff, Option.map_eq_some_iff] at h ⊢
    obtain ⟨d, h1, r, h2, h3⟩ := h
    exact ⟨d, get_mono l h1, r, gets_mono l h2, h3⟩
theorem Mon.gets {ps : List Opd} {k : List D → En → Option (α × En)} (hk : ∀ x, Mon (k x)) : Mon fun e => (gets e ps).bind fun x => k x e := fun e g r e1 l h => by
  obtain ⟨x, h1, h2⟩ := Option.bind_eq_some_iff.mp h
  obtain ⟨g1, h5, h6⟩ := hk x _ _ _ _ l h2
  exact ⟨g1, by simp only [gets_mono l h1, Option.bind_some, h5], h6⟩
theorem Mon.ite {c : Prop} [Decidable c] {f k : En → Option (α × En)} (hf : Mon f) (hk : Mon k) : Mon fun e => if c then f e else k e := fun e g r e1 l h => by
  by_cases hc : c
  · simp only [if_pos hc] at h ⊢; exact hf _ _ _ _ l h
  · simp only [if_neg hc] at h ⊢; exact hk _ _ _ _ l h
end
structure MonM (m : M) : Prop where
  val : Mon m.val
  opd : Mon m.opd
  tst : Mon m.tst
theorem Mon.frz {f : En → Option (Sl × En)} (h : Mon f) : Mon (frzM f) :=
  Mon.bind (k := fun (s : Sl) (e1 : En) => s.frz.map fun d => (d, e1)) h fun s => Mon.opt s.frz
theorem Mon.tr {f : En → Option (Opd × En)} (h : Mon f) : Mon (trM f) :=
  Mon.bind (k := fun (p : Opd) (e1 : En) => (p.get e1).bind fun d => (truth d).map fun b => (b, e1)) h fun p => Mon.get fun d => Mon.opt (truth d)
theorem MonM.ofVal {f : En → Option (Sl × En)} (h : Mon f) : MonM (.ofVal f) :=
  ⟨h, Mon.map (k := fun d => Opd.d d) h.frz, Mon.tr (Mon.map (k := fun d => Opd.d d) h.frz)⟩
theorem MonM.cmp {f : En → Option (Sl × En)} (h : Mon f) : MonM (.cmp f) :=
  ⟨h, Mon.map (k := fun d => Opd.d d) h.frz, Mon.bind (k := fun (s : Sl) (e1 : En) => (bOf s).map fun b => (b, e1)) h fun s => Mon.opt (bOf s)⟩
theorem MonM.var (i : Nat) : MonM (varM i) := by
  have o : Mon (varM i).opd := fun e g r e1 l h => by
    simp only [varM] at h ⊢
    split at h
    · rename_i d hd
      cases h
      rw [l.same hd (by intro z; cases z)]
      exact ⟨g, rfl, l⟩
    · rename_i d hd
      cases h
      rw [l.same hd (by intro z; cases z)]
      exact ⟨g, rfl, l⟩
    · cases h
  refine ⟨fun e g r e1 l h => ?_, o, Mon.tr o⟩
  simp only [varM] at h ⊢
  split at h
  · rename_i d hd
    cases h
    rw [l.same hd (by intro z; cases z)]
    exact ⟨g, rfl, l⟩
  · rename_i d hd
    cases h
    rw [l.same hd (by intro z; cases z)]
    exact ⟨_, rfl, l.set (.refl _)⟩
  · cases h
theorem MonM.op1 {f : D → Option Sl} {a : M} (ha : MonM a) : MonM (op1 f a) :=
  .ofVal (Mon.bind (k := fun (p : Opd) (e1 : En) => (p.get e1).bind fun x => (f x).map fun r => (r, e1)) ha.opd fun p => Mon.get fun x => Mon.opt (f x))
theorem Mon.op2 {f : D → D → Option Sl} {a b : M} (ha : MonM a) (hb : MonM b) : Mon (op2 f a b).val :=
  Mon.bind (k := fun (p : Opd) (e1 : En) => (b.opd e1).bind fun t => (p.get t.2).bind fun x => (t.1.get t.2).bind fun y => (f x y).map fun r => (r, t.2)) ha.opd fun p =>
    Mon.bind (k := fun (q : Opd) (e2 : En) => (p.get e2).bind fun x => (q.get e2).bind fun y => (f x y).map fun r => (r, e2)) hb.opd fun q => Mon.get fun x => Mon.get fun y => Mon.opt (f x y)
theorem MonM.op2 {f : D → D → Option Sl} {a b : M} (ha : MonM a) (hb : MonM b) : MonM (op2 f a b) := .ofVal (Mon.op2 ha hb)
theorem MonM.chn {o1 o2 : CmpOp} {a b c : M} (ha : MonM a) (hb : MonM b) (hc : MonM c) : MonM (chnM o1 o2 a b c) :=
  .cmp (Mon.bind (k := fun (p : Opd) (e1 : En) => (b.opd e1).bind fun t => (p.get t.2).bind fun x => (t.1.get t.2).bind fun y =>
      (cmpD o1 x y).bind fun r => (bOf r).bind fun k => if k then (c.opd t.2).bind fun u => (t.1.get u.2).bind fun y2 => (u.1.get u.2).bind fun z => (cmpD o2 y2 z).map fun r2 => (r2, u.2) else some (.v (.bool false), t.2)) ha.opd fun p =>
    Mon.bind (k := fun (q : Opd) (e2 : En) => (p.get e2).bind fun x => (q.get e2).bind fun y =>
      (cmpD o1 x y).bind fun r => (bOf r).bind fun k => if k then (c.opd e2).bind fun u => (q.get u.2).bind fun y2 => (u.1.get u.2).bind fun z => (cmpD o2 y2 z).map fun r2 => (r2, u.2) else some (.v (.bool false), e2)) hb.opd fun q =>
      Mon.get fun x => Mon.get fun y => Mon.obind fun r => Mon.obind fun k => Mon.ite
        (Mon.bind (k := fun (t : Opd) (e3 : En) => (q.get e3).bind fun y2 => (t.get e3).bind fun z => (cmpD o2 y2 z).map fun r2 => (r2, e3)) hc.opd fun t => Mon.get fun y2 => Mon.get fun z => Mon.opt (cmpD o2 y2 z)) (Mon.pure _))
theorem MonM.not {a : M} (ha : MonM a) : MonM (notM a) :=
  have h := MonM.ofVal (Mon.map (k := fun b => Sl.v (.bool !b)) ha.opd.tr)
  ⟨h.val, h.opd, Mon.map (k := fun b => !b) ha.tst⟩
theorem Mon.bopV {o : BoolOp} : ∀ {es : List M}, (∀ m ∈ es, MonM m) → Mon (bopV o es)
  | [], h => Mon.none
  | [a], h => (h a List.mem_cons_self).val.frz
  | a :: b :: r, h => Mon.bind (k := fun (d : D) (e1 : En) => (truth d).bind fun k => if k == isAnd o then Mini.bopV o (b :: r) e1 else some (d, e1)) (h a List.mem_cons_self).val.frz fun d => Mon.obind fun k => Mon.ite (Mon.bopV fun m hm => h m (List.mem_cons_of_mem _ hm)) (Mon.pure d)
theorem Mon.bopT {o : BoolOp} : ∀ {es : List M}, (∀ m ∈ es, MonM m) → Mon (bopT o es)
  | [], h => Mon.none
  | [a], h => (h a List.mem_cons_self).tst
  | a :: b :: r, h => Mon.bind (k := fun (k : Bool) (e1 : En) => if k == isAnd o then Mini.bopT o (b :: r) e1 else some (k, e1)) (h a List.mem_cons_self).tst fun k => Mon.ite (Mon.bopT fun m hm => h m (List.mem_cons_of_mem _ hm)) (Mon.pure k)
theorem MonM.bop {o : BoolOp} {es : List M} (h : ∀ m ∈ es, MonM m) : MonM (bopM o es) :=
  have q := MonM.ofVal (Mon.map (k := fun d => Sl.v d) (Mon.bopV (o := o) h))
  ⟨q.val, q.opd, Mon.bopT h⟩
theorem MonM.ite {c a b : M} (hc : MonM c) (ha : MonM a) (hb : MonM b) : MonM (iteM c a b) :=
  have q := MonM.ofVal (Mon.bind (k := fun (k : Bool) (e1 : En) => if k then a.val e1 else b.val e1) hc.tst fun k => Mon.ite ha.val hb.val)
  ⟨q.val, q.opd, Mon.bind (k := fun (k : Bool) (e1 : En) => if k then a.tst e1 else b.tst e1) hc.tst fun k => Mon.ite ha.tst hb.tst⟩
theorem Mon.args : ∀ {es : List M}, (∀ m ∈ es, MonM m) → Mon (argsM es)
  | [], h => Mon.pure _
  | a :: r, h => Mon.bind (k := fun (d : D) (e1 : En) => (argsM r e1).map fun (u : List D × En) => (d :: u.1, u.2)) (h a List.mem_cons_self).val.frz fun d => Mon.map (k := fun (ds : List D) => d :: ds) (Mon.args fun m hm => h m (List.mem_cons_of_mem _ hm))
theorem Mon.ops : ∀ {es : List M}, (∀ m ∈ es, MonM m) → Mon (opsM es)
  | [], h => Mon.pure _
  | a :: r, h => Mon.bind (k := fun (d : Opd) (e1 : En) => (opsM r e1).map fun (u : List Opd × En) => (d :: u.1, u.2)) (h a List.mem_cons_self).opd fun d => Mon.map (k := fun (ds : List Opd) => d :: ds) (Mon.ops fun m hm => h m (List.mem_cons_of_mem _ hm))
theorem MonM.tup {es : List M} (h : ∀ m ∈ es, MonM m) : MonM (tupM es) :=
  .ofVal (Mon.bind (k := fun (ds : List D) (e1 : En) => if ds.length ≤ sizeLine then some (Sl.v (.tuple ds), e1) else none) (Mon.args h) fun ds => Mon.ite (Mon.pure _) Mon.none)
theorem MonM.lst {es : List M} (h : ∀ m ∈ es, MonM m) : MonM (lstM es) :=
  .ofVal (Mon.bind (k := fun (ds : List D) (e1 : En) => if ds.length ≤ sizeLine then some (Sl.l ds, e1) else none) (Mon.args h) fun ds => Mon.ite (Mon.pure _) Mon.none)
theorem MonM.blt {b : Bl} {es : List M} (h : ∀ m ∈ es, MonM m) : MonM (bltM b es) :=
  .ofVal (Mon.bind (k := fun (ps : List Opd) (e1 : En) => (gets e1 ps).bind fun ds => (bltD b ds).map fun r => (r, e1)) (Mon.ops h) fun ps => Mon.gets fun ds => Mon.opt _)
theorem Mon.part : ∀ {es : List M}, (∀ m ∈ es, MonM m) → Mon (partM es)
  | [], h => Mon.pure _
  | [a], h => Mon.bind (k := fun (p : Opd) (e1 : En) => (p.get e1).bind fun d => match d with
    | .int i => some (some i, e1)
    | _ => Option.none) (h a List.mem_cons_self).opd fun p => Mon.get fun d => by
      cases d <;> first | exact Mon.pure _ | exact Mon.none
  | _ :: _ :: _, h => Mon.none
theorem MonM.slc {a : M} {lo hi : List M} (ha : MonM a) (hl : ∀ m ∈ lo, MonM m) (hh : ∀ m ∈ hi, MonM m) : MonM (slcM a lo hi) :=
  .ofVal (Mon.bind (k := fun (p : Opd) (e1 : En) => (partM lo e1).bind fun u => (partM hi u.2).bind fun v => (p.get v.2).bind fun x => (slcD x u.1 v.1).map fun r => (r, v.2)) ha.opd fun p =>
    Mon.bind (k := fun (l : Option Int) (e2 : En) => (partM hi e2).bind fun v => (p.get v.2).bind fun x => (slcD x l v.1).map fun r => (r, v.2)) (Mon.part hl) fun l =>
    Mon.bind (k := fun (q : Option Int) (e3 : En) => (p.get e3).bind fun x => (slcD x l q).map fun r => (r, e3)) (Mon.part hh) fun q => Mon.get fun x => Mon.opt _)
section
variable {P : Ph}
theorem MonM.call {f : Nat} {es : List M} (h : ∀ m ∈ es, MonM m) : MonM (callM P f es) :=
  .ofVal (Mon.bind (k := fun (ds : List D) (e1 : En) => (retOf P f (ds.map .v)).map fun r => (r, e1)) (Mon.args h) fun ds => Mon.opt _)
theorem MonM.callS {f i : Nat} : MonM (callSM P f i) := .ofVal fun e g r e1 l h => by
  revert h
  cases hi : e[i]? with
  | none => intro h; cases h
  | some s =>
    cases s with
    | sc ns =>
      intro h
      obtain ⟨r', h1, h2⟩ := Option.map_eq_some_iff.mp h
      cases h2
      rw [l.same hi (by intro z; cases z)]
      exact ⟨g, by simp only [h1, Option.map_some], l⟩
    | _ => intro h; cases h
theorem MonM.callB {f i : Nat} {es : List M} (hs : ∀ m ∈ es, MonM m) : MonM (callBM P f i es) := .ofVal fun e g r e1 l h => by
  by_cases hb : isB e[i]? = true
  · rw [if_pos hb] at h
    have hb2 : isB g[i]? = true := by
      revert hb
      cases hi : e[i]? with
      | none => intro z; cases z
      | some s => intro z; rw [l.same hi (by intro q; subst q; cases z)]; exact z
    rw [if_pos hb2]
    obtain ⟨⟨ds, e2⟩, h1, h2⟩ := Option.bind_eq_some_iff.mp h
    obtain ⟨g2, h3, l2⟩ := Mon.args hs _ _ _ _ l h1
    simp only [h3, Option.bind_some]
    simp only at h2
    cases hi : e2[i]? with
    | none => rw [hi] at h2; cases h2
    | some s =>
      rw [hi] at h2
      cases s with
      | bx cs rs =>
        rw [l2.same hi (by intro z; cases z)]
        simp only at h2 ⊢
        obtain ⟨⟨r', b⟩, h4, h5⟩ := Option.bind_eq_some_iff.mp h2
        simp only [h4, Option.bind_some]
        simp only at h5
        cases b with
        | bx cs2 rs2 =>
          simp only at h5 ⊢
          cases h5
          exact ⟨_, rfl, l2.set (.refl _)⟩
        | _ => cases h5
      | _ => cases h2
  · rw [if_neg hb] at h; cases h
theorem setS_mono {e g e1 : En} {i : Nat} {s : Sl} (l : LE e g) (h : setS i s e = some e1) : ∃ g1, setS i s g = some g1 ∧ LE e1 g1 := by
  unfold setS at h
  split at h
  · cases h
  · cases h
  · rename_i t n hi
    cases h
    obtain ⟨t', h1, h2⟩ := l.get hi
    refine ⟨g.set i s, setS_ok ⟨t', h1, ?_⟩, l.set (.refl _)⟩
    rcases h2 with rfl | ⟨_, z⟩
    · cases t <;> first | rfl | exact absurd rfl (n _ _)
    · exact z
mutual
theorem asgT_mono : ∀ {t : T} {d : D} {e g e1 : En}, LE e g → asgT t d e = some e1 → ∃ g1, asgT t d g = some g1 ∧ LE e1 g1
  | .nm i, d, e, g, e1, l, h => by
    simp only [asgT] at h ⊢
    exact setS_mono l h
  | .tp ts, d, e, g, e1, l, h => by
    cases d with
    | tuple ds =>
      simp only [asgT] at h ⊢
      exact asgTs_mono l h
    | _ => simp [asgT] at h
theorem asgTs_mono : ∀ {ts : List T} {ds : List D} {e g e1 : En}, LE e g → asgTs ts ds e = some e1 → ∃ g1, asgTs ts ds g = some g1 ∧ LE e1 g1
  | [], [], e, g, e1, l, h => by
    simp only [asgTs] at h ⊢
    cases h; exact ⟨g, rfl, l⟩
  | t :: ts, d :: ds, e, g, e1, l, h => by
    simp only [asgTs] at h ⊢
    obtain ⟨e2, h1, h2⟩ := Option.bind_eq_some_iff.mp h
    obtain ⟨g2, h3, l2⟩ := asgT_mono l h1
    obtain ⟨g1, h4, l3⟩ := asgTs_mono l2 h2
    exact ⟨g1, by simp only [h3, Option.bind_some, h4], l3⟩
  | [], _ :: _, e, g, e1, l, h => by simp [asgTs] at h
  | _ :: _, [], e, g, e1, l, h => by simp [asgTs] at h
end
theorem wipe_mono {e g : En} (l : LE e g) : ∀ own, LE (wipeE e own) (wipeE g own)
  | [] => l
  | v :: vs => (wipe_mono l vs).set (.refl _)
theorem wipe_no {e : En} : ∀ {own : List Nat} {i : Nat}, i ∈ own → (wipeE e own)[i]? = none ∨ (wipeE e own)[i]? = some .no
  | v :: vs, i, h => by
    simp only [wipeE]
    by_cases hv : v = i
    · subst hv
      by_cases hl : v < (wipeE e vs).length
      · exact .inr (List.getElem?_set_self hl)
      · exact .inl (List.getElem?_eq_none (by simpa using hl))
    · rw [List.getElem?_set_ne hv]
      exact wipe_no ((List.mem_cons.mp h).resolve_left fun z => hv z.symm)
theorem Mon.cond : ∀ {es : List M}, (∀ m ∈ es, MonM m) → Mon (condM es)
  | [], h => Mon.pure _
  | [a], h => (h a List.mem_cons_self).tst
  | _ :: _ :: _, h => Mon.none
def Rdb (e : En) : List Opd → Prop
  | [] => True
  | .d _ :: r => Rdb e r
  | .s i :: r => (∃ s, e[i]? = some s ∧ s ≠ .no) ∧ Rdb e r
theorem rdb_of {e : En} : ∀ {ps : List Opd} {ds : List D}, gets e ps = some ds → Rdb e ps
  | [], _, _ => trivial
  | p :: ps, ds, h => by
    simp only [gets, Option.bind_eq_some_iff, Option.map_eq_some_iff] at h
    obtain ⟨d, h1, r, h2, h3⟩ := h
    cases p with
    | d x => exact rdb_of (ps := ps) h2
    | s i =>
      refine ⟨?_, rdb_of (ps := ps) h2⟩
      simp only [Opd.get, Option.bind_eq_some_iff] at h1
      obtain ⟨s, h4, h5⟩ := h1
      exact ⟨s, h4, by intro z; subst z; cases h5⟩
theorem still_mono {e0 g0 e1 g1 : En} (l0 : LE e0 g0) (l1 : LE e1 g1) : ∀ {ps : List Opd}, Rdb e0 ps → stillB e0 e1 ps → stillB g0 g1 ps
  | [], _, _ => trivial
  | .d _ :: r, h, s => still_mono (ps := r) l0 l1 h s
  | .s i :: r, h, s => by
    obtain ⟨⟨t, h1, h2⟩, h3⟩ := h
    refine ⟨?_, still_mono (ps := r) l0 l1 h3 s.2⟩
    have := s.1
    rw [h1] at this
    rw [l0.same h1 h2, l1.same this h2]
theorem lcLoop_mono {t : T} {cond : List M} {elt : M} {own : List Nat} {ps : List Opd} {e0 g0 : En} (hc : ∀ m ∈ cond, MonM m) (he : MonM elt) (l0 : LE e0 g0) (hp : Rdb e0 ps) : ∀ {xs : List D} {e g e1 : En} {r : List D}, LE e g → (∀ i ∈ own, e[i]? = none ∨ e[i]? = some .no) → lcLoop t cond elt own ps e0 xs e = some (r, e1) → (∃ g1, lcLoop t cond elt own ps g0 xs g = some (r, g1) ∧ LE e1 g1) ∧ ∀ i ∈ own, e1[i]? = none ∨ e1[i]? = some .no
  | [], e, g, e1, r, l, ho, h => by
    rw [lcLoop_nil] at h
    cases h
    exact ⟨⟨g, lcLoop_nil _ _ _ _ _ _ _, l⟩, ho⟩
  | x :: xs, e, g, e1, r, l, ho, h => by
    rw [lcLoop_cons] at h ⊢
    obtain ⟨e2, h1, h⟩ := Option.bind_eq_some_iff.mp h
    obtain ⟨g2, k1, l2⟩ := asgT_mono l h1
    obtain ⟨⟨b, e3⟩, h3, h⟩ := Option.bind_eq_some_iff.mp h
    obtain ⟨g3, k3, l3⟩ := Mon.cond hc _ _ _ _ l2 h3
    simp only [k1, Option.bind_some, k3]
    cases b with
    | false =>
      simp only [Bool.false_eq_true, if_false] at h ⊢
      by_cases hs : stillB e0 (wipeE e3 own) ps
      · rw [if_pos hs] at h
        rw [if_pos (still_mono l0 (wipe_mono l3 own) hp hs)]
        exact lcLoop_mono hc he l0 hp (wipe_mono l3 own) (fun i hi => wipe_no hi) h
      · rw [if_neg hs] at h; cases h
    | true =>
      simp only [if_true] at h ⊢
      obtain ⟨⟨d, e4⟩, h4, h⟩ := Option.bind_eq_some_iff.mp h
      obtain ⟨g4, k4, l4⟩ := he.val.frz _ _ _ _ l3 h4
      simp only [k4, Option.bind_some]
      by_cases hs : stillB e0 (wipeE e4 own) ps
      · rw [if_pos hs] at h
        rw [if_pos (still_mono l0 (wipe_mono l4 own) hp hs)]
        obtain ⟨⟨r', e5⟩, h5, h6⟩ := Option.map_eq_some_iff.mp h
        cases h6
        obtain ⟨⟨g5, k5, l5⟩, o5⟩ := lcLoop_mono hc he l0 hp (wipe_mono l4 own) (fun i hi => wipe_no hi) h5
        exact ⟨⟨g5, by simp only [k5, Option.map_some], l5⟩, o5⟩
      · rw [if_neg hs] at h; cases h
theorem rest_keep {e1 e2 : En} {i : Nat} (h : ∀ d, e1[i]? ≠ some (.v d)) : ∀ own, (restE e1 e2 own)[i]? = e2[i]?
  | [] => rfl
  | j :: r => by
    unfold restE
    split
    · rename_i d hd
      by_cases hj : j = i
      · subst hj; exact absurd hd (h d)
      · rw [List.getElem?_set_ne hj]; exact rest_keep h r
    · exact rest_keep h r
theorem rest_mono {e1 g1 e2 g2 : En} (l1 : LE e1 g1) (l2 : LE e2 g2) : ∀ {own : List Nat}, (∀ i ∈ own, e2[i]? = none ∨ e2[i]? = some .no) → LE (restE e1 e2 own) (restE g1 g2 own)
  | [], _ => l2
  | i :: r, ho => by
    have ih := rest_mono l1 l2 (own := r) fun j hj => ho j (List.mem_cons_of_mem _ hj)
    cases hi : e1[i]? with
    | none =>
      rw [restE, restE, hi, l1.none hi]
      exact ih
    | some s =>
      cases s with
      | v d =>
        rw [restE, restE, hi, l1.same hi (by intro z; cases z)]
        exact ih.set (.refl _)
      | no =>
        have k : (restE e1 e2 r)[i]? = none ∨ (restE e1 e2 r)[i]? = some .no := by
          rw [rest_keep (by intro d z; rw [hi] at z; cases z)]
          exact ho i List.mem_cons_self
        rw [restE, restE, hi]
        simp only
        split
        · exact ih.setR k rfl
        · exact ih
      | l xs =>
        rw [restE, restE, hi, l1.same hi (by intro z; cases z)]
        exact ih
      | bx cs rs =>
        rw [restE, restE, hi, l1.same hi (by intro z; cases z)]
        exact ih
      | sc ns =>
        rw [restE, restE, hi, l1.same hi (by intro z; cases z)]
        exact ih
theorem MonM.lc {t : T} {k : IK} {its cond : List M} {elt : M} {own : List Nat} (hi : ∀ m ∈ its, MonM m) (hc : ∀ m ∈ cond, MonM m) (he : MonM elt) : MonM (lcM t k its cond elt own) := by
  unfold lcM
  refine .ofVal fun e g r e1 l h => ?_
  obtain ⟨⟨ps, e2⟩, h1, h⟩ := Option.bind_eq_some_iff.mp h
  obtain ⟨g2, k1, l2⟩ := Mon.ops hi _ _ _ _ l h1
  obtain ⟨ds, h2, h⟩ := Option.bind_eq_some_iff.mp h
  obtain ⟨xs, h3, h⟩ := Option.bind_eq_some_iff.mp h
  simp only [k1, Option.bind_some, gets_mono l2 h2, h3]
  by_cases hs : stillB e2 (wipeE e2 own) ps
  · rw [if_pos hs] at h
    rw [if_pos (still_mono l2 (wipe_mono l2 own) (rdb_of h2) hs)]
    obtain ⟨⟨r', e5⟩, h5, h6⟩ := Option.map_eq_some_iff.mp h
    cases h6
    obtain ⟨⟨g5, k5, l5⟩, o5⟩ := lcLoop_mono hc he l2 (rdb_of h2) (wipe_mono l2 own) (fun i hi => wipe_no hi) h5
    exact ⟨_, by simp only [k5, Option.map_some], rest_mono l2 l5 o5⟩
  · rw [if_neg hs] at h; cases h
theorem MonM.pop {i : Nat} : MonM (popM i) := .ofVal fun e g r e1 l h => by
  revert h
  cases hi : e[i]? with
  | none => intro h; cases h
  | some s =>
    cases s with
    | l xs =>
      intro h
      rw [l.same hi (by intro z; cases z)]
      simp only at h ⊢
      cases hl : xs.getLast? with
      | none => rw [hl] at h; cases h
      | some d =>
        rw [hl] at h
        cases h
        exact ⟨_, rfl, l.set (.refl _)⟩
    | _ => intro h; cases h
theorem MonM.mth {m : Mt} {a b : M} (ha : MonM a) (hb : MonM b) : MonM (mthM m a b) :=
  .ofVal (Mon.bind (k := fun (p : Opd) (e1 : En) => (p.get e1).bind fun x0 => if isLst x0 then (b.opd e1).bind fun t => (p.get t.2).bind fun x => (t.1.get t.2).bind fun y => (mthD m x y).map fun z => (z, t.2) else none) ha.opd fun p =>
    Mon.get fun x0 => Mon.ite (Mon.bind (k := fun (q : Opd) (e2 : En) => (p.get e2).bind fun x => (q.get e2).bind fun y => (mthD m x y).map fun z => (z, e2)) hb.opd fun q => Mon.get fun x => Mon.get fun y => Mon.opt _) Mon.none)
mutual
theorem monE : ∀ e : E, MonM (ev P e)
  | .var i => by simp only [ev]; exact .var i
  | .cst d => by simp only [ev]; exact .ofVal (Mon.pure _)
  | .bin op a b => by simp only [ev]; exact .op2 (monE a) (monE b)
  | .neg a => by simp only [ev]; exact .op1 (monE a)
  | .cmp op a b => by simp only [ev]; exact .cmp (Mon.op2 (monE a) (monE b))
  | .chn o1 o2 a b c => by simp only [ev]; exact .chn (monE a) (monE b) (monE c)
  | .isn ng a => by simp only [ev]; exact .cmp (MonM.op1 (monE a)).val
  | .bop o es => by simp only [ev]; exact .bop (monEs es)
  | .not a => by simp only [ev]; exact .not (monE a)
  | .ite c a b => by simp only [ev]; exact .ite (monE c) (monE a) (monE b)
  | .tup es => by simp only [ev]; exact .tup (monEs es)
  | .lst es => by simp only [ev]; exact .lst (monEs es)
  | .idx a i => by simp only [ev]; exact .op2 (monE a) (monE i)
  | .slc a lo hi => by simp only [ev]; exact .slc (monE a) (monEs lo) (monEs hi)
  | .call f es => by simp only [ev]; exact .call (monEs es)
  | .callB f i es => by simp only [ev]; exact .callB (monEs es)
  | .callS f i => by simp only [ev]; exact .callS
  | .blt b es => by simp only [ev]; exact .blt (monEs es)
  | .isi a t => by simp only [ev]; exact .cmp (MonM.op1 (monE a)).val
  | .lc t k its cond elt own => by simp only [ev]; exact .lc (monEs its) (monEs cond) (monE elt)
  | .pop i => by simp only [ev]; exact .pop
  | .mth m a e => by simp only [ev]; exact .mth (monE a) (monE e)
  | .rev a => by simp only [ev]; exact .op1 (monE a)
  | .sset a => by simp only [ev]; exact .op1 (monE a)
  | .isb ng k a => by simp only [ev]; exact .cmp (MonM.op1 (monE a)).val
  | .rgv tup es => by
    simp only [ev]
    exact .ofVal (Mon.bind (k := fun (ps : List Opd) (e1 : En) => (gets e1 ps).bind fun ds => (rgvD tup ds).map fun r => (r, e1)) (Mon.ops (monEs es)) fun ps => Mon.gets fun ds => Mon.opt _)
  | .upper a => by
    simp only [ev]
    exact .ofVal (Mon.bind (k := fun (p : Opd) (e1 : En) => (p.get e1).bind fun x0 => if isStr x0 then (upperD x0).map fun r => (r, e1) else none) (monE a).opd fun p => Mon.get fun x0 => Mon.ite (Mon.opt _) Mon.none)
theorem monEs : ∀ es : List E, ∀ m ∈ evs P es, MonM m
  | [], m, h => by simp only [evs] at h; cases h
  | e :: es, m, h => by
    simp only [evs, List.mem_cons] at h
    rcases h with rfl | h
    · exact monE e
    · exact monEs es m h
end
/-- outcomes -/
inductive OLE : Out → Out → Prop
  | nx {e g : En} : LE e g → OLE (.nx e) (.nx g)
  | rt {s : Sl} {e g : En} : LE e g → OLE (.rt s e) (.rt s g)
  | bk {e g : En} : LE e g → OLE (.bk e) (.bk g)
  | ct {e g : En} : LE e g → OLE (.ct e) (.ct g)
theorem OLE.refl (o : Out) : OLE o o := by cases o <;> constructor <;> exact LE.refl _
theorem OLE.trans {a b c : Out} (h : OLE a b) (g : OLE b c) : OLE a c := by
  cases h with
  | nx h => cases g with | nx g => exact .nx (h.trans g)
  | rt h => cases g with | rt g => exact .rt (h.trans g)
  | bk h => cases g with | bk g => exact .bk (h.trans g)
  | ct h => cases g with | ct g => exact .ct (h.trans g)
def MonO (f : En → Option Out) : Prop := ∀ (e g : En) (o : Out), LE e g → f e = some o → ∃ o', f g = some o' ∧ OLE o o'
theorem MonO.none : MonO (fun _ => Option.none) := fun _ _ _ l h => by cases h
theorem MonO.bind {β : Type} {f : En → Option (β × En)} {k : β → En → Option Out} (hf : Mon f) (hk : ∀ b, MonO (k b)) : MonO fun e => (f e).bind fun p => k p.1 p.2 := fun e g o l h => by
  obtain ⟨⟨b, e2⟩, h1, h2⟩ := Option.bind_eq_some_iff.mp h
  obtain ⟨g2, h3, h4⟩ := hf _ _ _ _ l h1
  obtain ⟨o', h5, h6⟩ := hk b _ _ _ h4 h2
  exact ⟨o', by simp only [h3, Option.bind_some, h5], h6⟩
theorem MonO.env {f : En → Option En} (hf : ∀ {e g e1 : En}, LE e g → f e = some e1 → ∃ g1, f g = some g1 ∧ LE e1 g1) : MonO fun e => (f e).map Out.nx := fun e g o l h => by
  obtain ⟨e1, h1, h2⟩ := Option.map_eq_some_iff.mp h
  cases h2
  obtain ⟨g1, h3, l1⟩ := hf l h1
  exact ⟨.nx g1, by simp only [h3, Option.map_some], .nx l1⟩
theorem MonO.ite {c : Prop} [Decidable c] {f k : En → Option Out} (hf : MonO f) (hk : MonO k) : MonO fun e => if c then f e else k e := fun e g o l h => by
  by_cases hc : c
  · simp only [if_pos hc] at h ⊢; exact hf _ _ _ l h
  · simp only [if_neg hc] at h ⊢; exact hk _ _ _ l h
theorem whN_le {c : En → Option (Bool × En)} {b : En → Option Out} (hc : Mon c) (hb : MonO b) : ∀ {n : Nat}, MonO (whN c b n)
  | 0, e, g, o, l, h => by cases h
  | n + 1, e, g, o, l, h => by
    simp only [whN] at h ⊢
    obtain ⟨⟨k, e1⟩, h1, h⟩ := Option.bind_eq_some_iff.mp h
    obtain ⟨g1, k1, l1⟩ := hc _ _ _ _ l h1
    simp only [k1, Option.bind_some]
    cases k with
    | false =>
      simp only [Bool.false_eq_true, if_false] at h ⊢
      cases h
      exact ⟨_, rfl, .nx l1⟩
    | true =>
      simp only [if_true] at h ⊢
      obtain ⟨r, h2, h⟩ := Option.bind_eq_some_iff.mp h
      obtain ⟨r', k2, lr⟩ := hb _ _ _ l1 h2
      simp only [k2, Option.bind_some]
      cases lr with
      | nx l2 => exact whN_le hc hb _ _ _ l2 h
      | ct l2 => exact whN_le hc hb _ _ _ l2 h
      | bk l2 => cases h; exact ⟨_, rfl, .nx l2⟩
      | rt l2 => cases h; exact ⟨_, rfl, .rt l2⟩
theorem whC_le {c : En → Option (Bool × En)} {b : En → Option Out} (hc : Mon c) (hb : MonO b) : MonO (whC c b) := fun e g o l h => by
  obtain ⟨n, hn⟩ := whC_some h
  obtain ⟨o', h1, h2⟩ := whN_le hc hb _ _ _ l hn
  exact ⟨o', whC_of h1, h2⟩
theorem frL_le {t : T} {b : En → Option Out} (hb : MonO b) : ∀ {xs : List D}, MonO (frL t b xs)
  | [], e, g, o, l, h => by cases h; exact ⟨_, rfl, .nx l⟩
  | x :: xs, e, g, o, l, h => by
    simp only [frL] at h ⊢
    obtain ⟨e1, h1, h⟩ := Option.bind_eq_some_iff.mp h
    obtain ⟨g1, k1, l1⟩ := asgT_mono l h1
    obtain ⟨r, h2, h⟩ := Option.bind_eq_some_iff.mp h
    obtain ⟨r', k2, lr⟩ := hb _ _ _ l1 h2
    simp only [k1, Option.bind_some, k2]
    cases lr with
    | nx l2 => exact frL_le hb _ _ _ l2 h
    | ct l2 => exact frL_le hb _ _ _ l2 h
    | bk l2 => cases h; exact ⟨_, rfl, .nx l2⟩
    | rt l2 => cases h; exact ⟨_, rfl, .rt l2⟩
theorem isL_mono {e g : En} {x : Nat} (l : LE e g) (h : isL e[x]? = true) : isL g[x]? = true := by
  revert h
  cases hi : e[x]? with
  | none => intro z; cases z
  | some s => intro z; rw [l.same hi (by intro q; subst q; cases z)]; exact z
theorem MonO.isL {x : Nat} {f : En → Option Out} (hf : MonO f) : MonO fun e => if Mini.isL e[x]? then f e else Option.none := fun e g o l h => by
  by_cases hc : Mini.isL e[x]? = true
  · simp only [if_pos hc] at h
    simp only
    rw [if_pos (isL_mono l hc)]; exact hf _ _ _ l h
  · simp only [if_neg hc] at h; cases h
theorem app_mono {x : Nat} {d : D} : MonO (appS x d) := fun e g o l h => by
  unfold appS at h ⊢
  split at h
  · rename_i xs hi
    rw [l.same hi (by intro z; cases z)]
    simp only
    split at h
    · rename_i hl
      rw [if_pos hl]
      cases h
      exact ⟨_, rfl, .nx (l.set (.refl _))⟩
    · cases h
  · cases h
theorem ext_mono {x : Nat} {d : D} : MonO (extS x d) := fun e g o l h => by
  unfold extS at h ⊢
  split at h
  · rename_i xs ys hi
    rw [l.same hi (by intro z; cases z)]
    simp only
    split at h
    · rename_i hl
      rw [if_pos hl]
      cases h
      exact ⟨_, rfl, .nx (l.set (.refl _))⟩
    · cases h
  · cases h
theorem seti_mono {x : Nat} {i d : D} : MonO (setiS x i d) := fun e g o l h => by
  unfold setiS at h ⊢
  split at h
  · rename_i xs k hi
    rw [l.same hi (by intro z; cases z)]
    simp only
    obtain ⟨j, h1, h2⟩ := Option.map_eq_some_iff.mp h
    cases h2
    simp only [h1, Option.map_some]
    exact ⟨_, rfl, .nx (l.set (.refl _))⟩
  · cases h
mutual
theorem monC : ∀ c : C, MonO (ex P c)
  | .asg t e => by
    cases t with
    | nm i =>
      intro e0 g o l h
      rw [ex_asg] at h ⊢
      exact MonO.bind (k := fun (s : Sl) (e1 : En) => (setS i s e1).map .nx) (monE (P := P) e).val (fun s => MonO.env fun l h => setS_mono l h) _ _ _ l h
    | tp ts =>
      intro e0 g o l h
      rw [ex_unp] at h ⊢
      exact MonO.bind (k := fun (s : D) (e1 : En) => (asgT (.tp ts) s e1).map .nx) (monE (P := P) e).val.frz (fun s => MonO.env fun l h => asgT_mono l h) _ _ _ l h
  | .seti x i e => by
    intro e0 g o l h
    rw [ex_seti] at h ⊢
    exact MonO.bind (k := fun (d : D) (e1 : En) => if isL e1[x]? then ((ev P i).opd e1).bind fun t => (t.1.get t.2).bind fun k => setiS x k d t.2 else none) (monE (P := P) e).val.frz (fun d => MonO.isL (MonO.bind (k := fun (p : Opd) (e2 : En) => (p.get e2).bind fun k => setiS x k d e2) (monE (P := P) i).opd fun p => fun e g o l h => by
      obtain ⟨k, h1, h2⟩ := Option.bind_eq_some_iff.mp h
      obtain ⟨o', h3, h4⟩ := seti_mono _ _ _ l h2
      exact ⟨o', by simp only [get_mono l h1, Option.bind_some, h3], h4⟩)) _ _ _ l h
  | .aug i op e => by
    intro e0 g o l h
    cases hi : e0[i]? with
    | none => simp only [ex, hi] at h; cases h
    | some s =>
      cases s with
      | v a =>
        rw [ex_aug _ _ _ _ _ a hi] at h
        rw [ex_aug _ _ _ _ _ a (l.same hi (by intro z; cases z))]
        exact MonO.bind (k := fun (d : D) (e1 : En) => (augD op a d).bind fun s => (setS i s e1).map .nx) (monE (P := P) e).val.frz (fun d => fun e g o l h => by
          obtain ⟨k, h1, h2⟩ := Option.bind_eq_some_iff.mp h
          obtain ⟨o', h3, h4⟩ := (MonO.env (f := setS i k) fun l h => setS_mono l h) _ _ _ l h2
          exact ⟨o', by simp only [h1, Option.bind_some]; exact h3, h4⟩) _ _ _ l h
      | _ => simp only [ex, hi] at h; cases h
  | .augi x i op e => by
    intro e0 g o l h
    simp only [ex] at h ⊢
    refine MonO.isL (x := x) (f := fun env => ((ev P i).opd env).bind fun p => (p.1.get p.2).bind fun k => match p.2[x]?, k with
      | some (.l xs), .int n => (atI xs n).bind fun old => (frzM (ev P e).val p.2).bind fun q => (augD op old q.1).bind fun r => r.frz.bind fun z => setiS x k z q.2
      | _, _ => none) ?_ _ _ _ l h
    refine MonO.bind (k := fun (p : Opd) (e1 : En) => (p.get e1).bind fun k => match e1[x]?, k with
      | some (.l xs), .int n => (atI xs n).bind fun old => (frzM (ev P e).val e1).bind fun q => (augD op old q.1).bind fun r => r.frz.bind fun z => setiS x k z q.2
      | _, _ => none) (monE (P := P) i).opd fun p => fun e1 g1 o l h => ?_
    obtain ⟨k, h1, h2⟩ := Option.bind_eq_some_iff.mp h
    simp only [get_mono l h1, Option.bind_some]
    cases hi : e1[x]? with
    | none => rw [hi] at h2; cases h2
    | some s =>
      rw [hi] at h2
      cases s with
      | l xs =>
        rw [l.same hi (by intro z; cases z)]
        cases k with
        | int n =>
          simp only at h2 ⊢
          obtain ⟨old, h3, h4⟩ := Option.bind_eq_some_iff.mp h2
          simp only [h3, Option.bind_some]
          exact MonO.bind (k := fun (d : D) (e2 : En) => (augD op old d).bind fun r => r.frz.bind fun z => setiS x (.int n) z e2) (monE (P := P) e).val.frz (fun d => fun e g o l h => by
            obtain ⟨r, h5, h6⟩ := Option.bind_eq_some_iff.mp h
            obtain ⟨z, h7, h8⟩ := Option.bind_eq_some_iff.mp h6
            obtain ⟨o', h9, h10⟩ := seti_mono _ _ _ l h8
            exact ⟨o', by simp only [h5, Option.bind_some, h7, h9], h10⟩) _ _ _ l h4
        | _ => cases h2
      | _ => cases h2
  | .app x e => by
    intro e0 g o l h
    rw [ex_app] at h ⊢
    exact MonO.isL (MonO.bind (k := fun (d : D) (e1 : En) => appS x d e1) (monE (P := P) e).val.frz fun d => app_mono) _ _ _ l h
  | .ext x e => by
    intro e0 g o l h
    rw [ex_ext] at h ⊢
    exact MonO.isL (MonO.bind (k := fun (d : D) (e1 : En) => extS x d e1) (monE (P := P) e).val.frz fun d => ext_mono) _ _ _ l h
  | .expr e => by
    intro e0 g o l h
    rw [ex_expr] at h ⊢
    obtain ⟨⟨s, e1⟩, h1, h2⟩ := Option.map_eq_some_iff.mp h
    cases h2
    obtain ⟨g1, k1, l1⟩ := (monE (P := P) e).val _ _ _ _ l h1
    exact ⟨.nx g1, by simp only [k1, Option.map_some], .nx l1⟩
  | .ret e => by
    intro e0 g o l h
    rw [ex_ret] at h ⊢
    obtain ⟨⟨s, e1⟩, h1, h2⟩ := Option.map_eq_some_iff.mp h
    cases h2
    obtain ⟨g1, k1, l1⟩ := (monE (P := P) e).val _ _ _ _ l h1
    exact ⟨.rt s g1, by simp only [k1, Option.map_some], .rt l1⟩
  | .ife c a b => by
    intro e0 g o l h
    rw [ex_ife] at h ⊢
    exact MonO.bind (k := fun (k : Bool) (e1 : En) => if k then exs P a e1 else exs P b e1) (monE (P := P) c).tst (fun k => MonO.ite (monCs a) (monCs b)) _ _ _ l h
  | .wh c b => by
    intro e0 g o l h
    rw [ex_wh] at h ⊢
    exact whC_le (monE (P := P) c).tst (monCs b) _ _ _ l h
  | .fr t k its b => by
    intro e0 g o l h
    rw [ex_fr] at h ⊢
    have hm : ∀ m ∈ (evs P its).map frO, MonM m := fun m hm => by
      obtain ⟨m', h1, rfl⟩ := List.mem_map.mp hm
      have q := monEs (P := P) its m' h1
      exact ⟨q.val, Mon.map (k := fun d => Opd.d d) q.val.frz, q.tst⟩
    refine MonO.bind (k := fun (ps : List Opd) (e1 : En) => (gets e1 ps).bind fun ds => (itemsOf k ds).bind fun xs => frL t (exs P b) xs e1) (Mon.ops hm) (fun ps => fun e g o l h => ?_) _ _ _ l h
    obtain ⟨ds, h1, h2⟩ := Option.bind_eq_some_iff.mp h
    obtain ⟨xs, h3, h4⟩ := Option.bind_eq_some_iff.mp h2
    simp only [gets_mono l h1, Option.bind_some, h3]
    exact frL_le (monCs b) _ _ _ l h4
  | .brk => by
    intro e0 g o l h
    rw [ex_brk] at h ⊢
    cases h; exact ⟨_, rfl, .bk l⟩
  | .cont => by
    intro e0 g o l h
    rw [ex_cont] at h ⊢
    cases h; exact ⟨_, rfl, .ct l⟩
  | .pass => by
    intro e0 g o l h
    rw [ex_pass] at h ⊢
    cases h; exact ⟨_, rfl, .nx l⟩
  | .never => by
    intro e0 g o l h
    simp only [ex] at h
    cases h
theorem monCs : ∀ cs : List C, MonO (exs P cs)
  | [] => by
    intro e0 g o l h
    rw [exs_nil] at h ⊢
    cases h; exact ⟨_, rfl, .nx l⟩
  | c :: cs => by
    intro e0 g o l h
    rw [exs_cons] at h ⊢
    obtain ⟨r, h1, h2⟩ := Option.bind_eq_some_iff.mp h
    obtain ⟨r', k1, lr⟩ := monC c _ _ _ l h1
    simp only [k1, Option.bind_some]
    cases lr with
    | nx l2 => exact monCs cs _ _ _ l2 h2
    | ct l2 => cases h2; exact ⟨_, rfl, .ct l2⟩
    | bk l2 => cases h2; exact ⟨_, rfl, .bk l2⟩
    | rt l2 => cases h2; exact ⟨_, rfl, .rt l2⟩
end
end
end Mini

namespace Mini
open PySem PySem.Spec L2
/-! runs, told by what they come to at least -/
inductive Oc where
  | nx (e : En) | rt (s : Sl) | rb (s : Sl) (cs rs : List Int) | bk (e : En) | ct (e : En)
def Oc.sat : Oc → Out → Prop
  | .nx e, .nx f => LE e f
  | .rt s, .rt t _ => s = t
  | .rb s cs rs, .rt t (.bx cs2 rs2 :: _) => s = t ∧ cs = cs2 ∧ rs = rs2
  | .bk e, .bk f => LE e f
  | .ct e, .ct f => LE e f
  | _, _ => False
theorem Oc.mono {q : Oc} {o o' : Out} (h : q.sat o) (l : OLE o o') : q.sat o' := by
  cases l with
  | nx l => cases q <;> first | exact h.elim | exact LE.trans h l
  | bk l => cases q <;> first | exact h.elim | exact LE.trans h l
  | ct l => cases q <;> first | exact h.elim | exact LE.trans h l
  | @rt s e g l =>
    cases q with
    | rt t => exact h
    | rb t cs rs =>
      cases l with
      | nil => exact h.elim
      | @cons a b as bs h1 h2 =>
        cases a with
        | bx cs2 rs2 =>
          rcases h1 with rfl | ⟨z, _⟩
          · exact h
          · cases z
        | _ => exact h.elim
    | _ => exact h.elim
def Go (P : Ph) (cs : List C) (e : En) (q : Oc) : Prop := ∃ o, exs P cs e = some o ∧ q.sat o
def Go1 (P : Ph) (c : C) (e : En) (q : Oc) : Prop := ∃ o, ex P c e = some o ∧ q.sat o
def GoF (P : Ph) (t : T) (b : List C) (xs : List D) (e : En) (q : Oc) : Prop := ∃ o, frL t (exs P b) xs e = some o ∧ q.sat o
section
variable {P : Ph}
theorem Go.le {cs : List C} {e f : En} {q : Oc} (h : Go P cs e q) (l : LE e f) : Go P cs f q := by
  obtain ⟨o, h1, h2⟩ := h
  obtain ⟨o', h3, h4⟩ := monCs (P := P) cs _ _ _ l h1
  exact ⟨o', h3, Oc.mono h2 h4⟩
theorem Go1.le {c : C} {e f : En} {q : Oc} (h : Go1 P c e q) (l : LE e f) : Go1 P c f q := by
  obtain ⟨o, h1, h2⟩ := h
  obtain ⟨o', h3, h4⟩ := monC (P := P) c _ _ _ l h1
  exact ⟨o', h3, Oc.mono h2 h4⟩
theorem GoF.le {t : T} {b : List C} {xs : List D} {e f : En} {q : Oc} (h : GoF P t b xs e q) (l : LE e f) : GoF P t b xs f q := by
  obtain ⟨o, h1, h2⟩ := h
  obtain ⟨o', h3, h4⟩ := frL_le (monCs (P := P) b) _ _ _ l h1
  exact ⟨o', h3, Oc.mono h2 h4⟩
theorem sat_nx {e f : En} {o : Out} (l : LE e f) (h : (Oc.nx f).sat o) : (Oc.nx e).sat o := by
  cases o <;> first | exact h.elim | exact l.trans h
theorem Go.low {cs : List C} {e f g : En} (h : Go P cs e (.nx f)) (l : LE g f) : Go P cs e (.nx g) := by
  obtain ⟨o, h1, h2⟩ := h
  exact ⟨o, h1, sat_nx l h2⟩
theorem GoF.low {t : T} {b : List C} {xs : List D} {e f g : En} (h : GoF P t b xs e (.nx f)) (l : LE g f) : GoF P t b xs e (.nx g) := by
  obtain ⟨o, h1, h2⟩ := h
  exact ⟨o, h1, sat_nx l h2⟩
theorem Go.of {cs : List C} {e f : En} (h : exs P cs e = some (.nx f)) : Go P cs e (.nx f) := ⟨_, h, LE.refl f⟩
theorem Go.rtOf {cs : List C} {e f : En} {s : Sl} (h : exs P cs e = some (.rt s f)) : Go P cs e (.rt s) := ⟨_, h, rfl⟩
theorem Go1.of {c : C} {e f : En} (h : ex P c e = some (.nx f)) : Go1 P c e (.nx f) := ⟨_, h, LE.refl f⟩
theorem Go1.rtOf {c : C} {e f : En} {s : Sl} (h : ex P c e = some (.rt s f)) : Go1 P c e (.rt s) := ⟨_, h, rfl⟩
theorem Go.nil {e f : En} (l : LE f e) : Go P [] e (.nx f) := ⟨_, exs_nil P e, l⟩
theorem Go.cons {c : C} {cs : List C} {e f : En} {q : Oc} (h : Go1 P c e (.nx f)) (g : Go P cs f q) : Go P (c :: cs) e q := by
  obtain ⟨o, h1, h2⟩ := h
  cases o with
  | nx f2 =>
    obtain ⟨o2, g1, g2⟩ := g.le h2
    exact ⟨o2, by rw [exs_cons, h1, Option.bind_some, thenO_nx, g1], g2⟩
  | _ => exact h2.elim
theorem Go.rt {c : C} {cs : List C} {e : En} {s : Sl} (h : Go1 P c e (.rt s)) : Go P (c :: cs) e (.rt s) := by
  obtain ⟨o, h1, h2⟩ := h
  cases o with
  | rt s2 f2 => exact ⟨_, by rw [exs_cons, h1, Option.bind_some, thenO_rt], h2⟩
  | _ => exact h2.elim
theorem Go.ct {c : C} {cs : List C} {e f : En} (h : Go1 P c e (.ct f)) : Go P (c :: cs) e (.ct f) := by
  obtain ⟨o, h1, h2⟩ := h
  cases o with
  | ct f2 => exact ⟨_, by rw [exs_cons, h1, Option.bind_some, thenO_ct], h2⟩
  | _ => exact h2.elim
theorem Go.bk {c : C} {cs : List C} {e f : En} (h : Go1 P c e (.bk f)) : Go P (c :: cs) e (.bk f) := by
  obtain ⟨o, h1, h2⟩ := h
  cases o with
  | bk f2 => exact ⟨_, by rw [exs_cons, h1, Option.bind_some, thenO_bk], h2⟩
  | _ => exact h2.elim
theorem Go.rb {c : C} {cs : List C} {e : En} {s : Sl} {ds rs : List Int} (h : Go1 P c e (.rb s ds rs)) : Go P (c :: cs) e (.rb s ds rs) := by
  obtain ⟨o, h1, h2⟩ := h
  cases o with
  | rt s2 f2 => exact ⟨_, by rw [exs_cons, h1, Option.bind_some, thenO_rt], h2⟩
  | _ => exact h2.elim
/-- statements in front, run by the simplifier -/
theorem Go.app {as bs : List C} {e f : En} {q : Oc} (h : Go P as e (.nx f)) (g : Go P bs f q) : Go P (as ++ bs) e q := by
  induction as generalizing e with
  | nil =>
    obtain ⟨o, h1, h2⟩ := h
    rw [exs_nil] at h1
    cases h1
    exact g.le h2
  | cons a as ih =>
    obtain ⟨o, h1, h2⟩ := h
    rw [exs_cons] at h1
    obtain ⟨r, h3, h4⟩ := Option.bind_eq_some_iff.mp h1
    cases r with
    | nx e2 =>
      rw [thenO_nx] at h4
      obtain ⟨o2, g1, g2⟩ := ih ⟨o, h4, h2⟩
      exact ⟨o2, by rw [List.cons_append, exs_cons, h3, Option.bind_some, thenO_nx, g1], g2⟩
    | rt s e2 => cases h4; exact h2.elim
    | bk e2 => cases h4; exact h2.elim
    | ct e2 => cases h4; exact h2.elim
/-- what follows a return is not run -/
theorem Go.appRb {as bs : List C} {e : En} {s : Sl} {ds rs : List Int} (h : Go P as e (.rb s ds rs)) : Go P (as ++ bs) e (.rb s ds rs) := by
  induction as generalizing e with
  | nil =>
    obtain ⟨o, h1, h2⟩ := h
    rw [exs_nil] at h1
    cases h1
    exact h2.elim
  | cons a as ih =>
    obtain ⟨o, h1, h2⟩ := h
    rw [exs_cons] at h1
    obtain ⟨r, h3, h4⟩ := Option.bind_eq_some_iff.mp h1
    cases r with
    | nx e2 =>
      rw [thenO_nx] at h4
      obtain ⟨o2, g1, g2⟩ := ih ⟨o, h4, h2⟩
      exact ⟨o2, by rw [List.cons_append, exs_cons, h3, Option.bind_some, thenO_nx, g1], g2⟩
    | rt s e2 => cases h4; exact ⟨_, by rw [List.cons_append, exs_cons, h3, Option.bind_some, thenO_rt], h2⟩
    | bk e2 => cases h4; exact h2.elim
    | ct e2 => cases h4; exact h2.elim
theorem Go.appRt {as bs : List C} {e : En} {s : Sl} (h : Go P as e (.rt s)) : Go P (as ++ bs) e (.rt s) := by
  induction as generalizing e with
  | nil =>
    obtain ⟨o, h1, h2⟩ := h
    rw [exs_nil] at h1
    cases h1
    exact h2.elim
  | cons a as ih =>
    obtain ⟨o, h1, h2⟩ := h
    rw [exs_cons] at h1
    obtain ⟨r, h3, h4⟩ := Option.bind_eq_some_iff.mp h1
    cases r with
    | nx e2 =>
      rw [thenO_nx] at h4
      obtain ⟨o2, g1, g2⟩ := ih ⟨o, h4, h2⟩
      exact ⟨o2, by rw [List.cons_append, exs_cons, h3, Option.bind_some, thenO_nx, g1], g2⟩
    | rt s e2 => cases h4; exact ⟨_, by rw [List.cons_append, exs_cons, h3, Option.bind_some, thenO_rt], h2⟩
    | bk e2 => cases h4; exact h2.elim
    | ct e2 => cases h4; exact h2.elim
theorem Go.ret {e f : E} {en en2 : En} {s : Sl} {cs : List C} (h : (ev P e).val en = some (s, en2)) : Go P (.ret e :: cs) en (.rt s) :=
  Go.rt ⟨.rt s en2, by rw [ex_ret, h]; rfl, rfl⟩
theorem Go.ife {c : E} {a b cs : List C} {e e1 : En} {k : Bool} {q : Oc} (h : (ev P c).tst e = some (k, e1)) (g : Go P ((if k then a else b) ++ cs) e1 q) : Go P (.ife c a b :: cs) e q := by
  obtain ⟨o, g1, g2⟩ := g
  refine ⟨o, ?_, g2⟩
  rw [exs_cons, ex_ife, h, Option.bind_some]
  have key : ∀ as : List C, exs P (as ++ cs) e1 = (exs P as e1).bind (thenO P cs) := by
    intro as
    have : ∀ (as : List C) (e1 : En), exs P (as ++ cs) e1 = (exs P as e1).bind (thenO P cs) := by
      intro as
      induction as with
      | nil => intro e1; simp
      | cons a as ih =>
        intro e1
        rw [List.cons_append, exs_cons, exs_cons, Option.bind_assoc]
        congr 1
        funext r
        cases r with
        | nx e2 => exact ih e2
        | _ => rfl
    exact this as e1
  cases k with
  | true => rw [if_pos rfl] at g1; simp only [if_true]; rw [← key]; exact g1
  | false =>
    rw [if_neg (by decide)] at g1
    simp only [Bool.false_eq_true, if_false]; rw [← key]; exact g1
/-- loops -/
theorem GoF.nil {t : T} {b : List C} {e f : En} (l : LE f e) : GoF P t b [] e (.nx f) := ⟨.nx e, rfl, l⟩
theorem GoF.cons {t : T} {b : List C} {x : D} {xs : List D} {e e1 e2 : En} {q : Oc} (h1 : asgT t x e = some e1) (h2 : Go P b e1 (.nx e2) ∨ Go P b e1 (.ct e2)) (h3 : GoF P t b xs e2 q) : GoF P t b (x :: xs) e q := by
  rcases h2 with ⟨o, h4, h5⟩ | ⟨o, h4, h5⟩
  · cases o with
    | nx e3 =>
      obtain ⟨o2, h6, h7⟩ := h3.le h5
      exact ⟨o2, by simp only [frL, h1, h4, Option.bind_some, h6], h7⟩
    | _ => exact h5.elim
  · cases o with
    | ct e3 =>
      obtain ⟨o2, h6, h7⟩ := h3.le h5
      exact ⟨o2, by simp only [frL, h1, h4, Option.bind_some, h6], h7⟩
    | _ => exact h5.elim
theorem GoF.rt {t : T} {b : List C} {x : D} {xs : List D} {e e1 : En} {s : Sl} (h1 : asgT t x e = some e1) (h2 : Go P b e1 (.rt s)) : GoF P t b (x :: xs) e (.rt s) := by
  obtain ⟨o, h4, h5⟩ := h2
  cases o with
  | rt s2 e3 => exact ⟨_, by simp only [frL, h1, h4, Option.bind_some], h5⟩
  | _ => exact h5.elim
theorem GoF.bk {t : T} {b : List C} {x : D} {xs : List D} {e e1 e2 : En} (h1 : asgT t x e = some e1) (h2 : Go P b e1 (.bk e2)) : GoF P t b (x :: xs) e (.nx e2) := by
  obtain ⟨o, h4, h5⟩ := h2
  cases o with
  | bk e3 => exact ⟨.nx e3, by simp only [frL, h1, h4, Option.bind_some], show LE e2 e3 from h5⟩
  | _ => exact h5.elim
theorem Go1.fr {t : T} {k : IK} {its : List E} {b : List C} {e e1 : En} {ps : List Opd} {ds xs : List D} {q : Oc} (h1 : opsM ((evs P its).map frO) e = some (ps, e1)) (h2 : gets e1 ps = some ds) (h3 : itemsOf k ds = some xs) (h4 : GoF P t b xs e1 q) : Go1 P (.fr t k its b) e q := by
  obtain ⟨o, h5, h6⟩ := h4
  exact ⟨o, by rw [fr_of h1 h2 h3, h5], h6⟩
/-- a loop by the places of its items -/
theorem GoF.idx {t : T} {b : List C} (E : Nat → En) : ∀ (xs : List D) (j : Nat), (∀ (i : Nat) (x : D), xs[i]? = some x → ∃ e1, asgT t x (E (j + i)) = some e1 ∧ (Go P b e1 (.nx (E (j + i + 1))) ∨ Go P b e1 (.ct (E (j + i + 1))))) → GoF P t b xs (E j) (.nx (E (j + xs.length)))
  | [], j, h => .nil (.refl _)
  | x :: xs, j, h => by
    obtain ⟨e1, h1, h2⟩ := h 0 x rfl
    have := GoF.idx E xs (j + 1) fun i y hy => by
      have := h (i + 1) y (by simpa using hy)
      have e : j + (i + 1) = j + 1 + i := by omega
      rw [e] at this
      exact this
    have e : j + 1 + xs.length = j + (x :: xs).length := by simp only [List.length_cons]; omega
    rw [e] at this
    exact .cons h1 h2 this
theorem GoF.idx0 {t : T} {b : List C} (E : Nat → En) (xs : List D) (h : ∀ (i : Nat) (x : D), xs[i]? = some x → ∃ e1, asgT t x (E i) = some e1 ∧ (Go P b e1 (.nx (E (i + 1))) ∨ Go P b e1 (.ct (E (i + 1))))) : GoF P t b xs (E 0) (.nx (E xs.length)) := by
  have := GoF.idx (P := P) (t := t) (b := b) E xs 0 (by simpa using h)
  simpa using this
theorem rngL_at {a : Int} {n i : Nat} {x : D} (h : (rngL a n)[i]? = some x) : i < n ∧ x = .int (a + i) := by
  unfold rngL at h
  rw [List.getElem?_map] at h
  obtain ⟨k, h1, h2⟩ := Option.map_eq_some_iff.mp h
  obtain ⟨h3, h4⟩ := List.getElem?_eq_some_iff.mp h1
  simp only [List.length_range] at h3
  simp only [List.getElem_range] at h4
  subst h4
  exact ⟨h3, h2.symm⟩
theorem rngL_len (a : Int) (n : Nat) : (rngL a n).length = n := by simp [rngL]
theorem GoF.rng {t : T} {b : List C} (E : Nat → En) (a : Int) (n : Nat) (h : ∀ i, i < n → ∃ e1, asgT t (.int (a + i)) (E i) = some e1 ∧ (Go P b e1 (.nx (E (i + 1))) ∨ Go P b e1 (.ct (E (i + 1))))) : GoF P t b (rngL a n) (E 0) (.nx (E n)) := by
  have := GoF.idx0 (P := P) (t := t) (b := b) E (rngL a n) fun i x hx => by
    obtain ⟨h1, rfl⟩ := rngL_at hx
    exact h i h1
  rw [rngL_len] at this
  exact this
/-- a loop whose state is told by a property -/
theorem GoF.inv {t : T} {b : List C} (J : Nat → En → Prop) : ∀ (xs : List D) (j : Nat) (e : En), (∀ (i : Nat) (x : D) (e : En), xs[i]? = some x → J (j + i) e → ∃ e1 e2, asgT t x e = some e1 ∧ (Go P b e1 (.nx e2) ∨ Go P b e1 (.ct e2)) ∧ J (j + i + 1) e2) → J j e → ∃ e2, J (j + xs.length) e2 ∧ GoF P t b xs e (.nx e2)
  | [], j, e, h, q => ⟨e, q, .nil (.refl _)⟩
  | x :: xs, j, e, h, q => by
    obtain ⟨e1, e2, h1, h2, h3⟩ := h 0 x e rfl q
    obtain ⟨e3, h4, h5⟩ := GoF.inv J xs (j + 1) e2 (fun i y e hy q => by
      have eq : j + (i + 1) = j + 1 + i := by omega
      have := h (i + 1) y e (by simpa using hy) (by rw [eq]; exact q)
      rw [eq] at this
      exact this) h3
    have eq : j + 1 + xs.length = j + (x :: xs).length := by simp only [List.length_cons]; omega
    rw [eq] at h4
    exact ⟨e3, h4, .cons h1 h2 h5⟩
/-- the first item at which the loop ends the function -/
theorem GoF.rtAt {t : T} {b : List C} {s : Sl} (E : Nat → En) : ∀ (xs : List D) (j k : Nat), k < xs.length → (∀ (i : Nat) (x : D), i < k → xs[i]? = some x → ∃ e1, asgT t x (E (j + i)) = some e1 ∧ (Go P b e1 (.nx (E (j + i + 1))) ∨ Go P b e1 (.ct (E (j + i + 1))))) → (∀ x, xs[k]? = some x → ∃ e1, asgT t x (E (j + k)) = some e1 ∧ Go P b e1 (.rt s)) → GoF P t b xs (E j) (.rt s)
  | [], j, k, hk, h, g => by simp at hk
  | x :: xs, j, 0, hk, h, g => by
    obtain ⟨e1, h1, h2⟩ := g x rfl
    exact .rt h1 h2
  | x :: xs, j, k + 1, hk, h, g => by
    obtain ⟨e1, h1, h2⟩ := h 0 x (by omega) rfl
    have := GoF.rtAt E xs (j + 1) k (by simpa using hk) (fun i y hi hy => by
      have := h (i + 1) y (by omega) (by simpa using hy)
      have e : j + (i + 1) = j + 1 + i := by omega
      rw [e] at this
      exact this) (fun y hy => by
      have := g y (by simpa using hy)
      have e : j + (k + 1) = j + 1 + k := by omega
      rw [e] at this
      exact this)
    exact .cons h1 h2 this
theorem Go1.wh {c : E} {b : List C} {e e1 e2 : En} {q : Oc} (h : (ev P c).tst e = some (true, e1)) (g : Go P b e1 (.nx e2)) (r : Go1 P (.wh c b) e2 q) : Go1 P (.wh c b) e q := by
  obtain ⟨o, g1, g2⟩ := g
  cases o with
  | nx e3 =>
    obtain ⟨o2, r1, r2⟩ := r.le g2
    rw [ex_wh] at r1
    exact ⟨o2, by rw [ex_wh, whC_step h g1 r1], r2⟩
  | _ => exact g2.elim
theorem Go1.whEnd {c : E} {b : List C} {e e1 f : En} (h : (ev P c).tst e = some (false, e1)) (l : LE f e1) : Go1 P (.wh c b) e (.nx f) :=
  ⟨.nx e1, by rw [ex_wh, whC_end h], l⟩
theorem Go1.whRt {c : E} {b : List C} {e e1 : En} {s : Sl} (h : (ev P c).tst e = some (true, e1)) (g : Go P b e1 (.rt s)) : Go1 P (.wh c b) e (.rt s) := by
  obtain ⟨o, g1, g2⟩ := g
  cases o with
  | rt s2 e3 => exact ⟨_, by rw [ex_wh, whC_ret h g1], g2⟩
  | _ => exact g2.elim
/-- a while by its number of turns -/
theorem Go1.whN {c : E} {b : List C} (E : Nat → En) : ∀ (n j : Nat), (∀ i, i < n → (ev P c).tst (E (j + i)) = some (true, E (j + i)) ∧ Go P b (E (j + i)) (.nx (E (j + i + 1)))) → (ev P c).tst (E (j + n)) = some (false, E (j + n)) → Go1 P (.wh c b) (E j) (.nx (E (j + n)))
  | 0, j, h, g => .whEnd g (.refl _)
  | n + 1, j, h, g => by
    obtain ⟨h1, h2⟩ := h 0 (by omega)
    have e : j + (n + 1) = j + 1 + n := by omega
    rw [e] at g ⊢
    have := Go1.whN E n (j + 1) (fun i hi => by
      have := h (i + 1) (by omega)
      have e : j + (i + 1) = j + 1 + i := by omega
      rw [e] at this
      exact this) g
    exact .wh h1 h2 this
end
/-- a function's answer -/
theorem fn_go {es : List Entry} {d j : Nat} {i : FnI} {as : List Sl} {s : Sl} (h : es[j]? = some (.user i)) (hl : as.length = i.ps.length) (hb : hasBx as = i.b) (hx : Go (callN (tbOf es) d) i.body (as ++ List.replicate (i.N.length - i.ps.length) .no) (.rt s)) : retOf (callN (tbOf es) (d + 1)) j as = some s := by
  obtain ⟨o, h1, h2⟩ := hx
  cases o with
  | rt s2 e => cases h2; exact ret_user h hl hb h1
  | _ => exact h2.elim
theorem fn_goB {es : List Entry} {d j : Nat} {i : FnI} {as : List Sl} {s : Sl} {cs rs : List Int} (h : es[j]? = some (.user i)) (hl : as.length = i.ps.length) (hb : hasBx as = i.b) (hx : Go (callN (tbOf es) d) i.body (as ++ List.replicate (i.N.length - i.ps.length) .no) (.rb s cs rs)) : retB (callN (tbOf es) (d + 1)) j as = some (s, .bx cs rs) := by
  obtain ⟨o, h1, h2⟩ := hx
  cases o with
  | rt s2 e =>
    cases e with
    | nil => exact h2.elim
    | cons b e =>
      cases b with
      | bx cs2 rs2 =>
        obtain ⟨rfl, rfl, rfl⟩ := h2
        exact retB_user h hl hb h1
      | _ => exact h2.elim
  | _ => exact h2.elim
/-! the order, for the simplifier -/
@[simp] theorem le_nil : LE [] [] := .nil
@[simp] theorem le_cons {a b : Sl} {as bs : En} : LE (a :: as) (b :: bs) ↔ sle a b ∧ LE as bs := ⟨fun h => by cases h with | cons h1 h2 => exact ⟨h1, h2⟩, fun h => .cons h.1 h.2⟩
@[simp] theorem sle_self (a : Sl) : sle a a := .refl a
@[simp] theorem sle_nov (d : D) : sle .no (.v d) := .inr ⟨rfl, rfl⟩
@[simp] theorem sle_nol (d : List D) : sle .no (.l d) := .inr ⟨rfl, rfl⟩
@[simp] theorem sle_nos (d : List Int) : sle .no (.sc d) := .inr ⟨rfl, rfl⟩
theorem sle_nob {s : Sl} (h : s.isBx = false) : sle .no s := .inr ⟨rfl, h⟩
/-! comprehensions that leave the names as they are -/
theorem rest_self {e : En} : ∀ {own : List Nat}, wipeE e own = e → restE e e own = e := fun {own} h => by
  have key : ∀ (o2 : List Nat), (∀ i ∈ o2, i ∈ own) → restE e e o2 = e := by
    intro o2
    induction o2 with
    | nil => intro _; rfl
    | cons i r ih =>
      intro hi
      have h1 := wipe_no (e := e) (hi i List.mem_cons_self)
      rw [h] at h1
      unfold restE
      rw [ih fun j hj => hi j (List.mem_cons_of_mem _ hj)]
      rcases h1 with h1 | h1 <;> rw [h1]
  exact key own fun _ h => h
theorem still_self {e : En} : ∀ {ps : List Opd}, stillB e e ps
  | [] => trivial
  | .d _ :: r => still_self (ps := r)
  | .s i :: r => ⟨rfl, still_self (ps := r)⟩
section
variable {P : Ph} {t : T} {k : IK} {its cond : List E} {elt : E} {own : List Nat} {e : En} {ps : List Opd} {ds xs : List D}
/-- each item, in an environment whose own names are free -/
theorem lc_of (f : D → D) (g : D → Bool) (hw : wipeE e own = e) (h1 : opsM (evs P its) e = some (ps, e)) (h2 : gets e ps = some ds) (h3 : itemsOf k ds = some xs)
    (h : ∀ x ∈ xs, ∃ e1, asgT t x e = some e1 ∧ wipeE e1 own = e ∧ condM (evs P cond) e1 = some (g x, e1) ∧ (g x = true → frzM (ev P elt).val e1 = some (f x, e1))) :
    (ev P (.lc t k its cond elt own)).val e = some (.l ((xs.filter g).map f), e) := by
  rw [ev_lc, lcM_of h1 h2 h3 (by rw [hw]; exact still_self) (by rw [hw]; exact lc_gen f g still_self xs h), rest_self hw]
theorem lc_of0 (f : D → D) (hw : wipeE e own = e) (h1 : opsM (evs P its) e = some (ps, e)) (h2 : gets e ps = some ds) (h3 : itemsOf k ds = some xs)
    (h : ∀ x ∈ xs, ∃ e1, asgT t x e = some e1 ∧ wipeE e1 own = e ∧ frzM (ev P elt).val e1 = some (f x, e1)) :
    (ev P (.lc t k its [] elt own)).val e = some (.l (xs.map f), e) := by
  rw [ev_lc, evs_nil, lcM_of h1 h2 h3 (by rw [hw]; exact still_self) (by rw [hw]; exact lc_map f still_self xs h), rest_self hw]
end
theorem cmp_eqS {a b : D} (h : SeqAt.shaped a = true) (h2 : SeqAt.shaped b = true) : cmpD .Eq a b = some (.v (.bool (PyData.eqv a b))) := by
  simp only [cmpD, h, h2, and_self, if_true, b2s]
theorem cmp_neS {a b : D} (h : SeqAt.shaped a = true) (h2 : SeqAt.shaped b = true) : cmpD .NotEq a b = some (.v (.bool (!PyData.eqv a b))) := by
  simp only [cmpD, h, h2, and_self, if_true, b2s]
/-! more for the simplifier -/
@[simp] theorem max_i (x y : Int) : bltD .max [.int x, .int y] = some (.v (.int (max x y))) := by
  have : (if y > x then y else x) = max x y := by split <;> omega
  simp [bltD, this]
@[simp] theorem min_i2 (x y : Int) : bltD .min [.int x, .int y] = some (.v (.int (min x y))) := by
  have : (if y < x then y else x) = min x y := by split <;> omega
  simp [bltD, this]
@[simp] theorem any_l (xs : List D) : bltD .any [.list xs] = (boolsL xs).map fun bs => .v (.bool (bs.any id)) := (rfl)
@[simp] theorem tup_l (xs : List D) : bltD .tuple [.list xs] = some (.v (.tuple xs)) := (rfl)
@[simp] theorem tup_t (xs : List D) : bltD .tuple [.tuple xs] = some (.v (.tuple xs)) := (rfl)
@[simp] theorem lst_l (xs : List D) : bltD .list [.list xs] = some (.l xs) := (rfl)
@[simp] theorem lst_t (xs : List D) : bltD .list [.tuple xs] = some (.l xs) := (rfl)
@[simp] theorem sum_l (xs : List D) : bltD .sum [.list xs] = (intsL xs).map fun is => .v (.int is.sum) := (rfl)
@[simp] theorem slc_t (xs : List D) (lo hi : Option Int) : slcD (.tuple xs) lo hi = some (.v (.tuple (cutD xs lo hi))) := (rfl)
@[simp] theorem slc_l (xs : List D) (lo hi : Option Int) : slcD (.list xs) lo hi = some (.l (cutD xs lo hi)) := (rfl)
@[simp] theorem items_et (xs : List D) : itemsOf .enum [.tuple xs] = some (enumL xs 0) := (rfl)
@[simp] theorem items_el (xs : List D) : itemsOf .enum [.list xs] = some (enumL xs 0) := (rfl)
@[simp] theorem aug_add (x y : Int) : augD .Add (.int x) (.int y) = some (.v (.int (x + y))) := (rfl)
@[simp] theorem aug_sub (x y : Int) : augD .Sub (.int x) (.int y) = some (.v (.int (x - y))) := (rfl)
theorem aug_mul (x y : Int) (h : CMul x y) : augD .Mult (.int x) (.int y) = some (.v (.int (x * y))) := by simp [augD, h]
theorem aug_mod (x y : Int) (h : 0 < y) : augD .Mod (.int x) (.int y) = some (.v (.int (x % y))) := by simp [augD, h]
def capL : Nat := 1000000
theorem size_ok {n : Nat} (h : n ≤ capL) : n ≤ sizeLine := by unfold capL at h; unfold sizeLine; omega
theorem aug_cat (xs ys : List D) (h : xs.length + ys.length ≤ capL) : augD .Add (.tuple xs) (.tuple ys) = some (.v (.tuple (xs ++ ys))) := by
  simp only [augD, size_ok h, if_true]
theorem bin_cat (xs ys : List D) (h : xs.length + ys.length ≤ capL) : binD .Add (.tuple xs) (.tuple ys) = some (.v (.tuple (xs ++ ys))) := by
  simp only [binD, size_ok h, if_true]
theorem bin_catL (xs ys : List D) (h : xs.length + ys.length ≤ capL) : binD .Add (.list xs) (.list ys) = some (.l (xs ++ ys)) := by
  simp only [binD, size_ok h, if_true]
theorem tup_ok {n : Nat} {α : Type} {a b : α} (h : n ≤ capL) : (if n ≤ sizeLine then a else b) = a := if_pos (size_ok h)
theorem boolsL_map {α : Type} (f : α → Bool) : ∀ xs : List α, boolsL (xs.map fun x => .bool (f x)) = some (xs.map f)
  | [] => rfl
  | x :: xs => by
    have e : boolsL ((x :: xs).map fun x => .bool (f x)) = (boolsL (xs.map fun x => .bool (f x))).map (f x :: ·) := rfl
    rw [e, boolsL_map f xs]; rfl
theorem intsL_map {α : Type} (f : α → Int) : ∀ xs : List α, intsL (xs.map fun x => .int (f x)) = some (xs.map f)
  | [] => rfl
  | x :: xs => by
    have e : intsL ((x :: xs).map fun x => .int (f x)) = (intsL (xs.map fun x => .int (f x))).map (f x :: ·) := rfl
    rw [e, intsL_map f xs]; rfl
theorem cut_nat (xs : List D) (i j : Nat) : cutD xs (some (i : Int)) (some (j : Int)) = (xs.take j).drop i := by
  unfold cutD
  rw [HT.sIx_nat, HT.sIx_nat, List.drop_take]
  by_cases h : i ≤ xs.length
  · rw [Nat.min_eq_left h]
    by_cases h2 : j ≤ xs.length
    · rw [Nat.min_eq_left h2]
    · rw [Nat.min_eq_right (by omega), List.take_of_length_le (by simp), List.take_of_length_le (by simp; omega)]
  · rw [Nat.min_eq_right (show xs.length ≤ i by omega)]
    simp only [List.drop_length, List.take_nil]
    rw [List.drop_of_length_le (by omega)]; simp
theorem cut_from (xs : List D) (i : Nat) : cutD xs (some (i : Int)) none = xs.drop i := by
  unfold cutD
  rw [HT.sIx_nat, HT.sIx_none]
  by_cases h : i ≤ xs.length
  · rw [Nat.min_eq_left h, List.take_of_length_le (by simp)]
  · rw [Nat.min_eq_right (by omega)]
    simp only [List.drop_length, List.take_nil]
    rw [List.drop_of_length_le (by omega)]
theorem cut_to (xs : List D) (j : Nat) : cutD xs none (some (j : Int)) = xs.take j := by
  unfold cutD
  rw [HT.sIx_nat, HT.sIx_none, List.drop_zero, Nat.sub_zero]
  by_cases h2 : j ≤ xs.length
  · rw [Nat.min_eq_left h2]
  · rw [Nat.min_eq_right (by omega), List.take_length, List.take_of_length_le (by omega)]
theorem at_ex (xs : List D) (i : Int) (h : 0 ≤ i) (h2 : i < xs.length) : ∃ d, atI xs i = some d ∧ d ∈ xs := by
  have hl : i.toNat < xs.length := by omega
  refine ⟨xs[i.toNat], ?_, List.getElem_mem hl⟩
  have := at_nth xs i.toNat xs[i.toNat] (List.getElem?_eq_getElem hl)
  rw [Int.toNat_of_nonneg h] at this
  exact this
/-- a level with room -/
theorem lev {c d : Nat} (h : c + 1 ≤ d) : ∃ d', d = d' + 1 ∧ c ≤ d' := ⟨d - 1, by omega, by omega⟩
/-! comprehensions by the places of the items -/
section
variable {P : Ph} {t : T} {k : IK} {its cond : List E} {elt : E} {own : List Nat} {e : En} {ps : List Opd} {ds xs : List D}
theorem lcLoop_at {M1 : List M} {M2 : M} {e0 : En} (c : Nat → Bool) (g : Nat → D) (hs : stillB e0 e ps) : ∀ (xs : List D) (j : Nat), (∀ i x, xs[i]? = some x → ∃ e1, asgT t x e = some e1 ∧ wipeE e1 own = e ∧ condM M1 e1 = some (c (j + i), e1) ∧ (c (j + i) = true → frzM M2.val e1 = some (g (j + i), e1))) →
    lcLoop t M1 M2 own ps e0 xs e = some ((((List.range xs.length).map (j + ·)).filter c).map g, e)
  | [], j, h => by rw [lcLoop_nil]; rfl
  | x :: xs, j, h => by
    obtain ⟨e1, h1, h2, h3, h4⟩ := h 0 x rfl
    have ih := lcLoop_at c g hs xs (j + 1) fun i y hy => by
      have := h (i + 1) y (by simpa using hy)
      have eq : j + (i + 1) = j + 1 + i := by omega
      rw [eq] at this
      exact this
    have er : (List.range (x :: xs).length).map (j + ·) = j :: (List.range xs.length).map (j + 1 + ·) := by
      rw [List.length_cons, List.range_succ_eq_map, List.map_cons, List.map_map, Nat.add_zero]
      congr 1
      apply List.map_congr_left
      intro a _
      show j + (a + 1) = j + 1 + a
      omega
    have hs' : stillB e0 (wipeE e1 own) ps := by rw [h2]; exact hs
    rw [Nat.add_zero] at h3 h4
    rw [lcLoop_cons, h1, er]
    simp only [Option.bind_some, h3]
    by_cases b : c j = true
    · simp only [b, if_true, h4 b, Option.bind_some, if_pos hs']
      rw [h2, ih]
      simp [b]
    · have b : c j = false := by simpa using b
      simp only [b, Bool.false_eq_true, if_false, if_pos hs']
      rw [h2, ih]
      simp [b]
theorem lc_at (c : Nat → Bool) (g : Nat → D) (hw : wipeE e own = e) (h1 : opsM (evs P its) e = some (ps, e)) (h2 : gets e ps = some ds) (h3 : itemsOf k ds = some xs)
    (h : ∀ i x, xs[i]? = some x → ∃ e1, asgT t x e = some e1 ∧ wipeE e1 own = e ∧ condM (evs P cond) e1 = some (c i, e1) ∧ (c i = true → frzM (ev P elt).val e1 = some (g i, e1))) :
    (ev P (.lc t k its cond elt own)).val e = some (.l (((List.range xs.length).filter c).map g), e) := by
  have := lcLoop_at (t := t) (own := own) (ps := ps) (e := e) (e0 := e) (M1 := evs P cond) (M2 := ev P elt) c g still_self xs 0 (by simpa using h)
  rw [ev_lc, lcM_of h1 h2 h3 (by rw [hw]; exact still_self) (by rw [hw]; exact this), rest_self hw]
  simp
theorem lc_at0 (g : Nat → D) (hw : wipeE e own = e) (h1 : opsM (evs P its) e = some (ps, e)) (h2 : gets e ps = some ds) (h3 : itemsOf k ds = some xs)
    (h : ∀ i x, xs[i]? = some x → ∃ e1, asgT t x e = some e1 ∧ wipeE e1 own = e ∧ frzM (ev P elt).val e1 = some (g i, e1)) :
    (ev P (.lc t k its [] elt own)).val e = some (.l ((List.range xs.length).map g), e) := by
  have := lc_at (cond := []) (fun _ => true) g hw h1 h2 h3 fun i x hx => by
    obtain ⟨e1, a, b, c⟩ := h i x hx
    exact ⟨e1, a, b, by rw [evs_nil]; rfl, fun _ => c⟩
  rw [List.filter_eq_self.mpr (fun _ _ => rfl)] at this
  exact this
end
theorem enumL_at : ∀ {xs : List D} {k i : Nat} {x : D}, (enumL xs k)[i]? = some x → ∃ y, xs[i]? = some y ∧ x = .tuple [.int ((k + i : Nat) : Int), y]
  | [], k, i, x, h => by simp [enumL] at h
  | y :: ys, k, 0, x, h => by
    simp [enumL] at h
    exact ⟨y, by simp, by subst h; simp⟩
  | y :: ys, k, i + 1, x, h => by
    simp only [enumL, List.getElem?_cons_succ] at h
    obtain ⟨z, h1, h2⟩ := enumL_at h
    refine ⟨z, by simpa using h1, ?_⟩
    have e : k + 1 + i = k + (i + 1) := by omega
    rw [h2, e]
/-! and, or, item by item -/
theorem or_T {a b : M} {r : List M} {e e1 : En} (h : a.tst e = some (true, e1)) : bopT .Or (a :: b :: r) e = some (true, e1) := by rw [bopT_2, h]; rfl
theorem or_F {a b : M} {r : List M} {e e1 : En} {q : Option (Bool × En)} (h : a.tst e = some (false, e1)) (g : bopT .Or (b :: r) e1 = q) : bopT .Or (a :: b :: r) e = q := by rw [bopT_2, h]; exact g
theorem or_1 {a : M} {e : En} {q : Option (Bool × En)} (h : a.tst e = q) : bopT .Or [a] e = q := h
theorem and_T {a b : M} {r : List M} {e e1 : En} {q : Option (Bool × En)} (h : a.tst e = some (true, e1)) (g : bopT .And (b :: r) e1 = q) : bopT .And (a :: b :: r) e = q := by rw [bopT_2, h]; exact g
theorem and_F {a b : M} {r : List M} {e e1 : En} (h : a.tst e = some (false, e1)) : bopT .And (a :: b :: r) e = some (false, e1) := by rw [bopT_2, h]; rfl
theorem and_1 {a : M} {e : En} {q : Option (Bool × En)} (h : a.tst e = q) : bopT .And [a] e = q := h
theorem bop_tst {P : Ph} {o : BoolOp} {es : List E} {e : En} {q : Option (Bool × En)} (h : bopT o (evs P es) e = q) : (ev P (.bop o es)).tst e = q := by rw [ev_bop, bopM_tst, h]
theorem not_tst {P : Ph} {a : E} {e e1 : En} {b : Bool} (h : (ev P a).tst e = some (b, e1)) : (ev P (.not a)).tst e = some (!b, e1) := by rw [ev_not, notM_tst, h]; rfl
/-- the law's drawing -/
theorem draw_okW {es : List Entry} {j : Nat} (h : es[j]? = some (.prim 1 primDraw)) {d : Nat} (hd : 2 ≤ d) (cs : List Int) (a b m : Int) (hm : 0 < m) (hm2 : m.natAbs < 2 ^ 8000) : ∃ (x : Int) (cs2 : List Int) (a2 b2 : Int), retB (callN (tbOf es) d) j [.bx cs [a, b], .v (.int m)] = some (.v (.int x), .bx cs2 [a2, b2]) ∧ 0 ≤ x ∧ x < m := by
  obtain ⟨d, rfl⟩ : ∃ d', d = d' + 1 := ⟨d - 1, by omega⟩
  have dv : divOk m := ⟨hm, by
    have h0 : m.natAbs ≠ 0 := by omega
    have := (Nat.log2_lt h0).mpr hm2
    omega⟩
  have e : retB (callN (tbOf es) (d + 1)) j [.bx cs [a, b], .v (.int m)] = some (.v (.int (boxTake cs a b m).1), .bx (boxTake cs a b m).2.1 [(boxTake cs a b m).2.2.1, (boxTake cs a b m).2.2.2]) := by
    unfold retB
    rw [call_prim (m := 1) (g := primDraw) h (by omega)]
    simp [primDraw, dv]
  refine ⟨_, _, _, _, e, ?_⟩
  unfold boxTake
  split
  · exact ⟨Int.emod_nonneg _ (by omega), Int.emod_lt_of_pos _ hm⟩
  · exact ⟨Int.emod_nonneg _ (by omega), Int.emod_lt_of_pos _ hm⟩
theorem draw_ok {es : List Entry} {j : Nat} (h : es[j]? = some (.prim 1 primDraw)) {d : Nat} (hd : 2 ≤ d) (cs : List Int) (a b m : Int) (hm : 0 < m) (hm2 : m ≤ 1000000000000000000) : ∃ (x : Int) (cs2 : List Int) (a2 b2 : Int), retB (callN (tbOf es) d) j [.bx cs [a, b], .v (.int m)] = some (.v (.int x), .bx cs2 [a2, b2]) ∧ 0 ≤ x ∧ x < m :=
  draw_okW h hd cs a b m hm (Nat.lt_of_lt_of_le (show m.natAbs < 2 ^ 64 by omega) (Nat.pow_le_pow_right (by decide) (by decide)))
end Mini

namespace Mini
open PySem PySem.Spec L2
/-! rows of numbers from nought on, and judges of any value -/
def isNum (lo hi : Int) : D → Bool
  | .int i => decide (lo ≤ i) && decide (i ≤ hi)
  | _ => false
def AllInt (xs : List D) : Prop := ∀ x ∈ xs, ∃ i, x = .int i
theorem allInt_shaped {xs : List D} (h : AllInt xs) : SeqAt.shaped (.tuple xs) = true := by
  have key : ∀ ds : List D, AllInt ds → PyData.canLayAll0 ds = true ∧ PyData.depthAll ds ≤ 1 := by
    intro ds
    induction ds with
    | nil => intro _; exact ⟨rfl, by simp [PyData.depthAll]⟩
    | cons x xs ih =>
      intro h
      obtain ⟨h1, h2⟩ := ih fun y hy => h y (List.mem_cons_of_mem _ hy)
      obtain ⟨a, rfl⟩ := h x List.mem_cons_self
      refine ⟨by simp [PyData.canLayAll0, PyData.canLay0, h1], ?_⟩
      simp only [PyData.depthAll, PyData.depth]
      omega
  obtain ⟨h1, h2⟩ := key xs h
  simp [SeqAt.shaped, PyData.canLay0, PyData.depth, h1]
  omega
theorem AllInt.sub {xs ys : List D} (h : AllInt xs) (s : ∀ y ∈ ys, y ∈ xs) : AllInt ys := fun y hy => h y (s y hy)
theorem mx_eq (day k : Nat) : max (0 : Int) ((day : Int) - (k : Int) + 1) = ((day + 1 - k : Nat) : Int) := by omega
theorem in_tup {a : D} {ds : List D} (h : SeqAt.shaped a = true) (h2 : SeqAt.shaped (.tuple ds) = true) : cmpD .In a (.tuple ds) = some (.v (.bool (ds.any fun z => PyData.eqv z a))) := by
  cases a <;> simp only [cmpD, h, h2, and_self, if_true, b2s]
theorem notin_tup {a : D} {ds : List D} (h : SeqAt.shaped a = true) (h2 : SeqAt.shaped (.tuple ds) = true) : cmpD .NotIn a (.tuple ds) = some (.v (.bool (!ds.any fun z => PyData.eqv z a))) := by
  cases a <;> simp only [cmpD, h, h2, and_self, if_true, b2s]
theorem isNum_int {lo hi : Int} {x : D} (h : isNum lo hi x = true) : ∃ i, x = .int i ∧ lo ≤ i ∧ i ≤ hi := by
  cases x with
  | int i => simp [isNum] at h; exact ⟨i, rfl, h⟩
  | _ => simp [isNum] at h
theorem all_int {lo hi : Int} {xs : List D} (h : xs.all (isNum lo hi) = true) : AllInt xs := fun x hx => by
  obtain ⟨i, e, _⟩ := isNum_int (List.all_eq_true.mp h x hx)
  exact ⟨i, e⟩
theorem isi_dict (b : List (D × D)) (t : Ty) : isiD (.dict b) t = false := by cases t <;> rfl
abbrev I (n : Nat) : D := .int (n : Int)
abbrev IL (r : List Nat) : List D := r.map fun x => I x
abbrev enc (r : List Nat) : D := .tuple (IL r)
theorem IL_int (r : List Nat) : AllInt (IL r) := fun x hx => by
  obtain ⟨a, _, rfl⟩ := List.mem_map.mp hx
  exact ⟨_, rfl⟩
theorem eqv_I (a b : Nat) : PyData.eqv (I a) (I b) = (a == b) := by
  show PyData.eqv (.int (a : Int)) (.int (b : Int)) = _
  by_cases h : a = b
  · simp [PyData.eqv, h]
  · have h2 : ¬ (a : Int) = b := by omega
    simp only [PyData.eqv]
    rw [beq_eq_false_iff_ne.mpr h, beq_eq_false_iff_ne.mpr h2]
theorem any_I (r : List Nat) (x : Nat) : ((IL r).any fun z => PyData.eqv z (I x)) = r.contains x := by
  induction r with
  | nil => rfl
  | cons a r ih =>
    simp only [List.map_cons, List.any_cons, ih, eqv_I, List.contains_cons]
    have h : (a == x) = (x == a) := BEq.comm
    rw [h]
theorem shaped_list {xs : List D} (h : SeqAt.shaped (.tuple xs) = true) : SeqAt.shaped (.list xs) = true := by
  simpa [SeqAt.shaped, PyData.canLay0, PyData.depth] using h
theorem idx_I (x : Nat) : ∀ (cs : List Nat) (j k : Nat), cs.Nodup → cs[j]? = some x → idxOf (I x) (IL cs) k = some (k + j)
  | [], j, k, _, h => by simp at h
  | c :: cs, 0, k, _, h => by
    have : c = x := by simpa using h
    subst this
    simp [idxOf, eqv_I]
  | c :: cs, j + 1, k, nd, h => by
    have hj : cs[j]? = some x := by simpa using h
    have hm := List.mem_of_getElem? hj
    have hn : c ≠ x := fun z => (List.nodup_cons.mp nd).1 (z ▸ hm)
    have ih := idx_I x cs j (k + 1) (List.nodup_cons.mp nd).2 hj
    have e : PyData.eqv (I c) (I x) = false := by rw [eqv_I]; exact beq_eq_false_iff_ne.mpr hn
    show (if PyData.eqv (I c) (I x) = true then some k else idxOf (I x) (IL cs) (k + 1)) = _
    rw [e, if_neg (by decide), ih]
    congr 1; omega
inductive Gb : Nat → D → Prop
  | none (n : Nat) : Gb n .none
  | bool (n : Nat) (b : Bool) : Gb n (.bool b)
  | int (n : Nat) (i : Int) (h : i.natAbs < 2 ^ 1000) : Gb n (.int i)
  | str (n : Nat) (s : Str) : Gb n (.str s)
  | tuple (n : Nat) (xs : List D) (h : xs.length ≤ 1000) (h2 : ∀ x ∈ xs, Gb n x) : Gb (n + 1) (.tuple xs)
theorem pick_ok (P : Ph) (e : En) (xs : List E) (ds : List D) (p : Int) (i : Nat) (hs : e[i]? = some (.v (.int p))) (ha : argsM (evs P xs) e = some (ds, e)) (hl : ds.length ≤ 1000) (h0 : 0 ≤ p) (h1 : p < ds.length) : ∃ d, d ∈ ds ∧ (ev P (.idx (.lst xs) (.var i))).val e = some (.v d, e) := by
  obtain ⟨d, h2, h3⟩ := at_ex ds p h0 h1
  have hz : ds.length ≤ sizeLine := size_ok (by unfold capL; omega)
  exact ⟨d, h3, by simp [ha, hs, hz, h2]⟩
theorem cutD_len (xs : List D) (lo hi : Option Int) : (cutD xs lo hi).length ≤ xs.length := by
  unfold cutD
  rw [List.length_take, List.length_drop]; omega
theorem Gb.facts {n : Nat} {v : D} (g : Gb n v) : (∀ b, v ≠ .list b) ∧ (∀ b, v ≠ .dict b) ∧ (∀ i, v = .int i → i.natAbs < 2 ^ 1000) ∧ (∀ xs, v = .tuple xs → xs.length ≤ 1000) := by
  cases g with
  | none => exact ⟨nofun, nofun, nofun, nofun⟩
  | bool => exact ⟨nofun, nofun, nofun, nofun⟩
  | str => exact ⟨nofun, nofun, nofun, nofun⟩
  | int n i h => exact ⟨nofun, nofun, fun j e => by cases e; exact h, nofun⟩
  | tuple n xs h h2 => exact ⟨nofun, nofun, nofun, fun ys e => by cases e; exact h⟩
theorem lay_IL : ∀ r : List Nat, PyData.canLayAll0 (IL r) = true ∧ PyData.depthAll (IL r) ≤ 1
  | [] => ⟨rfl, by simp [PyData.depthAll]⟩
  | a :: r => by
    have h1 : PyData.canLayAll0 (r.map fun x => I x) = true := (lay_IL r).1
    have h2 : PyData.depthAll (r.map fun x => I x) ≤ 1 := (lay_IL r).2
    refine ⟨by simp [PyData.canLayAll0, PyData.canLay0] at h1 ⊢; exact h1, ?_⟩
    simp only [List.map_cons, PyData.depthAll, PyData.depth]
    omega
theorem lay_rows : ∀ rs : List (List Nat), PyData.canLayAll0 (rs.map enc) = true ∧ PyData.depthAll (rs.map enc) ≤ 2
  | [] => ⟨rfl, by simp [PyData.depthAll]⟩
  | r :: rs => by
    obtain ⟨h1, h2⟩ := lay_rows rs
    obtain ⟨h3, h4⟩ := lay_IL r
    refine ⟨?_, ?_⟩
    · simp only [List.map_cons, PyData.canLayAll0, PyData.canLay0, h1, h3, Bool.and_self]
    · simp only [List.map_cons, PyData.depthAll, PyData.depth]
      omega
theorem sh_rows (rs : List (List Nat)) : SeqAt.shaped (.list (rs.map enc)) = true := by
  obtain ⟨h1, h2⟩ := lay_rows rs
  simp [SeqAt.shaped, PyData.canLay0, PyData.depth, h1]
  omega
theorem big {i : Nat} (h : i < 1000) : ((i : Nat) : Int).natAbs < 2 ^ 1000 := by
  have : (2 : Nat) ^ 10 ≤ 2 ^ 1000 := Nat.pow_le_pow_right (by decide) (by decide)
  omega
theorem gb_enc (r : List Nat) (hl : r.length ≤ 1000) (h : ∀ x ∈ r, x < 1000) : Gb 1 (enc r) := .tuple _ _ (by simpa using hl) fun x hx => by
  obtain ⟨i, hi, rfl⟩ := List.mem_map.mp hx
  exact .int _ _ (big (h i hi))
theorem flat_rep : ∀ n : Nat, (List.replicate n [(.int 0 : D)]).flatten = IL (List.replicate n 0)
  | 0 => rfl
  | n + 1 => by rw [List.replicate_succ, List.flatten_cons, flat_rep n]; rfl
theorem rep_int (n : Nat) (h : 2 ≤ n) (h2 : n ≤ 1000) : binD .Mult (.tuple [.int 0]) (.int (n : Int)) = some (.v (enc (List.replicate n 0))) := by
  have h3 : 2 ≤ (n : Int) := by omega
  have h4 : (n : Int) ≤ 1000 := by omega
  simp only [binD]
  rw [if_pos ⟨by simp, h3, h4, by simp⟩, Int.toNat_natCast, flat_rep]
theorem at_neg1 (xs : List D) (h : 1 ≤ xs.length) : atI xs (-1) = xs[xs.length - 1]? := by
  have h1 : ¬ (0 : Int) ≤ -1 := by decide
  have h2 : -(xs.length : Int) ≤ -1 := by omega
  have h3 : ((-1 : Int) + xs.length).toNat = xs.length - 1 := by omega
  unfold atI ixN
  rw [if_neg h1, if_pos h2, Option.bind_some, h3]
theorem filt_rng {α : Type} (p : α → Bool) (d : α) (l : List α) : ((List.range l.length).filter fun i => p (l.getD i d)).map (fun i => l.getD i d) = l.filter p := by
  have e : (List.range l.length).map (fun i => l.getD i d) = l := by
    apply List.ext_getElem?
    intro i
    rw [List.getElem?_map]
    by_cases h : i < l.length
    · rw [List.getElem?_range h, Option.map_some, List.getD_eq_getElem?_getD, List.getElem?_eq_getElem h]; rfl
    · rw [List.getElem?_eq_none (by simpa using h), List.getElem?_eq_none (by omega)]; rfl
  conv => rhs; rw [← e]
  rw [List.filter_map]; rfl
theorem ne_I (a b : Nat) : cmpD .NotEq (I a) (I b) = some (.v (.bool (!(a == b)))) := by
  rw [cmp_neS rfl rfl, eqv_I]
/-- a value that a judge took for ints in bounds is a row of numbers -/
theorem row_of {lo hi : Int} (h0 : 0 ≤ lo) : ∀ {xs : List D}, xs.all (isNum lo hi) = true → ∃ r : List Nat, xs = IL r ∧ ∀ x ∈ r, (x : Int) ≤ hi
  | [], _ => ⟨[], rfl, by simp⟩
  | x :: xs, h => by
    rw [List.all_cons, Bool.and_eq_true] at h
    obtain ⟨i, e, h1, h2⟩ := isNum_int h.1
    obtain ⟨r, e2, h3⟩ := row_of h0 h.2
    refine ⟨i.toNat :: r, ?_, ?_⟩
    · have : I i.toNat = .int i := by show PyData.int _ = _; rw [Int.toNat_of_nonneg (by omega)]
      show _ = I i.toNat :: IL r
      rw [e, e2, this]
    · intro y hy
      rcases List.mem_cons.mp hy with rfl | hy
      · omega
      · exact h3 y hy
theorem ne_self (rs : List (List Nat)) : cmpD .NotEq (.list (rs.map enc)) (.list (rs.map enc)) = some (.v (.bool false)) := by
  rw [cmp_neS (sh_rows rs) (sh_rows rs), SeqAt.eqv_refl _ (SeqAt.canLay_of_shaped (sh_rows rs))]; rfl
theorem getI {r : List Nat} {i : Nat} (h : i < r.length) : atI (IL r) (i : Int) = some (I (r.getD i 0)) := at_nth _ i _ (by rw [List.getElem?_map, List.getD_eq_getElem?_getD, List.getElem?_eq_getElem h]; rfl)
theorem ints_IL (r : List Nat) : intsL (IL r) = some (r.map fun (x : Nat) => (x : Int)) := intsL_map (fun x : Nat => (x : Int)) r
end Mini

namespace Law
open PySem PySem.Spec L2 Mini
def top (i : Nat) : Stmt := PySem.Challenge.pw_pantrykept_k18_whole_menus_judged.main.body.getD i (.Pass ⟨0, 0, 0, 0⟩)
abbrev E_is_whole (value : Sl := .no) : En := [value]
def b_is_whole : List C := [(.ret (.bop .And [(.isi (.var 0) .int), (.not (.isi (.var 0) .bool))]))]
def i_is_whole : FnI := ⟨"is_whole", top 1, ["value"], ["value"], b_is_whole, false⟩
def common_divisor_l1 : List C := [(.asg (.tp [(.nm 0), (.nm 1)]) (.tup [(.var 1), (.bin .Mod (.var 0) (.var 1))]))]
abbrev E_common_divisor (a b : Sl := .no) : En := [a, b]
def b_common_divisor : List C := [(.asg (.tp [(.nm 0), (.nm 1)]) (.tup [(.blt .abs [(.var 0)]), (.blt .abs [(.var 1)])])),
    (.wh (.var 1) common_divisor_l1),
    (.ret (.var 0))]
def i_common_divisor : FnI := ⟨"common_divisor", top 7, ["a", "b"], ["a", "b"], b_common_divisor, false⟩
abbrev E_is_ratio (value : Sl := .no) : En := [value]
def b_is_ratio : List C := [(.ife (.bop .Or [(.not (.isi (.var 0) .tuple)), (.cmp .NotEq (.blt .len [(.var 0)]) (.cst (.int 2))), (.not (.call 0 [(.idx (.var 0) (.cst (.int 0)))])), (.not (.call 0 [(.idx (.var 0) (.cst (.int 1)))]))]) [(.ret (.cst (.bool false)))] []),
    (.ret (.bop .And [(.cmp .Gt (.idx (.var 0) (.cst (.int 1))) (.cst (.int 0))), (.cmp .Eq (.call 1 [(.idx (.var 0) (.cst (.int 0))), (.idx (.var 0) (.cst (.int 1)))]) (.cst (.int 1)))]))]
def i_is_ratio : FnI := ⟨"is_ratio", top 8, ["value"], ["value"], b_is_ratio, false⟩
abbrev E_ratio (p q d : Sl := .no) : En := [p, q, d]
def b_ratio : List C := [(.ife (.cmp .Eq (.var 1) (.cst (.int 0))) [.never] []),
    (.ife (.cmp .Lt (.var 1) (.cst (.int 0))) [(.asg (.tp [(.nm 0), (.nm 1)]) (.tup [(.neg (.var 0)), (.neg (.var 1))]))] []),
    (.asg (.nm 2) (.call 1 [(.var 0), (.var 1)])),
    (.ret (.tup [(.bin .FloorDiv (.var 0) (.var 2)), (.bin .FloorDiv (.var 1) (.var 2))]))]
def i_ratio : FnI := ⟨"ratio", top 9, ["p", "q"], ["p", "q", "d"], b_ratio, false⟩
abbrev E_plus (one other : Sl := .no) : En := [one, other]
def b_plus : List C := [(.ret (.call 3 [(.bin .Add (.bin .Mult (.idx (.var 0) (.cst (.int 0))) (.idx (.var 1) (.cst (.int 1)))) (.bin .Mult (.idx (.var 1) (.cst (.int 0))) (.idx (.var 0) (.cst (.int 1))))), (.bin .Mult (.idx (.var 0) (.cst (.int 1))) (.idx (.var 1) (.cst (.int 1))))]))]
def i_plus : FnI := ⟨"plus", top 10, ["one", "other"], ["one", "other"], b_plus, false⟩
abbrev E_times (one other : Sl := .no) : En := [one, other]
def b_times : List C := [(.ret (.call 3 [(.bin .Mult (.idx (.var 0) (.cst (.int 0))) (.idx (.var 1) (.cst (.int 0)))), (.bin .Mult (.idx (.var 0) (.cst (.int 1))) (.idx (.var 1) (.cst (.int 1))))]))]
def i_times : FnI := ⟨"times", top 11, ["one", "other"], ["one", "other"], b_times, false⟩
abbrev E_less (one other : Sl := .no) : En := [one, other]
def b_less : List C := [(.ret (.cmp .Lt (.bin .Mult (.idx (.var 0) (.cst (.int 0))) (.idx (.var 1) (.cst (.int 1)))) (.bin .Mult (.idx (.var 1) (.cst (.int 0))) (.idx (.var 0) (.cst (.int 1))))))]
def i_less : FnI := ⟨"less", top 12, ["one", "other"], ["one", "other"], b_less, false⟩
def sum_of_l1 : List C := [(.asg (.nm 1) (.call 4 [(.var 1), (.var 2)]))]
abbrev E_sum_of (ratios found one : Sl := .no) : En := [ratios, found, one]
def b_sum_of : List C := [(.asg (.nm 1) (.cst (.tuple [(.int 0), (.int 1)]))),
    (.fr (.nm 2) .seq [(.var 0)] sum_of_l1),
    (.ret (.var 1))]
def i_sum_of : FnI := ⟨"sum_of", top 13, ["ratios"], ["ratios", "found", "one"], b_sum_of, false⟩
/- [is_ratio(part) for part  -/
def are_ratios_c1 : E := (.lc (.nm 2) .seq [(.var 0)] [] (.call 2 [(.var 2)]) [2])
@[simp] theorem are_ratios_c1_o (P : Ph) (env : En) : (ev P are_ratios_c1).opd env = (frzM (ev P are_ratios_c1).val env).map fun r => (.d r.1, r.2) := by simp only [are_ratios_c1, ev_lc, lcM_opd]
abbrev E_are_ratios (value size part : Sl := .no) : En := [value, size, part]
def b_are_ratios : List C := [(.ret (.bop .And [(.isi (.var 0) .tuple), (.cmp .Eq (.blt .len [(.var 0)]) (.var 1)), (.blt .all [are_ratios_c1])]))]
def i_are_ratios : FnI := ⟨"are_ratios", top 17, ["value", "size"], ["value", "size", "part"], b_are_ratios, false⟩
/- [isinstance(row, tuple) f -/
def is_menu_c1 : E := (.lc (.nm 3) .seq [(.var 2)] [] (.isi (.var 3) .tuple) [3])
@[simp] theorem is_menu_c1_o (P : Ph) (env : En) : (ev P is_menu_c1).opd env = (frzM (ev P is_menu_c1).val env).map fun r => (.d r.1, r.2) := by simp only [is_menu_c1, ev_lc, lcM_opd]
/- [are_ratios(row, dishes)  -/
def is_menu_c2 : E := (.lc (.nm 3) .seq [(.var 2)] [] (.call 8 [(.var 3), (.var 4)]) [3])
@[simp] theorem is_menu_c2_o (P : Ph) (env : En) : (ev P is_menu_c2).opd env = (frzM (ev P is_menu_c2).val env).map fun r => (.d r.1, r.2) := by simp only [is_menu_c2, ev_lc, lcM_opd]
abbrev E_is_menu (value needs table row dishes : Sl := .no) : En := [value, needs, table, row, dishes]
def b_is_menu : List C := [(.ife (.bop .Or [(.not (.isi (.var 0) .tuple)), (.cmp .NotEq (.blt .len [(.var 0)]) (.cst (.int 2))), (.not (.isi (.idx (.var 0) (.cst (.int 0))) .tuple))]) [(.ret (.cst (.bool false)))] []),
    (.asg (.tp [(.nm 1), (.nm 2)]) (.var 0)),
    (.ife (.bop .Or [(.cmp .Gt (.blt .len [(.var 1)]) (.cst (.int 8))), (.not (.call 8 [(.var 1), (.blt .len [(.var 1)])]))]) [(.ret (.cst (.bool false)))] []),
    (.ife (.bop .Or [(.not (.isi (.var 2) .tuple)), (.cmp .NotEq (.blt .len [(.var 2)]) (.blt .len [(.var 1)])), (.not (.blt .all [is_menu_c1]))]) [(.ret (.cst (.bool false)))] []),
    (.asg (.nm 4) (.ite (.var 2) (.blt .len [(.idx (.var 2) (.cst (.int 0)))]) (.cst (.int 0)))),
    (.ret (.bop .And [(.cmp .LtE (.var 4) (.cst (.int 8))), (.blt .all [is_menu_c2])]))]
def i_is_menu : FnI := ⟨"is_menu", top 18, ["value"], ["value", "needs", "table", "row", "dishes"], b_is_menu, false⟩
abbrev E_dishes_of (menu : Sl := .no) : En := [menu]
def b_dishes_of : List C := [(.ret (.ite (.idx (.var 0) (.cst (.int 1))) (.blt .len [(.idx (.idx (.var 0) (.cst (.int 1))) (.cst (.int 0)))]) (.cst (.int 0))))]
def i_dishes_of : FnI := ⟨"dishes_of", top 19, ["menu"], ["menu"], b_dishes_of, false⟩
/- [less(part, ZERO) for par -/
def are_above_c1 : E := (.lc (.nm 1) .seq [(.var 0)] [] (.call 6 [(.var 1), (.cst (.tuple [(.int 0), (.int 1)]))]) [1])
@[simp] theorem are_above_c1_o (P : Ph) (env : En) : (ev P are_above_c1).opd env = (frzM (ev P are_above_c1).val env).map fun r => (.d r.1, r.2) := by simp only [are_above_c1, ev_lc, lcM_opd]
abbrev E_are_above (row part : Sl := .no) : En := [row, part]
def b_are_above : List C := [(.ret (.not (.blt .any [are_above_c1])))]
def i_are_above : FnI := ⟨"are_above", top 20, ["row"], ["row", "part"], b_are_above, false⟩
/- [times(a, b) for a, b in  -/
def dot_c1 : E := (.lc (.tp [(.nm 2), (.nm 3)]) .zip [(.var 0), (.var 1)] [] (.call 5 [(.var 2), (.var 3)]) [2, 3])
@[simp] theorem dot_c1_o (P : Ph) (env : En) : (ev P dot_c1).opd env = (frzM (ev P dot_c1).val env).map fun r => (.d r.1, r.2) := by simp only [dot_c1, ev_lc, lcM_opd]
abbrev E_dot (one other a b : Sl := .no) : En := [one, other, a, b]
def b_dot : List C := [(.ret (.call 7 [dot_c1]))]
def i_dot : FnI := ⟨"dot", top 21, ["one", "other"], ["one", "other", "a", "b"], b_dot, false⟩
/- [dot(row, amounts) for ro -/
def given_by_c1 : E := (.lc (.nm 2) .seq [(.idx (.var 0) (.cst (.int 1)))] [] (.call 12 [(.var 2), (.var 1)]) [2])
@[simp] theorem given_by_c1_o (P : Ph) (env : En) : (ev P given_by_c1).opd env = (frzM (ev P given_by_c1).val env).map fun r => (.d r.1, r.2) := by simp only [given_by_c1, ev_lc, lcM_opd]
abbrev E_given_by (menu amounts row : Sl := .no) : En := [menu, amounts, row]
def b_given_by : List C := [(.ret (.blt .tuple [given_by_c1]))]
def i_given_by : FnI := ⟨"given_by", top 22, ["menu", "amounts"], ["menu", "amounts", "row"], b_given_by, false⟩
/- [row[j] for row in menu[1 -/
def worth_of_dishes_c1 : E := (.lc (.nm 2) .seq [(.idx (.var 0) (.cst (.int 1)))] [] (.idx (.var 2) (.var 3)) [2])
@[simp] theorem worth_of_dishes_c1_o (P : Ph) (env : En) : (ev P worth_of_dishes_c1).opd env = (frzM (ev P worth_of_dishes_c1).val env).map fun r => (.d r.1, r.2) := by simp only [worth_of_dishes_c1, ev_lc, lcM_opd]
/- [dot(prices, [row[j] for  -/
def worth_of_dishes_c2 : E := (.lc (.nm 3) .rng [(.call 10 [(.var 0)])] [] (.call 12 [(.var 1), worth_of_dishes_c1]) [3])
@[simp] theorem worth_of_dishes_c2_o (P : Ph) (env : En) : (ev P worth_of_dishes_c2).opd env = (frzM (ev P worth_of_dishes_c2).val env).map fun r => (.d r.1, r.2) := by simp only [worth_of_dishes_c2, ev_lc, lcM_opd]
abbrev E_worth_of_dishes (menu prices row j : Sl := .no) : En := [menu, prices, row, j]
def b_worth_of_dishes : List C := [(.ret (.blt .tuple [worth_of_dishes_c2]))]
def i_worth_of_dishes : FnI := ⟨"worth_of_dishes", top 23, ["menu", "prices"], ["menu", "prices", "row", "j"], b_worth_of_dishes, false⟩
/- [less(given, need) for gi -/
def are_amounts_c1 : E := (.lc (.tp [(.nm 2), (.nm 3)]) .zip [(.call 13 [(.var 0), (.var 1)]), (.idx (.var 0) (.cst (.int 0)))] [] (.call 6 [(.var 2), (.var 3)]) [2, 3])
@[simp] theorem are_amounts_c1_o (P : Ph) (env : En) : (ev P are_amounts_c1).opd env = (frzM (ev P are_amounts_c1).val env).map fun r => (.d r.1, r.2) := by simp only [are_amounts_c1, ev_lc, lcM_opd]
abbrev E_are_amounts (menu value given need : Sl := .no) : En := [menu, value, given, need]
def b_are_amounts : List C := [(.ife (.bop .Or [(.not (.call 8 [(.var 1), (.call 10 [(.var 0)])])), (.not (.call 11 [(.var 1)]))]) [(.ret (.cst (.bool false)))] []),
    (.ret (.not (.blt .any [are_amounts_c1])))]
def i_are_amounts : FnI := ⟨"are_amounts", top 24, ["menu", "value"], ["menu", "value", "given", "need"], b_are_amounts, false⟩
/- [less(ZERO, worth) for wo -/
def is_bar_c1 : E := (.lc (.nm 2) .seq [(.call 14 [(.var 0), (.var 1)])] [] (.call 6 [(.cst (.tuple [(.int 0), (.int 1)])), (.var 2)]) [2])
@[simp] theorem is_bar_c1_o (P : Ph) (env : En) : (ev P is_bar_c1).opd env = (frzM (ev P is_bar_c1).val env).map fun r => (.d r.1, r.2) := by simp only [is_bar_c1, ev_lc, lcM_opd]
abbrev E_is_bar (menu value worth : Sl := .no) : En := [menu, value, worth]
def b_is_bar : List C := [(.ife (.bop .Or [(.not (.call 8 [(.var 1), (.blt .len [(.idx (.var 0) (.cst (.int 0)))])])), (.not (.call 11 [(.var 1)]))]) [(.ret (.cst (.bool false)))] []),
    (.ife (.blt .any [is_bar_c1]) [(.ret (.cst (.bool false)))] []),
    (.ret (.call 6 [(.cst (.tuple [(.int 0), (.int 1)])), (.call 12 [(.var 1), (.idx (.var 0) (.cst (.int 0)))])]))]
def i_is_bar : FnI := ⟨"is_bar", top 25, ["menu", "value"], ["menu", "value", "worth"], b_is_bar, false⟩
/- [less(cost, worth) for co -/
def are_prices_c1 : E := (.lc (.tp [(.nm 3), (.nm 4)]) .zip [(.var 1), (.call 14 [(.var 0), (.var 2)])] [] (.call 6 [(.var 3), (.var 4)]) [3, 4])
@[simp] theorem are_prices_c1_o (P : Ph) (env : En) : (ev P are_prices_c1).opd env = (frzM (ev P are_prices_c1).val env).map fun r => (.d r.1, r.2) := by simp only [are_prices_c1, ev_lc, lcM_opd]
abbrev E_are_prices (menu costs value cost worth : Sl := .no) : En := [menu, costs, value, cost, worth]
def b_are_prices : List C := [(.ife (.bop .Or [(.not (.call 8 [(.var 2), (.blt .len [(.idx (.var 0) (.cst (.int 0)))])])), (.not (.call 11 [(.var 2)]))]) [(.ret (.cst (.bool false)))] []),
    (.ret (.not (.blt .any [are_prices_c1])))]
def i_are_prices : FnI := ⟨"are_prices", top 26, ["menu", "costs", "value"], ["menu", "costs", "value", "cost", "worth"], b_are_prices, false⟩
abbrev E_is_saving (menu costs value : Sl := .no) : En := [menu, costs, value]
def b_is_saving : List C := [(.ife (.bop .Or [(.not (.call 8 [(.var 2), (.call 10 [(.var 0)])])), (.not (.call 11 [(.var 2)]))]) [(.ret (.cst (.bool false)))] []),
    (.ret (.bop .And [(.call 11 [(.call 13 [(.var 0), (.var 2)])]), (.call 6 [(.call 12 [(.var 1), (.var 2)]), (.cst (.tuple [(.int 0), (.int 1)]))])]))]
def i_is_saving : FnI := ⟨"is_saving", top 27, ["menu", "costs", "value"], ["menu", "costs", "value"], b_is_saving, false⟩
/- [plus(given, times((-1, 1 -/
def over_needs_c1 : E := (.lc (.tp [(.nm 2), (.nm 3)]) .zip [(.call 13 [(.var 0), (.var 1)]), (.idx (.var 0) (.cst (.int 0)))] [] (.call 4 [(.var 2), (.call 5 [(.tup [(.neg (.cst (.int 1))), (.cst (.int 1))]), (.var 3)])]) [2, 3])
@[simp] theorem over_needs_c1_o (P : Ph) (env : En) : (ev P over_needs_c1).opd env = (frzM (ev P over_needs_c1).val env).map fun r => (.d r.1, r.2) := by simp only [over_needs_c1, ev_lc, lcM_opd]
abbrev E_over_needs (menu amounts given need : Sl := .no) : En := [menu, amounts, given, need]
def b_over_needs : List C := [(.ret (.blt .tuple [over_needs_c1]))]
def i_over_needs : FnI := ⟨"over_needs", top 28, ["menu", "amounts"], ["menu", "amounts", "given", "need"], b_over_needs, false⟩
def go_together_l1 : List C := [(.ife (.bop .And [(.cmp .NotEq (.var 4) (.cst (.tuple [(.int 0), (.int 1)]))), (.cmp .NotEq (.var 5) (.cst (.tuple [(.int 0), (.int 1)])))]) [(.ret (.cst (.bool false)))] [])]
def go_together_l2 : List C := [(.ife (.bop .And [(.cmp .NotEq (.var 6) (.var 7)), (.cmp .NotEq (.var 8) (.cst (.tuple [(.int 0), (.int 1)])))]) [(.ret (.cst (.bool false)))] [])]
abbrev E_go_together (menu costs amounts prices over price cost worth amount : Sl := .no) : En := [menu, costs, amounts, prices, over, price, cost, worth, amount]
def b_go_together : List C := [(.fr (.tp [(.nm 4), (.nm 5)]) .zip [(.call 19 [(.var 0), (.var 2)]), (.var 3)] go_together_l1),
    (.fr (.tp [(.nm 6), (.nm 7), (.nm 8)]) .zip [(.var 1), (.call 14 [(.var 0), (.var 3)]), (.var 2)] go_together_l2),
    (.ret (.cst (.bool true)))]
def i_go_together : FnI := ⟨"go_together", top 29, ["menu", "costs", "amounts", "prices"], ["menu", "costs", "amounts", "prices", "over", "price", "cost", "worth", "amount"], b_go_together, false⟩
abbrev E_is_index (value size : Sl := .no) : En := [value, size]
def b_is_index : List C := [(.ret (.bop .And [(.call 0 [(.var 0)]), (.chn .LtE .Lt (.cst (.int 0)) (.var 0) (.var 1))]))]
def i_is_index : FnI := ⟨"is_index", top 30, ["value", "size"], ["value", "size"], b_is_index, false⟩
/- [_law_same(a[k], b[k]) fo -/
def law_same_c1 : E := (.lc (.nm 2) .rng [(.blt .len [(.var 0)])] [] (.call 24 [(.idx (.var 0) (.var 2)), (.idx (.var 1) (.var 2))]) [2])
@[simp] theorem law_same_c1_o (P : Ph) (env : En) : (ev P law_same_c1).opd env = (frzM (ev P law_same_c1).val env).map fun r => (.d r.1, r.2) := by simp only [law_same_c1, ev_lc, lcM_opd]
abbrev E_law_same (a b k : Sl := .no) : En := [a, b, k]
def b__law_same : List C := [(.ife (.bop .Or [(.bop .And [(.isi (.var 0) .tuple), (.isi (.var 1) .tuple)]), (.bop .And [(.isi (.var 0) .list), (.isi (.var 1) .list)])]) [(.ret (.bop .And [(.cmp .Eq (.blt .len [(.var 0)]) (.blt .len [(.var 1)])), (.blt .all [law_same_c1])]))] []),
    (.ife (.bop .Or [(.isi (.var 0) .bool), (.isi (.var 1) .bool)]) [(.ret (.bop .And [(.isi (.var 0) .bool), (.isi (.var 1) .bool), (.cmp .Eq (.var 0) (.var 1))]))] []),
    (.ife (.bop .Or [(.bop .And [(.isi (.var 0) .int), (.isi (.var 1) .int)]), (.bop .And [(.isi (.var 0) .str), (.isi (.var 1) .str)])]) [(.ret (.cmp .Eq (.var 0) (.var 1)))] []),
    (.ret (.bop .And [(.isn false (.var 0)), (.isn false (.var 1))]))]
def i__law_same : FnI := ⟨"_law_same", top 35, ["a", "b"], ["a", "b", "k"], b__law_same, false⟩
abbrev E_law_bent (box value at_ pick : Sl := .no) : En := [box, value, at_, pick]
def b__law_bent : List C := [(.ife (.bop .And [(.isi (.var 1) .tuple), (.cmp .Gt (.blt .len [(.var 1)]) (.cst (.int 0))), (.cmp .Gt (.callB 23 0 [(.cst (.int 5))]) (.cst (.int 0)))]) [(.asg (.nm 2) (.callB 23 0 [(.blt .len [(.var 1)])])),
    (.ret (.bin .Add (.bin .Add (.slc (.var 1) [] [(.var 2)]) (.tup [(.callB 25 0 [(.idx (.var 1) (.var 2))])])) (.slc (.var 1) [(.bin .Add (.var 2) (.cst (.int 1)))] [])))] []),
    (.asg (.nm 3) (.callB 23 0 [(.cst (.int 8))])),
    (.ife (.isi (.var 1) .tuple) [(.ret (.idx (.lst [(.bin .Add (.var 1) (.slc (.var 1) [] [(.cst (.int 1))])), (.slc (.var 1) [(.cst (.int 1))] []), (.rev (.var 1)), (.bin .Add (.var 1) (.tup [(.cst (.int 0))])), (.bin .Add (.slc (.var 1) [] [(.cst (.int 1))]) (.var 1)), (.slc (.var 1) [] [(.neg (.cst (.int 1)))]), (.cst .none), (.slc (.var 1) [] [(.cst (.int 1))])]) (.var 3)))] []),
    (.ife (.bop .And [(.isi (.var 1) .int), (.not (.isi (.var 1) .bool))]) [(.ret (.idx (.lst [(.bin .Add (.var 1) (.cst (.int 1))), (.bin .Sub (.var 1) (.cst (.int 1))), (.neg (.var 1)), (.cmp .Eq (.var 1) (.cst (.int 1))), (.cst .none), (.blt .str [(.var 1)]), (.tup [(.var 1)]), (.bin .Add (.var 1) (.cst (.int 1001)))]) (.var 3)))] []),
    (.ife (.isi (.var 1) .str) [(.ret (.idx (.lst [(.bin .Add (.var 1) (.cst (.str "a"))), (.slc (.var 1) [(.cst (.int 1))] []), (.cst (.str "any")), (.upper (.var 1)), (.cst (.int 0)), (.cst (.str "")), (.bin .Add (.var 1) (.cst (.str "z0z0z0z0"))), (.tup [(.var 1)])]) (.var 3)))] []),
    (.ret (.idx (.lst [(.cst (.int 0)), (.cst (.int 1)), (.cst .none), (.cst (.bool true)), (.cst (.bool false)), (.cst (.str "a")), (.tup []), (.neg (.cst (.int 1)))]) (.var 3)))]
def i__law_bent : FnI := ⟨"_law_bent", top 36, ["box", "value"], ["box", "value", "at", "pick"], b__law_bent, true⟩
def law_divisor_l1 : List C := [(.asg (.tp [(.nm 0), (.nm 1)]) (.tup [(.var 1), (.bin .Sub (.var 0) (.bin .Mult (.bin .FloorDiv (.var 0) (.var 1)) (.var 1)))]))]
abbrev E_law_divisor (a b : Sl := .no) : En := [a, b]
def b__law_divisor : List C := [(.wh (.cmp .NotEq (.var 1) (.cst (.int 0))) law_divisor_l1),
    (.ret (.var 0))]
def i__law_divisor : FnI := ⟨"_law_divisor", top 37, ["a", "b"], ["a", "b"], b__law_divisor, false⟩
abbrev E_law_ratio (p q d : Sl := .no) : En := [p, q, d]
def b__law_ratio : List C := [(.asg (.nm 2) (.call 26 [(.blt .abs [(.var 0)]), (.blt .abs [(.var 1)])])),
    (.ret (.ite (.cmp .Gt (.var 1) (.cst (.int 0))) (.tup [(.bin .FloorDiv (.var 0) (.var 2)), (.bin .FloorDiv (.var 1) (.var 2))]) (.tup [(.bin .FloorDiv (.neg (.var 0)) (.var 2)), (.bin .FloorDiv (.neg (.var 1)) (.var 2))])))]
def i__law_ratio : FnI := ⟨"_law_ratio", top 38, ["p", "q"], ["p", "q", "d"], b__law_ratio, false⟩
abbrev E_law_plus (one other : Sl := .no) : En := [one, other]
def b__law_plus : List C := [(.ret (.call 27 [(.bin .Add (.bin .Mult (.idx (.var 0) (.cst (.int 0))) (.idx (.var 1) (.cst (.int 1)))) (.bin .Mult (.idx (.var 1) (.cst (.int 0))) (.idx (.var 0) (.cst (.int 1))))), (.bin .Mult (.idx (.var 0) (.cst (.int 1))) (.idx (.var 1) (.cst (.int 1))))]))]
def i__law_plus : FnI := ⟨"_law_plus", top 39, ["one", "other"], ["one", "other"], b__law_plus, false⟩
abbrev E_law_times (one other : Sl := .no) : En := [one, other]
def b__law_times : List C := [(.ret (.call 27 [(.bin .Mult (.idx (.var 0) (.cst (.int 0))) (.idx (.var 1) (.cst (.int 0)))), (.bin .Mult (.idx (.var 0) (.cst (.int 1))) (.idx (.var 1) (.cst (.int 1))))]))]
def i__law_times : FnI := ⟨"_law_times", top 40, ["one", "other"], ["one", "other"], b__law_times, false⟩
abbrev E_law_less (one other : Sl := .no) : En := [one, other]
def b__law_less : List C := [(.ret (.cmp .Lt (.bin .Mult (.idx (.var 0) (.cst (.int 0))) (.idx (.var 1) (.cst (.int 1)))) (.bin .Mult (.idx (.var 1) (.cst (.int 0))) (.idx (.var 0) (.cst (.int 1))))))]
def i__law_less : FnI := ⟨"_law_less", top 41, ["one", "other"], ["one", "other"], b__law_less, false⟩
def law_dot_l1 : List C := [(.asg (.nm 2) (.call 28 [(.var 2), (.call 29 [(.idx (.var 0) (.var 3)), (.idx (.var 1) (.var 3))])]))]
abbrev E_law_dot (one other found k : Sl := .no) : En := [one, other, found, k]
def b__law_dot : List C := [(.asg (.nm 2) (.tup [(.cst (.int 0)), (.cst (.int 1))])),
    (.fr (.nm 3) .rng [(.blt .len [(.var 0)])] law_dot_l1),
    (.ret (.var 2))]
def i__law_dot : FnI := ⟨"_law_dot", top 42, ["one", "other"], ["one", "other", "found", "k"], b__law_dot, false⟩
/- [isinstance(part, int) an -/
def law_is_ratio_c1 : E := (.lc (.nm 1) .seq [(.var 0)] [] (.bop .And [(.isi (.var 1) .int), (.not (.isi (.var 1) .bool))]) [1])
@[simp] theorem law_is_ratio_c1_o (P : Ph) (env : En) : (ev P law_is_ratio_c1).opd env = (frzM (ev P law_is_ratio_c1).val env).map fun r => (.d r.1, r.2) := by simp only [law_is_ratio_c1, ev_lc, lcM_opd]
abbrev E_law_is_ratio (value part : Sl := .no) : En := [value, part]
def b__law_is_ratio : List C := [(.ife (.bop .Or [(.not (.isi (.var 0) .tuple)), (.cmp .NotEq (.blt .len [(.var 0)]) (.cst (.int 2))), (.not (.blt .all [law_is_ratio_c1]))]) [(.ret (.cst (.bool false)))] []),
    (.ret (.bop .And [(.cmp .Gt (.idx (.var 0) (.cst (.int 1))) (.cst (.int 0))), (.cmp .Eq (.call 26 [(.blt .abs [(.idx (.var 0) (.cst (.int 0)))]), (.idx (.var 0) (.cst (.int 1)))]) (.cst (.int 1)))]))]
def i__law_is_ratio : FnI := ⟨"_law_is_ratio", top 43, ["value"], ["value", "part"], b__law_is_ratio, false⟩
abbrev E_law_some (box low high : Sl := .no) : En := [box, low, high]
def b__law_some : List C := [(.ret (.call 27 [(.bin .Add (.var 1) (.callB 23 0 [(.bin .Add (.bin .Sub (.var 2) (.var 1)) (.cst (.int 1)))])), (.ite (.cmp .Gt (.callB 23 0 [(.cst (.int 3))]) (.cst (.int 0))) (.cst (.int 1)) (.bin .Add (.cst (.int 1)) (.callB 23 0 [(.cst (.int 4))])))]))]
def i__law_some : FnI := ⟨"_law_some", top 44, ["box", "low", "high"], ["box", "low", "high"], b__law_some, true⟩
/- [_law_is_ratio(part) for  -/
def law_row_c1 : E := (.lc (.nm 2) .seq [(.var 0)] [] (.call 32 [(.var 2)]) [2])
@[simp] theorem law_row_c1_o (P : Ph) (env : En) : (ev P law_row_c1).opd env = (frzM (ev P law_row_c1).val env).map fun r => (.d r.1, r.2) := by simp only [law_row_c1, ev_lc, lcM_opd]
/- [part[0] >= 0 for part in -/
def law_row_c2 : E := (.lc (.nm 2) .seq [(.var 0)] [] (.cmp .GtE (.idx (.var 2) (.cst (.int 0))) (.cst (.int 0))) [2])
@[simp] theorem law_row_c2_o (P : Ph) (env : En) : (ev P law_row_c2).opd env = (frzM (ev P law_row_c2).val env).map fun r => (.d r.1, r.2) := by simp only [law_row_c2, ev_lc, lcM_opd]
abbrev E_law_row (value size part : Sl := .no) : En := [value, size, part]
def b__law_row : List C := [(.ife (.bop .Or [(.not (.isi (.var 0) .tuple)), (.cmp .NotEq (.blt .len [(.var 0)]) (.var 1)), (.not (.blt .all [law_row_c1]))]) [(.ret (.cst (.bool false)))] []),
    (.ret (.blt .all [law_row_c2]))]
def i__law_row : FnI := ⟨"_law_row", top 45, ["value", "size"], ["value", "size", "part"], b__law_row, false⟩
/- [_law_some(box, low, 9) f -/
def law_menu_c1 : E := (.lc (.nm 5) .rng [(.var 1)] [] (.callB 33 0 [(.var 3), (.cst (.int 9))]) [5])
@[simp] theorem law_menu_c1_o (P : Ph) (env : En) : (ev P law_menu_c1).opd env = (frzM (ev P law_menu_c1).val env).map fun r => (.d r.1, r.2) := by simp only [law_menu_c1, ev_lc, lcM_opd]
/- [_law_some(box, low, 5) f -/
def law_menu_c2 : E := (.lc (.nm 6) .rng [(.var 2)] [] (.callB 33 0 [(.var 3), (.cst (.int 5))]) [6])
@[simp] theorem law_menu_c2_o (P : Ph) (env : En) : (ev P law_menu_c2).opd env = (frzM (ev P law_menu_c2).val env).map fun r => (.d r.1, r.2) := by simp only [law_menu_c2, ev_lc, lcM_opd]
/- [tuple([_law_some(box, lo -/
def law_menu_c3 : E := (.lc (.nm 5) .rng [(.var 1)] [] (.blt .tuple [law_menu_c2]) [5])
@[simp] theorem law_menu_c3_o (P : Ph) (env : En) : (ev P law_menu_c3).opd env = (frzM (ev P law_menu_c3).val env).map fun r => (.d r.1, r.2) := by simp only [law_menu_c3, ev_lc, lcM_opd]
abbrev E_law_menu (box m n low needs i j : Sl := .no) : En := [box, m, n, low, needs, i, j]
def b__law_menu : List C := [(.asg (.nm 4) (.blt .tuple [law_menu_c1])),
    (.ret (.tup [(.var 4), (.blt .tuple [law_menu_c3])]))]
def i__law_menu : FnI := ⟨"_law_menu", top 46, ["box", "m", "n", "low"], ["box", "m", "n", "low", "needs", "i", "j"], b__law_menu, true⟩
/- [row[j] for row in menu[1 -/
def law_columns_c1 : E := (.lc (.nm 1) .seq [(.idx (.var 0) (.cst (.int 1)))] [] (.idx (.var 1) (.var 2)) [1])
@[simp] theorem law_columns_c1_o (P : Ph) (env : En) : (ev P law_columns_c1).opd env = (frzM (ev P law_columns_c1).val env).map fun r => (.d r.1, r.2) := by simp only [law_columns_c1, ev_lc, lcM_opd]
/- [tuple([row[j] for row in -/
def law_columns_c2 : E := (.lc (.nm 2) .rng [(.ite (.cmp .NotEq (.idx (.var 0) (.cst (.int 1))) (.tup [])) (.blt .len [(.idx (.idx (.var 0) (.cst (.int 1))) (.cst (.int 0)))]) (.cst (.int 0)))] [] (.blt .tuple [law_columns_c1]) [2])
@[simp] theorem law_columns_c2_o (P : Ph) (env : En) : (ev P law_columns_c2).opd env = (frzM (ev P law_columns_c2).val env).map fun r => (.d r.1, r.2) := by simp only [law_columns_c2, ev_lc, lcM_opd]
abbrev E_law_columns (menu row j : Sl := .no) : En := [menu, row, j]
def b__law_columns : List C := [(.ret law_columns_c2)]
def i__law_columns : FnI := ⟨"_law_columns", top 47, ["menu"], ["menu", "row", "j"], b__law_columns, false⟩
/- [not _law_less(_law_dot(m -/
def law_are_amounts_c1 : E := (.lc (.nm 2) .rng [(.blt .len [(.idx (.var 0) (.cst (.int 0)))])] [] (.not (.call 30 [(.call 31 [(.idx (.idx (.var 0) (.cst (.int 1))) (.var 2)), (.var 1)]), (.idx (.idx (.var 0) (.cst (.int 0))) (.var 2))])) [2])
@[simp] theorem law_are_amounts_c1_o (P : Ph) (env : En) : (ev P law_are_amounts_c1).opd env = (frzM (ev P law_are_amounts_c1).val env).map fun r => (.d r.1, r.2) := by simp only [law_are_amounts_c1, ev_lc, lcM_opd]
abbrev E_law_are_amounts (menu value i : Sl := .no) : En := [menu, value, i]
def b__law_are_amounts : List C := [(.ife (.not (.call 34 [(.var 1), (.blt .len [(.call 36 [(.var 0)])])])) [(.ret (.cst (.bool false)))] []),
    (.ret (.blt .all [law_are_amounts_c1]))]
def i__law_are_amounts : FnI := ⟨"_law_are_amounts", top 48, ["menu", "value"], ["menu", "value", "i"], b__law_are_amounts, false⟩
/- [_law_dot(value, column)[ -/
def law_is_bar_c1 : E := (.lc (.nm 2) .seq [(.call 36 [(.var 0)])] [] (.cmp .LtE (.idx (.call 31 [(.var 1), (.var 2)]) (.cst (.int 0))) (.cst (.int 0))) [2])
@[simp] theorem law_is_bar_c1_o (P : Ph) (env : En) : (ev P law_is_bar_c1).opd env = (frzM (ev P law_is_bar_c1).val env).map fun r => (.d r.1, r.2) := by simp only [law_is_bar_c1, ev_lc, lcM_opd]
abbrev E_law_is_bar (menu value column : Sl := .no) : En := [menu, value, column]
def b__law_is_bar : List C := [(.ife (.bop .Or [(.not (.call 34 [(.var 1), (.blt .len [(.idx (.var 0) (.cst (.int 0)))])])), (.not (.cmp .Gt (.idx (.call 31 [(.var 1), (.idx (.var 0) (.cst (.int 0)))]) (.cst (.int 0))) (.cst (.int 0))))]) [(.ret (.cst (.bool false)))] []),
    (.ret (.blt .all [law_is_bar_c1]))]
def i__law_is_bar : FnI := ⟨"_law_is_bar", top 49, ["menu", "value"], ["menu", "value", "column"], b__law_is_bar, false⟩
/- [not _law_less(costs[j],  -/
def law_are_prices_c1 : E := (.lc (.nm 4) .rng [(.blt .len [(.var 3)])] [] (.not (.call 30 [(.idx (.var 1) (.var 4)), (.call 31 [(.var 2), (.idx (.var 3) (.var 4))])])) [4])
@[simp] theorem law_are_prices_c1_o (P : Ph) (env : En) : (ev P law_are_prices_c1).opd env = (frzM (ev P law_are_prices_c1).val env).map fun r => (.d r.1, r.2) := by simp only [law_are_prices_c1, ev_lc, lcM_opd]
abbrev E_law_are_prices (menu costs value columns j : Sl := .no) : En := [menu, costs, value, columns, j]
def b__law_are_prices : List C := [(.ife (.not (.call 34 [(.var 2), (.blt .len [(.idx (.var 0) (.cst (.int 0)))])])) [(.ret (.cst (.bool false)))] []),
    (.asg (.nm 3) (.call 36 [(.var 0)])),
    (.ret (.blt .all [law_are_prices_c1]))]
def i__law_are_prices : FnI := ⟨"_law_are_prices", top 50, ["menu", "costs", "value"], ["menu", "costs", "value", "columns", "j"], b__law_are_prices, false⟩
/- [_law_dot(row, value)[0]  -/
def law_is_saving_c1 : E := (.lc (.nm 3) .seq [(.idx (.var 0) (.cst (.int 1)))] [] (.cmp .GtE (.idx (.call 31 [(.var 3), (.var 2)]) (.cst (.int 0))) (.cst (.int 0))) [3])
@[simp] theorem law_is_saving_c1_o (P : Ph) (env : En) : (ev P law_is_saving_c1).opd env = (frzM (ev P law_is_saving_c1).val env).map fun r => (.d r.1, r.2) := by simp only [law_is_saving_c1, ev_lc, lcM_opd]
abbrev E_law_is_saving (menu costs value row : Sl := .no) : En := [menu, costs, value, row]
def b__law_is_saving : List C := [(.ife (.not (.call 34 [(.var 2), (.blt .len [(.call 36 [(.var 0)])])])) [(.ret (.cst (.bool false)))] []),
    (.ret (.bop .And [(.blt .all [law_is_saving_c1]), (.cmp .Lt (.idx (.call 31 [(.var 1), (.var 2)]) (.cst (.int 0))) (.cst (.int 0)))]))]
def i__law_is_saving : FnI := ⟨"_law_is_saving", top 51, ["menu", "costs", "value"], ["menu", "costs", "value", "row"], b__law_is_saving, false⟩
/- [_law_is_ratio(part) for  -/
def law_is_menu_c1 : E := (.lc (.nm 1) .seq [(.idx (.var 0) (.cst (.int 0)))] [] (.call 32 [(.var 1)]) [1])
@[simp] theorem law_is_menu_c1_o (P : Ph) (env : En) : (ev P law_is_menu_c1).opd env = (frzM (ev P law_is_menu_c1).val env).map fun r => (.d r.1, r.2) := by simp only [law_is_menu_c1, ev_lc, lcM_opd]
/- [_law_is_ratio(part) for  -/
def law_is_menu_c2 : E := (.lc (.nm 1) .seq [(.var 2)] [] (.call 32 [(.var 1)]) [1])
@[simp] theorem law_is_menu_c2_o (P : Ph) (env : En) : (ev P law_is_menu_c2).opd env = (frzM (ev P law_is_menu_c2).val env).map fun r => (.d r.1, r.2) := by simp only [law_is_menu_c2, ev_lc, lcM_opd]
def law_is_menu_l1 : List C := [(.ife (.bop .Or [(.not (.isi (.var 2) .tuple)), (.cmp .Gt (.blt .len [(.var 2)]) (.cst (.int 8))), (.not (.isi (.idx (.idx (.var 0) (.cst (.int 1))) (.cst (.int 0))) .tuple)), (.cmp .NotEq (.blt .len [(.var 2)]) (.blt .len [(.idx (.idx (.var 0) (.cst (.int 1))) (.cst (.int 0)))])), (.not (.blt .all [law_is_menu_c2]))]) [(.ret (.cst (.bool false)))] [])]
abbrev E_law_is_menu (value part row : Sl := .no) : En := [value, part, row]
def b__law_is_menu : List C := [(.ife (.bop .Or [(.not (.isi (.var 0) .tuple)), (.cmp .NotEq (.blt .len [(.var 0)]) (.cst (.int 2))), (.not (.isi (.idx (.var 0) (.cst (.int 0))) .tuple)), (.not (.isi (.idx (.var 0) (.cst (.int 1))) .tuple))]) [(.ret (.cst (.bool false)))] []),
    (.ife (.bop .Or [(.cmp .Gt (.blt .len [(.idx (.var 0) (.cst (.int 0)))]) (.cst (.int 8))), (.cmp .NotEq (.blt .len [(.idx (.var 0) (.cst (.int 1)))]) (.blt .len [(.idx (.var 0) (.cst (.int 0)))])), (.not (.blt .all [law_is_menu_c1]))]) [(.ret (.cst (.bool false)))] []),
    (.fr (.nm 2) .seq [(.idx (.var 0) (.cst (.int 1)))] law_is_menu_l1),
    (.ret (.cst (.bool true)))]
def i__law_is_menu : FnI := ⟨"_law_is_menu", top 52, ["value"], ["value", "part", "row"], b__law_is_menu, false⟩
/- [_law_some(box, 0, 4) for -/
def law_fine_c1 : E := (.lc (.nm 7) .rng [(.var 5)] [] (.callB 33 0 [(.cst (.int 0)), (.cst (.int 4))]) [7])
@[simp] theorem law_fine_c1_o (P : Ph) (env : En) : (ev P law_fine_c1).opd env = (frzM (ev P law_fine_c1).val env).map fun r => (.d r.1, r.2) := by simp only [law_fine_c1, ev_lc, lcM_opd]
/- [_law_some(box, 0, 2) for -/
def law_fine_c2 : E := (.lc (.nm 9) .rng [(.var 3)] [] (.callB 33 0 [(.cst (.int 0)), (.cst (.int 2))]) [9])
@[simp] theorem law_fine_c2_o (P : Ph) (env : En) : (ev P law_fine_c2).opd env = (frzM (ev P law_fine_c2).val env).map fun r => (.d r.1, r.2) := by simp only [law_fine_c2, ev_lc, lcM_opd]
/- [_law_dot(row, amounts) f -/
def law_fine_c3 : E := (.lc (.nm 11) .seq [(.idx (.var 1) (.cst (.int 1)))] [] (.call 31 [(.var 11), (.var 6)]) [11])
@[simp] theorem law_fine_c3_o (P : Ph) (env : En) : (ev P law_fine_c3).opd env = (frzM (ev P law_fine_c3).val env).map fun r => (.d r.1, r.2) := by simp only [law_fine_c3, ev_lc, lcM_opd]
/- [_law_dot(prices, column) -/
def law_fine_c4 : E := (.lc (.nm 13) .seq [(.var 4)] [] (.call 31 [(.var 8), (.var 13)]) [13])
@[simp] theorem law_fine_c4_o (P : Ph) (env : En) : (ev P law_fine_c4).opd env = (frzM (ev P law_fine_c4).val env).map fun r => (.d r.1, r.2) := by simp only [law_fine_c4, ev_lc, lcM_opd]
/- [_law_plus(given[i], (-me -/
def law_fine_c5 : E := (.lc (.nm 9) .rng [(.var 3)] [] (.call 28 [(.idx (.var 10) (.var 9)), (.tup [(.neg (.idx (.idx (.idx (.var 1) (.cst (.int 0))) (.var 9)) (.cst (.int 0)))), (.idx (.idx (.idx (.var 1) (.cst (.int 0))) (.var 9)) (.cst (.int 1)))])]) [9])
@[simp] theorem law_fine_c5_o (P : Ph) (env : En) : (ev P law_fine_c5).opd env = (frzM (ev P law_fine_c5).val env).map fun r => (.d r.1, r.2) := by simp only [law_fine_c5, ev_lc, lcM_opd]
/- [more[i] == (0, 1) or pri -/
def law_fine_c6 : E := (.lc (.nm 9) .rng [(.var 3)] [] (.bop .Or [(.cmp .Eq (.idx (.var 14) (.var 9)) (.tup [(.cst (.int 0)), (.cst (.int 1))])), (.cmp .Eq (.idx (.var 8) (.var 9)) (.tup [(.cst (.int 0)), (.cst (.int 1))]))]) [9])
@[simp] theorem law_fine_c6_o (P : Ph) (env : En) : (ev P law_fine_c6).opd env = (frzM (ev P law_fine_c6).val env).map fun r => (.d r.1, r.2) := by simp only [law_fine_c6, ev_lc, lcM_opd]
/- [costs[j] == worths[j] or -/
def law_fine_c7 : E := (.lc (.nm 7) .rng [(.var 5)] [] (.bop .Or [(.cmp .Eq (.idx (.var 2) (.var 7)) (.idx (.var 12) (.var 7))), (.cmp .Eq (.idx (.var 6) (.var 7)) (.tup [(.cst (.int 0)), (.cst (.int 1))]))]) [7])
@[simp] theorem law_fine_c7_o (P : Ph) (env : En) : (ev P law_fine_c7).opd env = (frzM (ev P law_fine_c7).val env).map fun r => (.d r.1, r.2) := by simp only [law_fine_c7, ev_lc, lcM_opd]
/- [_law_is_ratio(part) for  -/
def law_fine_c8 : E := (.lc (.nm 20) .seq [(.var 17)] [] (.call 32 [(.var 20)]) [20])
@[simp] theorem law_fine_c8_o (P : Ph) (env : En) : (ev P law_fine_c8).opd env = (frzM (ev P law_fine_c8).val env).map fun r => (.d r.1, r.2) := by simp only [law_fine_c8, ev_lc, lcM_opd]
def law_fine_l1 : List C := [(.asg (.nm 19) (.tup [(.call 37 [(.var 1), (.var 17)]), (.call 38 [(.var 1), (.var 17)]), (.call 39 [(.var 1), (.var 2), (.var 17)]), (.call 40 [(.var 1), (.var 2), (.var 17)])])),
    (.ife (.not (.call 24 [(.tup [(.call 15 [(.var 1), (.var 17)]), (.call 16 [(.var 1), (.var 17)]), (.call 17 [(.var 1), (.var 2), (.var 17)]), (.call 18 [(.var 1), (.var 2), (.var 17)])]), (.var 19)])) [(.ret (.cst (.bool false)))] []),
    (.ife (.not (.call 24 [(.call 8 [(.var 17), (.var 5)]), (.bop .And [(.isi (.var 17) .tuple), (.cmp .Eq (.blt .len [(.var 17)]) (.var 5)), (.blt .all [law_fine_c8])])])) [(.ret (.cst (.bool false)))] [])]
/- [_law_bent(box, amounts)  -/
def law_fine_c9 : E := (.lc (.nm 18) .rng [(.cst (.int 5))] [] (.callB 25 0 [(.var 6)]) [18])
@[simp] theorem law_fine_c9_o (P : Ph) (env : En) : (ev P law_fine_c9).opd env = (frzM (ev P law_fine_c9).val env).map fun r => (.d r.1, r.2) := by simp only [law_fine_c9, ev_lc, lcM_opd]
/- [_law_bent(box, prices) f -/
def law_fine_c10 : E := (.lc (.nm 18) .rng [(.cst (.int 5))] [] (.callB 25 0 [(.var 8)]) [18])
@[simp] theorem law_fine_c10_o (P : Ph) (env : En) : (ev P law_fine_c10).opd env = (frzM (ev P law_fine_c10).val env).map fun r => (.d r.1, r.2) := by simp only [law_fine_c10, ev_lc, lcM_opd]
/- [part[0] >= 0 for part in -/
def law_fine_c11 : E := (.lc (.nm 20) .seq [(.idx (.var 1) (.cst (.int 0)))] [] (.cmp .GtE (.idx (.var 20) (.cst (.int 0))) (.cst (.int 0))) [20])
@[simp] theorem law_fine_c11_o (P : Ph) (env : En) : (ev P law_fine_c11).opd env = (frzM (ev P law_fine_c11).val env).map fun r => (.d r.1, r.2) := by simp only [law_fine_c11, ev_lc, lcM_opd]
abbrev E_law_fine (box menu costs m columns n amounts j prices i given row worths column more fits rows value k due part : Sl := .no) : En := [box, menu, costs, m, columns, n, amounts, j, prices, i, given, row, worths, column, more, fits, rows, value, k, due, part]
def b__law_fine : List C := [(.asg (.tp [(.nm 3), (.nm 4)]) (.tup [(.blt .len [(.idx (.var 1) (.cst (.int 0)))]), (.call 36 [(.var 1)])])),
    (.asg (.nm 5) (.blt .len [(.var 4)])),
    (.asg (.nm 6) (.blt .tuple [law_fine_c1])),
    (.asg (.nm 8) (.blt .tuple [law_fine_c2])),
    (.asg (.nm 10) (.blt .tuple [law_fine_c3])),
    (.asg (.nm 12) (.blt .tuple [law_fine_c4])),
    (.ife (.not (.call 24 [(.tup [(.call 10 [(.var 1)]), (.call 13 [(.var 1), (.var 6)]), (.call 14 [(.var 1), (.var 8)])]), (.tup [(.var 5), (.var 10), (.var 12)])])) [(.ret (.cst (.bool false)))] []),
    (.asg (.nm 14) (.blt .tuple [law_fine_c5])),
    (.ife (.not (.call 24 [(.tup [(.call 19 [(.var 1), (.var 6)]), (.call 12 [(.var 2), (.var 6)])]), (.tup [(.var 14), (.call 31 [(.var 2), (.var 6)])])])) [(.ret (.cst (.bool false)))] []),
    (.asg (.nm 15) (.bop .And [(.blt .all [law_fine_c6]), (.blt .all [law_fine_c7])])),
    (.ife (.not (.call 24 [(.call 20 [(.var 1), (.var 2), (.var 6), (.var 8)]), (.var 15)])) [(.ret (.cst (.bool false)))] []),
    (.asg (.nm 16) (.lst [(.var 6), (.var 8), (.bin .Mult (.tup [(.cst (.int 0))]) (.var 5)), (.bin .Mult (.tup [(.tup [(.cst (.int 0)), (.cst (.int 1))])]) (.var 5)), (.bin .Mult (.tup [(.tup [(.cst (.int 0)), (.cst (.int 1))])]) (.var 3)), (.bin .Mult (.tup [(.tup [(.cst (.int 9)), (.cst (.int 1))])]) (.var 5)), (.slc (.var 6) [] [(.neg (.cst (.int 1)))]), (.bin .Add (.var 6) (.tup [(.tup [(.cst (.int 0)), (.cst (.int 1))])])), (.bin .Mult (.tup [(.tup [(.neg (.cst (.int 1))), (.cst (.int 1))])]) (.var 5)), (.bin .Mult (.tup [(.tup [(.cst (.int 2)), (.cst (.int 2))])]) (.var 5)), (.cst .none), (.tup []), (.cst (.int 0))])),
    (.fr (.nm 17) .seq [(.bin .Add (.bin .Add (.var 16) law_fine_c9) law_fine_c10)] law_fine_l1),
    (.ret (.call 24 [(.call 11 [(.idx (.var 1) (.cst (.int 0)))]), (.blt .all [law_fine_c11])]))]
def i__law_fine : FnI := ⟨"_law_fine", top 53, ["box", "menu", "costs"], ["box", "menu", "costs", "m", "columns", "n", "amounts", "j", "prices", "i", "given", "row", "worths", "column", "more", "fits", "rows", "value", "k", "due", "part"], b__law_fine, true⟩
/- [_law_some(box, -2, 6) fo -/
def law_c1 : E := (.lc (.nm 5) .seq [(.call 36 [(.var 3)])] [] (.callB 33 1 [(.neg (.cst (.int 2))), (.cst (.int 6))]) [5])
@[simp] theorem law_c1_o (P : Ph) (env : En) : (ev P law_c1).opd env = (frzM (ev P law_c1).val env).map fun r => (.d r.1, r.2) := by simp only [law_c1, ev_lc, lcM_opd]
def law_l1 : List C := [(.ife (.not (.call 24 [(.call 9 [(.var 8)]), (.call 41 [(.var 8)])])) [(.ret (.cst (.bool false)))] [])]
/- [_law_bent(box, menu) for -/
def law_c2 : E := (.lc (.nm 9) .rng [(.cst (.int 8))] [] (.callB 25 1 [(.var 3)]) [9])
@[simp] theorem law_c2_o (P : Ph) (env : En) : (ev P law_c2).opd env = (frzM (ev P law_c2).val env).map fun r => (.d r.1, r.2) := by simp only [law_c2, ev_lc, lcM_opd]
def law_l2 : List C := [(.ife (.not (.call 24 [(.call 21 [(.var 8), (.cst (.int 4))]), (.bop .And [(.isi (.var 8) .int), (.not (.isi (.var 8) .bool)), (.chn .LtE .Lt (.cst (.int 0)) (.var 8) (.cst (.int 4)))])])) [(.ret (.cst (.bool false)))] [])]
def law_l3 : List C := [(.asg (.nm 3) (.callB 35 1 [(.callB 23 1 [(.cst (.int 5))]), (.callB 23 1 [(.cst (.int 5))]), (.neg (.cst (.int 2)))])),
    (.asg (.nm 4) (.blt .tuple [law_c1])),
    (.ife (.not (.callB 42 1 [(.var 3), (.var 4)])) [(.ret (.cst (.bool false)))] []),
    (.asg (.nm 6) (.tup [(.tup [(.tup [(.cst (.int 0)), (.cst (.int 1))])]), (.tup [(.bin .Mult (.tup [(.tup [(.cst (.int 1)), (.cst (.int 1))])]) (.cst (.int 8)))])])),
    (.asg (.nm 7) (.lst [(.var 3), (.rev (.var 3)), (.tup [(.idx (.var 3) (.cst (.int 0))), (.slc (.idx (.var 3) (.cst (.int 1))) [(.cst (.int 1))] [])]), (.tup [(.bin .Add (.idx (.var 3) (.cst (.int 0))) (.tup [(.tup [(.cst (.int 1)), (.cst (.int 1))])])), (.idx (.var 3) (.cst (.int 1)))]), (.tup [(.bin .Mult (.tup [(.tup [(.cst (.int 0)), (.cst (.int 1))])]) (.cst (.int 8))), (.bin .Mult (.tup [(.tup [])]) (.cst (.int 8)))]), (.tup [(.bin .Mult (.tup [(.tup [(.cst (.int 0)), (.cst (.int 1))])]) (.cst (.int 9))), (.bin .Mult (.tup [(.tup [])]) (.cst (.int 9)))]), (.var 6)])),
    (.fr (.nm 8) .seq [(.bin .Add (.bin .Add (.var 7) (.lst [(.tup [(.tup [(.tup [(.cst (.int 0)), (.cst (.int 1))])]), (.tup [(.bin .Mult (.tup [(.tup [(.cst (.int 1)), (.cst (.int 1))])]) (.cst (.int 9)))])]), (.tup [(.tup []), (.tup [])]), (.cst .none), (.tup []), (.cst (.int 0))])) law_c2)] law_l1),
    (.fr (.nm 8) .seq [(.tup [(.cst (.int 0)), (.cst (.int 3)), (.cst (.int 4)), (.neg (.cst (.int 1))), (.cst (.bool true)), (.cst .none)])] law_l2)]
abbrev E_law (script box turn menu costs column wide values value k : Sl := .no) : En := [script, box, turn, menu, costs, column, wide, values, value, k]
def b_law : List C := [(.asg (.nm 1) (.callS 22 0)),
    (.ife (.cmp .NotEq (.tup [(.cst (.int 8)), (.cst (.int 8))]) (.tup [(.cst (.int 8)), (.cst (.int 8))])) [(.ret (.cst (.bool false)))] []),
    (.fr (.nm 2) .rng [(.cst (.int 4))] law_l3),
    (.ret (.cst (.bool true)))]
def i_law : FnI := ⟨"law", top 54, ["script"], ["script", "box", "turn", "menu", "costs", "column", "wide", "values", "value", "k"], b_law, false⟩
def es : List Mini.Entry := [.user i_is_whole, .user i_common_divisor, .user i_is_ratio, .user i_ratio, .user i_plus, .user i_times, .user i_less, .user i_sum_of, .user i_are_ratios, .user i_is_menu, .user i_dishes_of, .user i_are_above, .user i_dot, .user i_given_by, .user i_worth_of_dishes, .user i_are_amounts, .user i_is_bar, .user i_are_prices, .user i_is_saving, .user i_over_needs, .user i_go_together, .user i_is_index, .prim 0 primBox, .prim 1 primDraw, .user i__law_same, .user i__law_bent, .user i__law_divisor, .user i__law_ratio, .user i__law_plus, .user i__law_times, .user i__law_less, .user i__law_dot, .user i__law_is_ratio, .user i__law_some, .user i__law_row, .user i__law_menu, .user i__law_columns, .user i__law_are_amounts, .user i__law_is_bar, .user i__law_are_prices, .user i__law_is_saving, .user i__law_is_menu, .user i__law_fine, .user i_law]
def fns : List Str := [("is_whole" : Str), ("common_divisor" : Str), ("is_ratio" : Str), ("ratio" : Str), ("plus" : Str), ("times" : Str), ("less" : Str), ("sum_of" : Str), ("are_ratios" : Str), ("is_menu" : Str), ("dishes_of" : Str), ("are_above" : Str), ("dot" : Str), ("given_by" : Str), ("worth_of_dishes" : Str), ("are_amounts" : Str), ("is_bar" : Str), ("are_prices" : Str), ("is_saving" : Str), ("over_needs" : Str), ("go_together" : Str), ("is_index" : Str), ("_law_box" : Str), ("_law_draw" : Str), ("_law_same" : Str), ("_law_bent" : Str), ("_law_divisor" : Str), ("_law_ratio" : Str), ("_law_plus" : Str), ("_law_times" : Str), ("_law_less" : Str), ("_law_dot" : Str), ("_law_is_ratio" : Str), ("_law_some" : Str), ("_law_row" : Str), ("_law_menu" : Str), ("_law_columns" : Str), ("_law_are_amounts" : Str), ("_law_is_bar" : Str), ("_law_are_prices" : Str), ("_law_is_saving" : Str), ("_law_is_menu" : Str), ("_law_fine" : Str), ("law" : Str)]
def gls : List (Str × D) := [("ZERO", (.tuple [(.int 0), (.int 1)])), ("MAX_THINGS", (.int 8)), ("MAX_DISHES", (.int 8))]
theorem k_is_whole : fnB fns gls i_is_whole = true := by decide +kernel
theorem k_common_divisor : fnB fns gls i_common_divisor = true := by decide +kernel
theorem k_is_ratio : fnB fns gls i_is_ratio = true := by decide +kernel
theorem k_ratio : fnB fns gls i_ratio = true := by decide +kernel
theorem k_plus : fnB fns gls i_plus = true := by decide +kernel
theorem k_times : fnB fns gls i_times = true := by decide +kernel
theorem k_less : fnB fns gls i_less = true := by decide +kernel
theorem k_sum_of : fnB fns gls i_sum_of = true := by decide +kernel
theorem k_are_ratios : fnB fns gls i_are_ratios = true := by decide +kernel
theorem k_is_menu : fnB fns gls i_is_menu = true := by decide +kernel
theorem k_dishes_of : fnB fns gls i_dishes_of = true := by decide +kernel
theorem k_are_above : fnB fns gls i_are_above = true := by decide +kernel
theorem k_dot : fnB fns gls i_dot = true := by decide +kernel
theorem k_given_by : fnB fns gls i_given_by = true := by decide +kernel
theorem k_worth_of_dishes : fnB fns gls i_worth_of_dishes = true := by decide +kernel
theorem k_are_amounts : fnB fns gls i_are_amounts = true := by decide +kernel
theorem k_is_bar : fnB fns gls i_is_bar = true := by decide +kernel
theorem k_are_prices : fnB fns gls i_are_prices = true := by decide +kernel
theorem k_is_saving : fnB fns gls i_is_saving = true := by decide +kernel
theorem k_over_needs : fnB fns gls i_over_needs = true := by decide +kernel
theorem k_go_together : fnB fns gls i_go_together = true := by decide +kernel
theorem k_is_index : fnB fns gls i_is_index = true := by decide +kernel
theorem k__law_same : fnB fns gls i__law_same = true := by decide +kernel
theorem k__law_bent : fnB fns gls i__law_bent = true := by decide +kernel
theorem k__law_divisor : fnB fns gls i__law_divisor = true := by decide +kernel
theorem k__law_ratio : fnB fns gls i__law_ratio = true := by decide +kernel
theorem k__law_plus : fnB fns gls i__law_plus = true := by decide +kernel
theorem k__law_times : fnB fns gls i__law_times = true := by decide +kernel
theorem k__law_less : fnB fns gls i__law_less = true := by decide +kernel
theorem k__law_dot : fnB fns gls i__law_dot = true := by decide +kernel
theorem k__law_is_ratio : fnB fns gls i__law_is_ratio = true := by decide +kernel
theorem k__law_some : fnB fns gls i__law_some = true := by decide +kernel
theorem k__law_row : fnB fns gls i__law_row = true := by decide +kernel
theorem k__law_menu : fnB fns gls i__law_menu = true := by decide +kernel
theorem k__law_columns : fnB fns gls i__law_columns = true := by decide +kernel
theorem k__law_are_amounts : fnB fns gls i__law_are_amounts = true := by decide +kernel
theorem k__law_is_bar : fnB fns gls i__law_is_bar = true := by decide +kernel
theorem k__law_are_prices : fnB fns gls i__law_are_prices = true := by decide +kernel
theorem k__law_is_saving : fnB fns gls i__law_is_saving = true := by decide +kernel
theorem k__law_is_menu : fnB fns gls i__law_is_menu = true := by decide +kernel
theorem k__law_fine : fnB fns gls i__law_fine = true := by decide +kernel
theorem k_law : fnB fns gls i_law = true := by decide +kernel
end Law

namespace Law
open PySem PySem.Spec L2 Mini
section
abbrev R2 (x y : Int) : D := .tuple [.int x, .int y]
def isI : D → Bool
  | .int _ => true
  | _ => false
def isR : D → Bool
  | .tuple [.int a, .int b] => decide (0 < b) && decide (Int.gcd a b = 1)
  | _ => false
theorem whole_r {d : Nat} (hd : 1 ≤ d) (v : D) : retOf (callN (tbOf es) d) 0 [.v v] = some (.v (.bool (isI v))) := by
  obtain ⟨d, rfl, _⟩ := lev (c := 0) hd
  refine fn_go (i := i_is_whole) rfl rfl rfl (.rtOf (f := E_is_whole (value := .v v)) ?_)
  generalize callN (tbOf es) d = P
  show exs P b_is_whole (E_is_whole (value := .v v)) = _
  cases v <;> simp [b_is_whole, isI, isi_dict]
theorem gcd_r {d : Nat} (hd : 1 ≤ d) (x y : Int) : retOf (callN (tbOf es) d) 1 [.v (.int x), .v (.int y)] = some (.v (.int (Int.gcd x y))) := by
  obtain ⟨d, rfl, _⟩ := lev (c := 0) hd
  refine ret_user (i := i_common_divisor) rfl rfl rfl (e := [.v (.int (Int.gcd x y)), .v (.int 0)]) ?_
  simp only [i_common_divisor, b_common_divisor, common_divisor_l1]
  have := gcd_w (callN (tbOf es) d) _ x.natAbs y.natAbs (Nat.le_refl _)
  simp [sizeLine, Int.gcd] at this ⊢
  rw [this]
  simp
theorem ratio_r {d : Nat} (hd : 2 ≤ d) (p q : Int) (h : q ≠ 0) (s : Sm q) : retOf (callN (tbOf es) d) 3 [.v (.int p), .v (.int q)] = some (.v (R2 (rp p q) (rq p q))) := by
  obtain ⟨d, rfl, hd'⟩ := lev (c := 1) hd
  have dd := g_div (p := p) h s
  have g := fun x y => gcd_r hd' x y
  by_cases l : q < 0
  · refine ret_user (i := i_ratio) rfl rfl rfl (e := [.v (.int (-p)), .v (.int (-q)), .v (.int (Int.gcd p q))]) ?_
    simp only [i_ratio, b_ratio]
    generalize callN (tbOf es) d = P at g ⊢
    simp [sizeLine, h, l, g, rp, rq, dd]
  · refine ret_user (i := i_ratio) rfl rfl rfl (e := [.v (.int p), .v (.int q), .v (.int (Int.gcd p q))]) ?_
    simp only [i_ratio, b_ratio]
    generalize callN (tbOf es) d = P at g ⊢
    simp [sizeLine, h, l, g, rp, rq, dd]
theorem divisor_r {d : Nat} (hd : 1 ≤ d) (x y : Int) (hx : 0 ≤ x) (hy : 0 ≤ y) (sx : Sm x) (sy : Sm y) : retOf (callN (tbOf es) d) 26 [.v (.int x), .v (.int y)] = some (.v (.int (Int.gcd x y))) := by
  obtain ⟨d, rfl, _⟩ := lev (c := 0) hd
  refine ret_user (i := i__law_divisor) rfl rfl rfl (e := [.v (.int (Int.gcd x y)), .v (.int 0)]) ?_
  simp only [i__law_divisor, b__law_divisor, law_divisor_l1]
  have := div_w (callN (tbOf es) d) _ x.natAbs y.natAbs (Nat.le_refl _) (sx.le (by simp)) (sy.le (by simp))
  rw [show ((x.natAbs : Nat) : Int) = x by omega, show ((y.natAbs : Nat) : Int) = y by omega] at this
  simp [sizeLine, Int.gcd] at this ⊢
  rw [this]
  simp
theorem lratio_r {d : Nat} (hd : 2 ≤ d) (p q : Int) (h : q ≠ 0) (sp : Sm p) (s : Sm q) : retOf (callN (tbOf es) d) 27 [.v (.int p), .v (.int q)] = some (.v (R2 (rp p q) (rq p q))) := by
  obtain ⟨d, rfl, hd'⟩ := lev (c := 1) hd
  have dd := g_div (p := p) h s
  have g := divisor_r hd' (p.natAbs : Int) (q.natAbs : Int) (by omega) (by omega) (sp.le (by simp)) (s.le (by simp))
  have eg : Int.gcd (p.natAbs : Int) (q.natAbs : Int) = Int.gcd p q := by simp [Int.gcd]
  rw [eg] at g
  refine ret_user (i := i__law_ratio) rfl rfl rfl (e := [.v (.int p), .v (.int q), .v (.int (Int.gcd p q))]) ?_
  simp only [i__law_ratio, b__law_ratio]
  generalize callN (tbOf es) d = P at g ⊢
  by_cases l : q < 0
  · have l2 : ¬ 0 < q := by omega
    simp [sizeLine, l, l2, g, rp, rq, dd]
  · have l2 : 0 < q := by omega
    simp [sizeLine, l, l2, g, rp, rq, dd]
section
variable {a b c d : Int} {m n : Nat} (h1 : Rat2 a b m) (h2 : Rat2 c d n) (hn : m + n ≤ 3000)
include h1 h2 hn
theorem two_ok : mulOk a d ∧ mulOk c b ∧ mulOk b d ∧ mulOk a c ∧ b * d ≠ 0 ∧ 0 < b * d ∧ Sm (b * d) ∧ Sm (a * d + c * b) ∧ Sm (a * c) := by
  have s1 := bd_mul h1.q h2.q
  have s2 := bd_mul h1.p h2.q
  have s3 := bd_mul h2.p h1.q
  rw [Nat.add_comm] at s3
  have s4 := bd_mul h1.p h2.p
  have pp := Int.mul_pos h1.pos h2.pos
  exact ⟨(sm_of h1.p (by omega)).mul (sm_of h2.q (by omega)), (sm_of h2.p (by omega)).mul (sm_of h1.q (by omega)), (sm_of h1.q (by omega)).mul (sm_of h2.q (by omega)), (sm_of h1.p (by omega)).mul (sm_of h2.p (by omega)), by omega, pp, sm_of s1 (by omega), sm_of (bd_add s2 s3) (by omega), sm_of s4 (by omega)⟩
theorem plus_r {k : Nat} (hk : 3 ≤ k) : retOf (callN (tbOf es) k) 4 [.v (R2 a b), .v (R2 c d)] = some (.v (R2 (rp (a * d + c * b) (b * d)) (rq (a * d + c * b) (b * d)))) := by
  obtain ⟨m1, m2, m3, m4, nz, ps, q1, q2, q4⟩ := two_ok h1 h2 hn
  obtain ⟨k, rfl, hk'⟩ := lev (c := 2) hk
  have r := ratio_r hk' (a * d + c * b) _ nz q1
  refine ret_user (i := i_plus) rfl rfl rfl (e := [.v (R2 a b), .v (R2 c d)]) ?_
  simp only [i_plus, b_plus]
  generalize callN (tbOf es) k = P at r ⊢
  simp [m1, m2, m3, r]
theorem times_r {k : Nat} (hk : 3 ≤ k) : retOf (callN (tbOf es) k) 5 [.v (R2 a b), .v (R2 c d)] = some (.v (R2 (rp (a * c) (b * d)) (rq (a * c) (b * d)))) := by
  obtain ⟨m1, m2, m3, m4, nz, ps, q1, q2, q4⟩ := two_ok h1 h2 hn
  obtain ⟨k, rfl, hk'⟩ := lev (c := 2) hk
  have r := ratio_r hk' (a * c) _ nz q1
  refine ret_user (i := i_times) rfl rfl rfl (e := [.v (R2 a b), .v (R2 c d)]) ?_
  simp only [i_times, b_times]
  generalize callN (tbOf es) k = P at r ⊢
  simp [m3, m4, r]
theorem less_r {k : Nat} (hk : 1 ≤ k) : retOf (callN (tbOf es) k) 6 [.v (R2 a b), .v (R2 c d)] = some (.v (.bool (decide (a * d < c * b)))) := by
  obtain ⟨m1, m2, m3, m4, nz, ps, q1, q2, q4⟩ := two_ok h1 h2 hn
  obtain ⟨k, rfl, hk'⟩ := lev (c := 0) hk
  refine ret_user (i := i_less) rfl rfl rfl (e := [.v (R2 a b), .v (R2 c d)]) ?_
  simp only [i_less, b_less]
  generalize callN (tbOf es) k = P
  simp [m1, m2]
theorem lplus_r {k : Nat} (hk : 3 ≤ k) : retOf (callN (tbOf es) k) 28 [.v (R2 a b), .v (R2 c d)] = some (.v (R2 (rp (a * d + c * b) (b * d)) (rq (a * d + c * b) (b * d)))) := by
  obtain ⟨m1, m2, m3, m4, nz, ps, q1, q2, q4⟩ := two_ok h1 h2 hn
  obtain ⟨k, rfl, hk'⟩ := lev (c := 2) hk
  have r := lratio_r hk' (a * d + c * b) _ nz q2 q1
  refine ret_user (i := i__law_plus) rfl rfl rfl (e := [.v (R2 a b), .v (R2 c d)]) ?_
  simp only [i__law_plus, b__law_plus]
  generalize callN (tbOf es) k = P at r ⊢
  simp [m1, m2, m3, r]
theorem ltimes_r {k : Nat} (hk : 3 ≤ k) : retOf (callN (tbOf es) k) 29 [.v (R2 a b), .v (R2 c d)] = some (.v (R2 (rp (a * c) (b * d)) (rq (a * c) (b * d)))) := by
  obtain ⟨m1, m2, m3, m4, nz, ps, q1, q2, q4⟩ := two_ok h1 h2 hn
  obtain ⟨k, rfl, hk'⟩ := lev (c := 2) hk
  have r := lratio_r hk' (a * c) _ nz q4 q1
  refine ret_user (i := i__law_times) rfl rfl rfl (e := [.v (R2 a b), .v (R2 c d)]) ?_
  simp only [i__law_times, b__law_times]
  generalize callN (tbOf es) k = P at r ⊢
  simp [m3, m4, r]
theorem lless_r {k : Nat} (hk : 1 ≤ k) : retOf (callN (tbOf es) k) 30 [.v (R2 a b), .v (R2 c d)] = some (.v (.bool (decide (a * d < c * b)))) := by
  obtain ⟨m1, m2, m3, m4, nz, ps, q1, q2, q4⟩ := two_ok h1 h2 hn
  obtain ⟨k, rfl, hk'⟩ := lev (c := 0) hk
  refine ret_user (i := i__law_less) rfl rfl rfl (e := [.v (R2 a b), .v (R2 c d)]) ?_
  simp only [i__law_less, b__law_less]
  generalize callN (tbOf es) k = P
  simp [m1, m2]
end
end
end Law

namespace Law
open PySem PySem.Spec L2 Mini
section
theorem rtF {P : Ph} {c : E} {cs : List C} {e e1 : En} (h : (ev P c).tst e = some (true, e1)) : Go P (.ife c [.ret (.cst (.bool false))] [] :: cs) e (.rt (.v (.bool false))) :=
  Go.ife (k := true) (e1 := e1) h (Go.ret (f := .cst .none) (en2 := e1) rfl)
theorem nxF {P : Ph} {c : E} {bs cs : List C} {e e1 : En} {q : Oc} (h : (ev P c).tst e = some (false, e1)) (g : Go P cs e1 q) : Go P (.ife c bs [] :: cs) e q :=
  Go.ife (k := false) (e1 := e1) h g
theorem all_tst {P : Ph} {c : E} {e : En} {bs : List D} {b : Bool} (ho : (ev P c).opd e = (frzM (ev P c).val e).map fun r => (.d r.1, r.2)) (c1 : (ev P c).val e = some (.l bs, e)) (h : (boolsL bs).map (fun bs => bs.all id) = some b) : (ev P (.blt .all [c])).tst e = some (b, e) ∧ (ev P (.blt .all [c])).val e = some (.v (.bool b), e) := by
  obtain ⟨B, h2, h3⟩ := Option.map_eq_some_iff.mp h
  constructor
  · simp only [ev_blt, evs_cons, evs_nil, bltM_eq, ofVal_tst, trM_eq, opsM_cons, opsM_nil, ho, frzM_eq, c1, Option.bind_some, frz_l, Option.map_some, gets_cons, gets_nil, get_d, all_l, h2, h3, frz_v, truth_bool]
  · simp only [ev_blt, evs_cons, evs_nil, bltM_eq, ofVal_val, opsM_cons, opsM_nil, ho, frzM_eq, c1, Option.bind_some, frz_l, Option.map_some, gets_cons, gets_nil, get_d, all_l, h2, h3]
theorem any_tst {P : Ph} {c : E} {e : En} {bs : List D} {b : Bool} (ho : (ev P c).opd e = (frzM (ev P c).val e).map fun r => (.d r.1, r.2)) (c1 : (ev P c).val e = some (.l bs, e)) (h : (boolsL bs).map (fun bs => bs.any id) = some b) : (ev P (.blt .any [c])).tst e = some (b, e) ∧ (ev P (.blt .any [c])).val e = some (.v (.bool b), e) := by
  obtain ⟨B, h2, h3⟩ := Option.map_eq_some_iff.mp h
  constructor
  · simp only [ev_blt, evs_cons, evs_nil, bltM_eq, ofVal_tst, trM_eq, opsM_cons, opsM_nil, ho, frzM_eq, c1, Option.bind_some, frz_l, Option.map_some, gets_cons, gets_nil, get_d, any_l, h2, h3, frz_v, truth_bool]
  · simp only [ev_blt, evs_cons, evs_nil, bltM_eq, ofVal_val, opsM_cons, opsM_nil, ho, frzM_eq, c1, Option.bind_some, frz_l, Option.map_some, gets_cons, gets_nil, get_d, any_l, h2, h3]
theorem bmap_all {α : Type} (f : α → Bool) (xs : List α) : (boolsL (xs.map fun x => .bool (f x))).map (fun bs => bs.all id) = some (xs.all f) := by
  rw [boolsL_map, Option.map_some, List.all_map]; rfl
theorem bmap_any {α : Type} (f : α → Bool) (xs : List α) : (boolsL (xs.map fun x => .bool (f x))).map (fun bs => bs.any id) = some (xs.any f) := by
  rw [boolsL_map, Option.map_some, List.any_map]; rfl
theorem not_opd {P : Ph} {a : E} {e e1 : En} {b : Bool} (h : (ev P a).opd e = some (.d (.bool b), e1)) : (ev P (.not a)).val e = some (.v (.bool (!b)), e1) := by
  simp [h]
theorem not_any {P : Ph} {c : E} {e : En} {bs : List D} {b : Bool} (ho : (ev P c).opd e = (frzM (ev P c).val e).map fun r => (.d r.1, r.2)) (c1 : (ev P c).val e = some (.l bs, e)) (h : (boolsL bs).map (fun bs => bs.any id) = some b) : (ev P (.not (.blt .any [c]))).val e = some (.v (.bool (!b)), e) := by
  have v := (any_tst ho c1 h).2
  refine not_opd ?_
  have ho2 : (ev P (.blt .any [c])).opd e = (frzM (ev P (.blt .any [c])).val e).map fun r => (.d r.1, r.2) := by simp only [ev_blt, bltM_eq, ofVal_opd, ofVal_val]
  rw [ho2, frz_of v rfl]; rfl
theorem callT {P : Ph} {A B : E} {e : En} {a b : D} {j : Nat} {k : Bool} (ha : (ev P A).val e = some (.v a, e)) (hb : (ev P B).val e = some (.v b, e)) (h : retOf P j [.v a, .v b] = some (.v (.bool k))) : (ev P (.call j [A, B])).tst e = some (k, e) := by
  simp [ha, hb, h]
theorem tupOf {P : Ph} {A : E} {e e1 : En} {xs : List D} (ho : (ev P A).opd e = (frzM (ev P A).val e).map fun r => (.d r.1, r.2)) (c1 : (ev P A).val e = some (.l xs, e1)) : (ev P (.blt .tuple [A])).val e = some (.v (.tuple xs), e1) := by
  simp only [ev_blt, evs_cons, evs_nil, bltM_eq, ofVal_val, opsM_cons, opsM_nil, ho, frzM_eq, c1, Option.bind_some, frz_l, Option.map_some, gets_cons, gets_nil, get_d, tup_l]
/-! ratios judged -/
theorem isR_ni {a b : D} (h : isI a = false ∨ isI b = false) : isR (.tuple [a, b]) = false := by
  cases a <;> cases b <;> first | rfl | (rcases h with h | h <;> cases h)
theorem isR_len {xs : List D} (h : xs.length ≠ 2) : isR (.tuple xs) = false := by
  match xs, h with
  | [], _ => rfl
  | [a], _ => cases a <;> rfl
  | [_, _], h => exact (h rfl).elim
  | a :: b :: c :: r, _ => cases a <;> first | rfl | (cases b <;> rfl)
theorem is_ratio_r {d : Nat} (hd : 2 ≤ d) (v : D) : retOf (callN (tbOf es) d) 2 [.v v] = some (.v (.bool (isR v))) := by
  obtain ⟨d, rfl, hd'⟩ := lev (c := 1) hd
  refine fn_go (i := i_is_ratio) rfl rfl rfl ?_
  show Go (callN (tbOf es) d) b_is_ratio (E_is_ratio (value := .v v)) _
  have h0 := fun v => whole_r hd' v
  have g := fun x y => gcd_r hd' x y
  generalize callN (tbOf es) d = P at h0 g ⊢
  have nt : isiD v .tuple = false → Go P b_is_ratio (E_is_ratio (value := .v v)) (.rt (.v (.bool false))) := fun h => rtF (e1 := E_is_ratio (value := .v v)) (bop_tst (or_T (not_tst (b := false) (by simp [h]))))
  cases v with
  | tuple xs =>
    have t0 : (ev P (.not (.isi (.var 0) .tuple))).tst (E_is_ratio (value := .v (.tuple xs))) = some (false, E_is_ratio (value := .v (.tuple xs))) := not_tst (b := true) (by simp)
    by_cases hl : xs.length = 2
    · match xs, hl, t0 with
      | [a, b], _, t0 =>
        have t1 : (ev P (.cmp .NotEq (.blt .len [(.var 0)]) (.cst (.int 2)))).tst (E_is_ratio (value := .v (.tuple [a, b]))) = some (false, E_is_ratio (value := .v (.tuple [a, b]))) := by simp
        have t2 : (ev P (.not (.call 0 [(.idx (.var 0) (.cst (.int 0)))]))).tst (E_is_ratio (value := .v (.tuple [a, b]))) = some (!isI a, E_is_ratio (value := .v (.tuple [a, b]))) := not_tst (by simp [h0])
        have t3 : (ev P (.not (.call 0 [(.idx (.var 0) (.cst (.int 1)))]))).tst (E_is_ratio (value := .v (.tuple [a, b]))) = some (!isI b, E_is_ratio (value := .v (.tuple [a, b]))) := not_tst (by simp [h0])
        by_cases ia : isI a = true
        · by_cases ib : isI b = true
          · rw [ia] at t2
            rw [ib] at t3
            refine nxF (bop_tst (or_F t0 (or_F t1 (or_F t2 (or_1 t3))))) ?_
            obtain ⟨x, rfl⟩ : ∃ x, a = .int x := by cases a <;> first | exact ⟨_, rfl⟩ | cases ia
            obtain ⟨y, rfl⟩ : ∃ x, b = .int x := by cases b <;> first | exact ⟨_, rfl⟩ | cases ib
            have gg := g x y
            refine .rtOf (f := E_is_ratio (value := .v (R2 x y))) ?_
            have eq : ((Int.gcd x y : Nat) : Int) = 1 ↔ Int.gcd x y = 1 := by omega
            by_cases hy : 0 < y
            · by_cases h1 : Int.gcd x y = 1 <;> simp [isR, gg, hy, h1, eq]
            · simp [isR, hy]
          · have ib : isI b = false := by simpa using ib
            rw [isR_ni (.inr ib)]
            rw [ia] at t2
            rw [ib] at t3
            exact rtF (bop_tst (or_F t0 (or_F t1 (or_F t2 (or_1 t3)))))
        · have ia : isI a = false := by simpa using ia
          rw [isR_ni (.inl ia)]
          rw [ia] at t2
          exact rtF (bop_tst (or_F t0 (or_F t1 (or_T t2))))
    · rw [isR_len hl]
      refine rtF (bop_tst (or_F t0 (or_T (e1 := E_is_ratio (value := .v (.tuple xs))) ?_)))
      have : ¬ (xs.length : Int) = 2 := by omega
      simp [hl, this]
  | _ => exact nt rfl
theorem isR_allI {xs : List D} (h : xs.all isI = false) : isR (.tuple xs) = false := by
  by_cases hl : xs.length = 2
  · match xs, hl, h with
    | [a, b], _, h =>
      apply isR_ni
      by_cases ia : isI a = true
      · right; simpa [ia] using h
      · left; simpa using ia
  · exact isR_len hl
theorem lis_ratio_r {d : Nat} (hd : 2 ≤ d) (v : D) (hv : ∀ a b, v = R2 a b → Sm a ∧ Sm b) : retOf (callN (tbOf es) d) 32 [.v v] = some (.v (.bool (isR v))) := by
  obtain ⟨d, rfl, hd'⟩ := lev (c := 1) hd
  refine fn_go (i := i__law_is_ratio) rfl rfl rfl ?_
  show Go (callN (tbOf es) d) b__law_is_ratio (E_law_is_ratio (value := .v v)) _
  have g := fun x y => divisor_r hd' x y
  generalize callN (tbOf es) d = P at g ⊢
  have nt : isiD v .tuple = false → Go P b__law_is_ratio (E_law_is_ratio (value := .v v)) (.rt (.v (.bool false))) := fun h => rtF (e1 := E_law_is_ratio (value := .v v)) (bop_tst (or_T (not_tst (b := false) (by simp [h]))))
  cases v with
  | tuple xs =>
    have t0 : (ev P (.not (.isi (.var 0) .tuple))).tst (E_law_is_ratio (value := .v (.tuple xs))) = some (false, E_law_is_ratio (value := .v (.tuple xs))) := not_tst (b := true) (by simp)
    have c1 : (ev P law_is_ratio_c1).val (E_law_is_ratio (value := .v (.tuple xs))) = some (.l (xs.map fun x => .bool (isI x)), E_law_is_ratio (value := .v (.tuple xs))) := by
      refine lc_of0 (ps := [.d (.tuple xs)]) (ds := [.tuple xs]) (fun x => .bool (isI x)) rfl rfl rfl (items_t xs) fun x hx => ?_
      refine ⟨E_law_is_ratio (value := .v (.tuple xs)) (part := .v x), by simp [setS_t], rfl, ?_⟩
      cases x <;> simp [isI, isi_dict]
    have t3 := not_tst (all_tst (law_is_ratio_c1_o _ _) c1 (bmap_all _ xs)).1
    by_cases hl : xs.length = 2
    · have t1 : (ev P (.cmp .NotEq (.blt .len [(.var 0)]) (.cst (.int 2)))).tst (E_law_is_ratio (value := .v (.tuple xs))) = some (false, E_law_is_ratio (value := .v (.tuple xs))) := by
        have : (xs.length : Int) = 2 := by omega
        simp [this, hl]
      by_cases ha : xs.all isI = true
      · rw [ha] at t3
        refine nxF (bop_tst (or_F t0 (or_F t1 (or_1 t3)))) ?_
        match xs, hl, ha, hv with
        | [a, b], _, ha, hv =>
          have ia : isI a = true := by simp at ha; exact ha.1
          have ib : isI b = true := by simp at ha; exact ha.2
          obtain ⟨x, rfl⟩ : ∃ x, a = .int x := by cases a <;> first | exact ⟨_, rfl⟩ | cases ia
          obtain ⟨y, rfl⟩ : ∃ x, b = .int x := by cases b <;> first | exact ⟨_, rfl⟩ | cases ib
          obtain ⟨sx, sy⟩ := hv x y rfl
          refine .rtOf (f := E_law_is_ratio (value := .v (R2 x y))) ?_
          have eq : ((Int.gcd x y : Nat) : Int) = 1 ↔ Int.gcd x y = 1 := by omega
          by_cases hy : 0 < y
          · have gg := g (x.natAbs : Int) y (by omega) (by omega) (sx.le (by simp)) sy
            have eg : Int.gcd (x.natAbs : Int) y = Int.gcd x y := by simp [Int.gcd]
            rw [eg] at gg
            by_cases h1 : Int.gcd x y = 1 <;> simp [isR, gg, hy, h1, eq]
          · simp [isR, hy]
      · have ha : xs.all isI = false := by simpa using ha
        rw [isR_allI ha]
        rw [ha] at t3
        exact rtF (bop_tst (or_F t0 (or_F t1 (or_1 t3))))
    · rw [isR_len hl]
      refine rtF (bop_tst (or_F t0 (or_T (e1 := E_law_is_ratio (value := .v (.tuple xs))) ?_)))
      have : ¬ (xs.length : Int) = 2 := by omega
      simp [hl, this]
  | _ => exact nt rfl
end
end Law

namespace Law
open PySem PySem.Spec L2 Mini
section
abbrev Q := Int × Int
abbrev RD (q : Q) : D := R2 q.1 q.2
abbrev RL (r : List Q) : List D := r.map fun q => RD q
def plusQ (x y : Q) : Q := (rp (x.1 * y.2 + y.1 * x.2) (x.2 * y.2), rq (x.1 * y.2 + y.1 * x.2) (x.2 * y.2))
def timesQ (x y : Q) : Q := (rp (x.1 * y.1) (x.2 * y.2), rq (x.1 * y.1) (x.2 * y.2))
def lessQ (x y : Q) : Bool := decide (x.1 * y.2 < y.1 * x.2)
def Ok (n : Nat) (q : Q) : Prop := Rat2 q.1 q.2 n
theorem Ok.le {m n : Nat} {q : Q} (h : Ok m q) (l : m ≤ n) : Ok n q := ⟨bd_le h.p l, bd_le h.q l, h.pos⟩
theorem Ok.plus {m n : Nat} {x y : Q} (h : Ok m x) (g : Ok n y) : Ok (m + n + 1) (plusQ x y) := plus_b h g
theorem Ok.times {m n : Nat} {x y : Q} (h : Ok m x) (g : Ok n y) : Ok (m + n) (timesQ x y) := rr (bd_mul h.p g.p) (bd_mul h.q g.q) (Int.ne_of_gt (Int.mul_pos h.pos g.pos))
theorem ok0 : Ok 1 (0, 1) := ⟨by decide, by decide, by decide⟩
theorem plusD {d m n : Nat} (hd : 3 ≤ d) {x y : Q} (h : Ok m x) (g : Ok n y) (l : m + n ≤ 3000) : retOf (callN (tbOf es) d) 4 [.v (RD x), .v (RD y)] = some (.v (RD (plusQ x y))) := plus_r h g l hd
theorem timesD {d m n : Nat} (hd : 3 ≤ d) {x y : Q} (h : Ok m x) (g : Ok n y) (l : m + n ≤ 3000) : retOf (callN (tbOf es) d) 5 [.v (RD x), .v (RD y)] = some (.v (RD (timesQ x y))) := times_r h g l hd
theorem lessD {d m n : Nat} (hd : 1 ≤ d) {x y : Q} (h : Ok m x) (g : Ok n y) (l : m + n ≤ 3000) : retOf (callN (tbOf es) d) 6 [.v (RD x), .v (RD y)] = some (.v (.bool (lessQ x y))) := less_r h g l hd
theorem lplusD {d m n : Nat} (hd : 3 ≤ d) {x y : Q} (h : Ok m x) (g : Ok n y) (l : m + n ≤ 3000) : retOf (callN (tbOf es) d) 28 [.v (RD x), .v (RD y)] = some (.v (RD (plusQ x y))) := lplus_r h g l hd
theorem ltimesD {d m n : Nat} (hd : 3 ≤ d) {x y : Q} (h : Ok m x) (g : Ok n y) (l : m + n ≤ 3000) : retOf (callN (tbOf es) d) 29 [.v (RD x), .v (RD y)] = some (.v (RD (timesQ x y))) := ltimes_r h g l hd
theorem llessD {d m n : Nat} (hd : 1 ≤ d) {x y : Q} (h : Ok m x) (g : Ok n y) (l : m + n ≤ 3000) : retOf (callN (tbOf es) d) 30 [.v (RD x), .v (RD y)] = some (.v (.bool (lessQ x y))) := lless_r h g l hd
theorem lessQ0 {x : Q} : lessQ x (0, 1) = decide (x.1 < 0) := by
  unfold lessQ
  simp
theorem less0Q {x : Q} : lessQ (0, 1) x = decide (0 < x.1) := by
  unfold lessQ
  simp
/-! sums of products -/
def sumQ (qs : List Q) : Q := qs.foldl plusQ (0, 1)
def dotQ (xs ys : List Q) : Q := sumQ (List.zipWith timesQ xs ys)
theorem fold_ok {B : Nat} : ∀ (qs : List Q) (acc : Q) (m : Nat), Ok m acc → (∀ q ∈ qs, Ok B q) → Ok (m + (B + 1) * qs.length) (qs.foldl plusQ acc)
  | [], acc, m, h, _ => by simpa using h
  | q :: qs, acc, m, h, hq => by
    have := fold_ok qs (plusQ acc q) (m + B + 1) (h.plus (hq q List.mem_cons_self)) fun x hx => hq x (List.mem_cons_of_mem _ hx)
    rw [List.foldl_cons]
    refine this.le ?_
    rw [List.length_cons, Nat.mul_succ]; omega
theorem zw_ok {A B : Nat} : ∀ (xs ys : List Q), (∀ q ∈ xs, Ok A q) → (∀ q ∈ ys, Ok B q) → ∀ q ∈ List.zipWith timesQ xs ys, Ok (A + B) q
  | [], _, _, _, q, h => by simp at h
  | _ :: _, [], _, _, q, h => by simp at h
  | x :: xs, y :: ys, hx, hy, q, h => by
    rw [List.zipWith_cons_cons] at h
    rcases List.mem_cons.mp h with rfl | h
    · exact (hx x List.mem_cons_self).times (hy y List.mem_cons_self)
    · exact zw_ok xs ys (fun z hz => hx z (List.mem_cons_of_mem _ hz)) (fun z hz => hy z (List.mem_cons_of_mem _ hz)) q h
theorem dot_ok {xs ys : List Q} (hx : ∀ q ∈ xs, Ok 100 q) (hy : ∀ q ∈ ys, Ok 100 q) (hl : xs.length ≤ 8) : Ok 1700 (dotQ xs ys) := by
  have := fold_ok (B := 200) _ (0, 1) 1 ok0 (zw_ok xs ys hx hy)
  refine this.le ?_
  have : (List.zipWith timesQ xs ys).length ≤ 8 := by rw [List.length_zipWith]; omega
  omega
theorem sum_w (P : Ph) (a : D) (h : ∀ (m : Nat) (x y : Q), Ok m x → Ok 200 y → m + 200 ≤ 3000 → retOf P 4 [.v (RD x), .v (RD y)] = some (.v (RD (plusQ x y)))) : ∀ (qs : List Q) (acc : Q) (m : Nat), Ok m acc → (∀ q ∈ qs, Ok 200 q) → m + 201 * qs.length ≤ 2800 →
    GoF P (.nm 2) sum_of_l1 (RL qs) (E_sum_of (ratios := .v a) (found := .v (RD acc))) (.nx (E_sum_of (ratios := .v a) (found := .v (RD (qs.foldl plusQ acc)))))
  | [], acc, m, _, _, _ => .nil (.refl _)
  | q :: qs, acc, m, ha, hq, hl => by
    rw [List.length_cons] at hl
    have q0 := hq q List.mem_cons_self
    have st := h m acc q ha q0 (by omega)
    have ih := sum_w P a h qs (plusQ acc q) (m + 200 + 1) (ha.plus q0) (fun x hx => hq x (List.mem_cons_of_mem _ hx)) (by omega)
    rw [List.foldl_cons]
    generalize plusQ acc q = u at st ih ⊢
    refine GoF.cons (e1 := E_sum_of (ratios := .v a) (found := .v (RD acc)) (one := .v (RD q))) (by simp [setS_t]) (.inl (Go.low (.of (f := E_sum_of (ratios := .v a) (found := .v (RD u)) (one := .v (RD q))) ?_) ?_)) ih
    · simp [sum_of_l1, st, setS_t]
    · simp
theorem sum_r {d : Nat} (hd : 4 ≤ d) (qs : List Q) (hq : ∀ q ∈ qs, Ok 200 q) (hl : qs.length ≤ 8) : retOf (callN (tbOf es) d) 7 [.v (.list (RL qs))] = some (.v (RD (sumQ qs))) := by
  obtain ⟨d, rfl, hd'⟩ := lev (c := 3) hd
  refine fn_go (i := i_sum_of) rfl rfl rfl ?_
  show Go (callN (tbOf es) d) b_sum_of (E_sum_of (ratios := .v (.list (RL qs)))) _
  have w := sum_w (callN (tbOf es) d) (.list (RL qs)) (fun m x y hx hy l => plusD hd' hx hy l) qs (0, 1) 1 ok0 hq (by omega)
  generalize callN (tbOf es) d = P at w ⊢
  change GoF P _ _ _ _ (.nx (E_sum_of (ratios := .v (.list (RL qs))) (found := .v (RD (sumQ qs))))) at w
  generalize sumQ qs = u at w ⊢
  generalize RL qs = xs at w ⊢
  refine Go.cons (f := E_sum_of (ratios := .v (.list xs)) (found := .v (R2 0 1))) (.of (by simp [setS_t])) ?_
  refine Go.cons (Go1.fr (ps := [.d (.list xs)]) (e1 := E_sum_of (ratios := .v (.list xs)) (found := .v (R2 0 1))) (by simp) rfl (items_l xs) w) ?_
  exact .rtOf (f := E_sum_of (ratios := .v (.list xs)) (found := .v (RD u))) (by simp)
/-! comprehensions told by another list -/
theorem rng_getD {α : Type} (l : List α) (x : α) : (List.range l.length).map (fun i => l.getD i x) = l := by
  apply List.ext_getElem?
  intro i
  rw [List.getElem?_map]
  by_cases h : i < l.length
  · rw [List.getElem?_range h, Option.map_some, List.getD_eq_getElem?_getD, List.getElem?_eq_getElem h]; rfl
  · rw [List.getElem?_eq_none (by simpa using h), List.getElem?_eq_none (by omega)]; rfl
theorem lc_ofA {α : Type} {P : Ph} {t : T} {k : IK} {its : List E} {elt : E} {own : List Nat} {e : En} {ps : List Opd} {ds : List D} (as : List α) (F G : α → D) (hw : wipeE e own = e) (h1 : opsM (evs P its) e = some (ps, e)) (h2 : gets e ps = some ds) (h3 : itemsOf k ds = some (as.map F))
    (h : ∀ a ∈ as, ∃ e1, asgT t (F a) e = some e1 ∧ wipeE e1 own = e ∧ frzM (ev P elt).val e1 = some (G a, e1)) : (ev P (.lc t k its [] elt own)).val e = some (.l (as.map G), e) := by
  have := lc_at0 (P := P) (t := t) (k := k) (its := its) (elt := elt) (own := own) (e := e) (ps := ps) (ds := ds) (xs := as.map F) (fun i => (as.map G).getD i .none) hw h1 h2 h3 fun i x hx => by
    rw [List.getElem?_map] at hx
    obtain ⟨a, ha, rfl⟩ := Option.map_eq_some_iff.mp hx
    obtain ⟨e1, q1, q2, q3⟩ := h a (List.mem_of_getElem? ha)
    refine ⟨e1, q1, q2, ?_⟩
    rw [q3, List.getD_eq_getElem?_getD, List.getElem?_map, ha]; rfl
  rw [List.length_map, ← List.length_map (f := G), rng_getD] at this
  exact this
theorem zip_RL : ∀ (xs ys : List Q), zipL (RL xs) (RL ys) = (List.zip xs ys).map fun p => .tuple [RD p.1, RD p.2]
  | [], ys => rfl
  | x :: xs, [] => rfl
  | x :: xs, y :: ys => by
    have ih := zip_RL xs ys
    rw [List.zip_cons_cons, List.map_cons, ← ih]; rfl
theorem items_zip (b1 b2 : Bool) (xs ys : List D) : itemsOf .zip [mkD b1 xs, mkD b2 ys] = some (zipL xs ys) := by cases b1 <;> cases b2 <;> rfl
theorem zip_zw (f : Q → Q → Q) : ∀ (xs ys : List Q), (List.zip xs ys).map (fun p => RD (f p.1 p.2)) = RL (List.zipWith f xs ys)
  | [], ys => rfl
  | x :: xs, [] => rfl
  | x :: xs, y :: ys => by
    have ih := zip_zw f xs ys
    rw [List.zip_cons_cons, List.map_cons, ih]; rfl
theorem dot_r {d : Nat} (hd : 5 ≤ d) (b1 b2 : Bool) (xs ys : List Q) (hx : ∀ q ∈ xs, Ok 100 q) (hy : ∀ q ∈ ys, Ok 100 q) (hl : xs.length ≤ 8) : retOf (callN (tbOf es) d) 12 [.v (mkD b1 (RL xs)), .v (mkD b2 (RL ys))] = some (.v (RD (dotQ xs ys))) := by
  obtain ⟨d, rfl, hd'⟩ := lev (c := 4) hd
  refine fn_go (i := i_dot) rfl rfl rfl ?_
  show Go (callN (tbOf es) d) b_dot (E_dot (one := .v (mkD b1 (RL xs))) (other := .v (mkD b2 (RL ys)))) _
  have h5 : ∀ x y : Q, Ok 100 x → Ok 100 y → retOf (callN (tbOf es) d) 5 [.v (RD x), .v (RD y)] = some (.v (RD (timesQ x y))) := fun x y h g => timesD (by omega) h g (by omega)
  have h7 := sum_r hd' (List.zipWith timesQ xs ys) (zw_ok xs ys hx hy) (by rw [List.length_zipWith]; omega)
  have it := items_zip b1 b2 (RL xs) (RL ys)
  rw [zip_RL] at it
  generalize callN (tbOf es) d = P at h5 h7 ⊢
  have c1 : (ev P dot_c1).val (E_dot (one := .v (mkD b1 (RL xs))) (other := .v (mkD b2 (RL ys)))) = some (.l (RL (List.zipWith timesQ xs ys)), E_dot (one := .v (mkD b1 (RL xs))) (other := .v (mkD b2 (RL ys)))) := by
    rw [← zip_zw]
    refine lc_ofA (ps := [.d (mkD b1 (RL xs)), .d (mkD b2 (RL ys))]) (ds := [mkD b1 (RL xs), mkD b2 (RL ys)]) (List.zip xs ys) _ _ rfl rfl rfl it fun p hp => ?_
    have h := h5 p.1 p.2 (hx _ (List.of_mem_zip hp).1) (hy _ (List.of_mem_zip hp).2)
    generalize mkD b1 (RL xs) = o1
    generalize mkD b2 (RL ys) = o2
    generalize timesQ p.1 p.2 = u at h ⊢
    exact ⟨E_dot (one := .v o1) (other := .v o2) (a := .v (RD p.1)) (b := .v (RD p.2)), by simp [setS_t], rfl, by simp [h]⟩
  change retOf P 7 _ = some (.v (RD (dotQ xs ys))) at h7
  generalize RL (List.zipWith timesQ xs ys) = zs at c1 h7
  generalize dotQ xs ys = u at h7 ⊢
  generalize mkD b1 (RL xs) = o1 at c1 ⊢
  generalize mkD b2 (RL ys) = o2 at c1 ⊢
  simp only [E_dot] at c1
  exact .rtOf (f := E_dot (one := .v o1) (other := .v o2)) (by simp [b_dot, c1, h7])
end
end Law

namespace Law
open PySem PySem.Spec L2 Mini
section
theorem RLat {r : List Q} {i : Nat} (h : i < r.length) : atI (RL r) (i : Int) = some (RD r[i]) := at_nth _ i _ (by rw [List.getElem?_map, List.getElem?_eq_getElem h]; rfl)
theorem sum_take (l : List Q) (i : Nat) (h : i < l.length) : sumQ (l.take (i + 1)) = plusQ (sumQ (l.take i)) l[i] := by
  unfold sumQ
  rw [List.take_succ, List.getElem?_eq_getElem h, Option.toList_some, List.foldl_append]; rfl
theorem ldot_1 (P : Ph) (xs ys : List D) (i : Nat) (acc u s x y : D) (a1 : atI xs (i : Int) = some x) (a2 : atI ys (i : Int) = some y) (h1 : retOf P 29 [.v x, .v y] = some (.v u)) (h2 : retOf P 28 [.v acc, .v u] = some (.v s)) :
    exs P law_dot_l1 (E_law_dot (one := .v (.tuple xs)) (other := .v (.tuple ys)) (found := .v acc) (k := .v (I i))) = some (.nx (E_law_dot (one := .v (.tuple xs)) (other := .v (.tuple ys)) (found := .v s) (k := .v (I i)))) := by
  simp [law_dot_l1, a1, a2, h1, h2, setS_t]
theorem ldot_r {d : Nat} (hd : 4 ≤ d) (xs ys : List Q) (hx : ∀ q ∈ xs, Ok 100 q) (hy : ∀ q ∈ ys, Ok 100 q) (hl : xs.length ≤ 8) (hxy : xs.length ≤ ys.length) : retOf (callN (tbOf es) d) 31 [.v (.tuple (RL xs)), .v (.tuple (RL ys))] = some (.v (RD (dotQ xs ys))) := by
  obtain ⟨d, rfl, hd'⟩ := lev (c := 3) hd
  refine fn_go (i := i__law_dot) rfl rfl rfl ?_
  show Go (callN (tbOf es) d) b__law_dot (E_law_dot (one := .v (.tuple (RL xs))) (other := .v (.tuple (RL ys)))) _
  have zl : (List.zipWith timesQ xs ys).length = xs.length := by rw [List.length_zipWith]; omega
  have w := GoF.rng (P := callN (tbOf es) d) (t := .nm 3) (b := law_dot_l1) (fun i => E_law_dot (one := .v (.tuple (RL xs))) (other := .v (.tuple (RL ys))) (found := .v (RD (sumQ ((List.zipWith timesQ xs ys).take i))))) 0 xs.length fun i hi => by
    rw [Int.zero_add]
    have a1 := RLat (r := xs) hi
    have a2 := RLat (r := ys) (i := i) (by omega)
    have o1 := hx xs[i] (List.getElem_mem hi)
    have o2 := hy ys[i] (List.getElem_mem (by omega))
    have t := ltimesD hd' o1 o2 (by omega)
    have os := fold_ok (B := 200) ((List.zipWith timesQ xs ys).take i) (0, 1) 1 ok0 (fun q hq => zw_ok xs ys hx hy q (List.mem_of_mem_take hq))
    have ol : ((List.zipWith timesQ xs ys).take i).length ≤ 8 := by rw [List.length_take]; omega
    have p := lplusD hd' (os.le (show _ ≤ 1700 by omega)) (o1.times o2) (by omega)
    have e : (List.zipWith timesQ xs ys)[i]'(by omega) = timesQ xs[i] (ys[i]'(by omega)) := by simp
    have st := sum_take (List.zipWith timesQ xs ys) i (by omega)
    rw [e] at st
    have p : retOf (callN (tbOf es) d) 28 [.v (RD (sumQ ((List.zipWith timesQ xs ys).take i))), .v (RD (timesQ xs[i] (ys[i]'(by omega))))] = some (.v (RD (sumQ ((List.zipWith timesQ xs ys).take (i + 1))))) := by rw [st]; exact p
    have f := ldot_1 (callN (tbOf es) d) (RL xs) (RL ys) i _ _ _ _ _ a1 a2 t p
    refine ⟨_, ?_, .inl (Go.low (.of f) ?_)⟩
    · generalize RL xs = xs'; generalize RL ys = ys'; simp [setS_t]
    · generalize RL xs = xs'; generalize RL ys = ys'; simp
  rw [← zl, List.take_length] at w
  rw [zl] at w
  have il : ((RL xs).length : Int) = (xs.length : Int) := by rw [List.length_map]
  have it := items_r2 xs.length (show _ ≤ cap by unfold cap; omega)
  rw [← il] at it
  generalize callN (tbOf es) d = P at w ⊢
  change GoF P _ _ _ _ (.nx (E_law_dot (one := .v (.tuple (RL xs))) (other := .v (.tuple (RL ys))) (found := .v (RD (dotQ xs ys))))) at w
  have e0 : sumQ ((List.zipWith timesQ xs ys).take 0) = (0, 1) := rfl
  rw [e0] at w
  generalize dotQ xs ys = u at w ⊢
  generalize RL ys = ys' at w ⊢
  generalize RL xs = xs' at w it ⊢
  refine Go.cons (f := E_law_dot (one := .v (.tuple xs')) (other := .v (.tuple ys')) (found := .v (R2 0 1))) (.of (by simp [setS_t, sizeLine])) ?_
  refine Go.cons (Go1.fr (ps := [.d (.int xs'.length)]) (e1 := E_law_dot (one := .v (.tuple xs')) (other := .v (.tuple ys')) (found := .v (R2 0 1))) (by simp) rfl it w) ?_
  exact .rtOf (f := E_law_dot (one := .v (.tuple xs')) (other := .v (.tuple ys')) (found := .v (RD u))) (by simp)
/-! rows of ratios, judged -/
def toQ : D → Q
  | .tuple [.int a, .int b] => (a, b)
  | _ => (0, 0)
def ratQ (n : Nat) : D → Option (List Q)
  | .tuple xs => if xs.length = n ∧ xs.all isR = true then some (xs.map toQ) else none
  | _ => none
def VB (v : D) : Prop := ∀ xs, v = .tuple xs → ∀ x ∈ xs, ∀ a b, x = R2 a b → a.natAbs < 2 ^ 100 ∧ b.natAbs < 2 ^ 100
theorem isR_R2 {x : D} (h : isR x = true) : ∃ a b, x = R2 a b ∧ 0 < b ∧ Int.gcd a b = 1 := by
  unfold isR at h
  split at h
  · rename_i a b
    rw [Bool.and_eq_true, decide_eq_true_eq, decide_eq_true_eq] at h
    exact ⟨a, b, rfl, h⟩
  · cases h
theorem rats {xs : List D} (h : xs.all isR = true) : xs = RL (xs.map toQ) ∧ ∀ q ∈ xs.map toQ, 0 < q.2 := by
  induction xs with
  | nil => exact ⟨rfl, by simp⟩
  | cons x xs ih =>
    rw [List.all_cons, Bool.and_eq_true] at h
    obtain ⟨a, b, rfl, hb, _⟩ := isR_R2 h.1
    obtain ⟨h1, h2⟩ := ih h.2
    refine ⟨?_, fun q hq => ?_⟩
    · show R2 a b :: xs = R2 a b :: RL (xs.map toQ)
      rw [← h1]
    · rcases List.mem_cons.mp hq with rfl | hq
      · exact hb
      · exact h2 q hq
theorem ratQ_some {n : Nat} {v : D} {qs : List Q} (hv : VB v) (h : ratQ n v = some qs) : v = .tuple (RL qs) ∧ qs.length = n ∧ ∀ q ∈ qs, Ok 100 q := by
  cases v with
  | tuple xs =>
    simp only [ratQ] at h
    split at h
    · rename_i hc
      cases h
      obtain ⟨h1, h2⟩ := rats hc.2
      refine ⟨congrArg PyData.tuple h1, by rw [List.length_map]; exact hc.1, fun q hq => ?_⟩
      obtain ⟨x, hx, rfl⟩ := List.mem_map.mp hq
      obtain ⟨a, b, rfl, hb, _⟩ := isR_R2 (List.all_eq_true.mp hc.2 x hx)
      obtain ⟨q1, q2⟩ := hv xs rfl _ hx a b rfl
      exact ⟨q1, q2, hb⟩
    · cases h
  | _ => cases h
theorem and3v {a b c : M} {e : En} {x y z : Bool} (h1 : a.val e = some (.v (.bool x), e)) (h2 : b.val e = some (.v (.bool y), e)) (h3 : c.val e = some (.v (.bool z), e)) : (bopM .And [a, b, c]).val e = some (.v (.bool (x && (y && z))), e) := by
  cases x <;> cases y <;> simp [h1, h2, h3]
theorem and2v {a b : M} {e : En} {x y : Bool} (h1 : a.val e = some (.v (.bool x), e)) (h2 : b.val e = some (.v (.bool y), e)) : (bopM .And [a, b]).val e = some (.v (.bool (x && y)), e) := by
  cases x <;> simp [h1, h2]
theorem and1F {a b : M} {r : List M} {e : En} (h1 : a.val e = some (.v (.bool false), e)) : (bopM .And (a :: b :: r)).val e = some (.v (.bool false), e) := by
  simp [h1]
theorem ratios_r {d : Nat} (hd : 3 ≤ d) (v : D) (n : Nat) : retOf (callN (tbOf es) d) 8 [.v v, .v (I n)] = some (.v (.bool (ratQ n v).isSome)) := by
  obtain ⟨d, rfl, hd'⟩ := lev (c := 2) hd
  refine fn_go (i := i_are_ratios) rfl rfl rfl ?_
  show Go (callN (tbOf es) d) b_are_ratios (E_are_ratios (value := .v v) (size := .v (I n))) _
  have h2 := fun v => is_ratio_r hd' v
  generalize callN (tbOf es) d = P at h2 ⊢
  refine Go.ret (f := .cst .none) (en2 := E_are_ratios (value := .v v) (size := .v (I n))) ?_
  rw [ev_bop, evs_cons, evs_cons, evs_cons, evs_nil]
  cases v with
  | tuple xs =>
    have t1 : (ev P (.isi (.var 0) .tuple)).val (E_are_ratios (value := .v (.tuple xs)) (size := .v (I n))) = some (.v (.bool true), E_are_ratios (value := .v (.tuple xs)) (size := .v (I n))) := by simp
    have t2 : (ev P (.cmp .Eq (.blt .len [(.var 0)]) (.var 1))).val (E_are_ratios (value := .v (.tuple xs)) (size := .v (I n))) = some (.v (.bool (decide (xs.length = n))), E_are_ratios (value := .v (.tuple xs)) (size := .v (I n))) := by
      have e : ((xs.length : Int) = (n : Int)) ↔ xs.length = n := by omega
      by_cases h : xs.length = n
      · simp [h]
      · simp [e, h]
    have c1 : (ev P are_ratios_c1).val (E_are_ratios (value := .v (.tuple xs)) (size := .v (I n))) = some (.l (xs.map fun x => .bool (isR x)), E_are_ratios (value := .v (.tuple xs)) (size := .v (I n))) := by
      refine lc_of0 (ps := [.d (.tuple xs)]) (ds := [.tuple xs]) (fun x => .bool (isR x)) rfl rfl rfl (items_t xs) fun x hx => ?_
      exact ⟨E_are_ratios (value := .v (.tuple xs)) (size := .v (I n)) (part := .v x), by simp [setS_t], rfl, by simp [h2]⟩
    have t3 := (all_tst (are_ratios_c1_o _ _) c1 (bmap_all _ xs)).2
    rw [and3v t1 t2 t3]
    have e : (true && (decide (xs.length = n) && xs.all fun x => isR x)) = (ratQ n (.tuple xs)).isSome := by
      simp only [ratQ, Bool.true_and]
      by_cases h1 : xs.length = n
      · by_cases h3 : xs.all isR = true
        · rw [if_pos ⟨h1, h3⟩, decide_eq_true h1]; exact h3
        · rw [if_neg (fun z => h3 z.2), decide_eq_true h1]
          have : xs.all isR = false := by simpa using h3
          exact this
      · rw [if_neg (fun z => h1 z.1), decide_eq_false h1]; rfl
    rw [e]
  | _ =>
    rw [and1F (by simp [isi_dict])]; rfl
def aboveB (qs : List Q) : Bool := qs.all fun q => decide (0 ≤ q.1)
theorem above_r {d : Nat} (hd : 2 ≤ d) (qs : List Q) {m : Nat} (hq : ∀ q ∈ qs, Ok m q) (hm : m ≤ 2900) : retOf (callN (tbOf es) d) 11 [.v (.tuple (RL qs))] = some (.v (.bool (aboveB qs))) := by
  obtain ⟨d, rfl, hd'⟩ := lev (c := 1) hd
  refine fn_go (i := i_are_above) rfl rfl rfl ?_
  show Go (callN (tbOf es) d) b_are_above (E_are_above (row := .v (.tuple (RL qs)))) _
  have h6 : ∀ q ∈ qs, retOf (callN (tbOf es) d) 6 [.v (RD q), .v (R2 0 1)] = some (.v (.bool (lessQ q (0, 1)))) := fun q h => lessD hd' (hq q h) ok0 (by omega)
  generalize callN (tbOf es) d = P at h6 ⊢
  refine Go.ret (f := .cst .none) (en2 := E_are_above (row := .v (.tuple (RL qs)))) ?_
  have c1 : (ev P are_above_c1).val (E_are_above (row := .v (.tuple (RL qs)))) = some (.l (qs.map fun q => .bool (lessQ q (0, 1))), E_are_above (row := .v (.tuple (RL qs)))) := by
    refine lc_ofA (ps := [.d (.tuple (RL qs))]) (ds := [.tuple (RL qs)]) qs _ _ rfl rfl rfl (items_t (RL qs)) fun q hq => ?_
    have h := h6 q hq
    generalize lessQ q (0, 1) = b at h ⊢
    generalize RL qs = xs
    exact ⟨E_are_above (row := .v (.tuple xs)) (part := .v (RD q)), by simp [setS_t], rfl, by simp [h]⟩
  rw [not_any (are_above_c1_o _ _) c1 (bmap_any _ qs)]
  have e : (!qs.any fun q => lessQ q (0, 1)) = aboveB qs := by
    unfold aboveB
    rw [List.not_any_eq_all_not]
    congr 1
    funext q
    rw [lessQ0]
    by_cases h : q.1 < 0
    · rw [decide_eq_true h, decide_eq_false (by omega)]; rfl
    · rw [decide_eq_false h, decide_eq_true (by omega)]; rfl
  rw [e]
def rowB (n : Nat) (v : D) : Bool := match ratQ n v with
  | none => false
  | some qs => aboveB qs
theorem lrow_r {d : Nat} (hd : 3 ≤ d) (v : D) (n : Nat) (hv : VB v) : retOf (callN (tbOf es) d) 34 [.v v, .v (I n)] = some (.v (.bool (rowB n v))) := by
  obtain ⟨d, rfl, hd'⟩ := lev (c := 2) hd
  refine fn_go (i := i__law_row) rfl rfl rfl ?_
  show Go (callN (tbOf es) d) b__law_row (E_law_row (value := .v v) (size := .v (I n))) _
  have sm : ∀ x : Int, x.natAbs < 2 ^ 100 → Sm x := fun x h => sm_of h (by omega)
  have h32 : ∀ xs, v = .tuple xs → ∀ x ∈ xs, retOf (callN (tbOf es) d) 32 [.v x] = some (.v (.bool (isR x))) := fun xs e x hx => lis_ratio_r hd' x fun a b e2 => by
    obtain ⟨q1, q2⟩ := hv xs e x hx a b e2
    exact ⟨sm a q1, sm b q2⟩
  generalize callN (tbOf es) d = P at h32 ⊢
  have nt : isiD v .tuple = false → Go P b__law_row (E_law_row (value := .v v) (size := .v (I n))) (.rt (.v (.bool false))) := fun h => rtF (e1 := E_law_row (value := .v v) (size := .v (I n))) (bop_tst (or_T (not_tst (b := false) (by simp [h]))))
  cases v with
  | tuple xs =>
    have t0 : (ev P (.not (.isi (.var 0) .tuple))).tst (E_law_row (value := .v (.tuple xs)) (size := .v (I n))) = some (false, E_law_row (value := .v (.tuple xs)) (size := .v (I n))) := not_tst (b := true) (by simp)
    have t1 : (ev P (.cmp .NotEq (.blt .len [(.var 0)]) (.var 1))).tst (E_law_row (value := .v (.tuple xs)) (size := .v (I n))) = some (!decide (xs.length = n), E_law_row (value := .v (.tuple xs)) (size := .v (I n))) := by
      have e : ((xs.length : Int) = (n : Int)) ↔ xs.length = n := by omega
      by_cases h : xs.length = n
      · simp [h]
      · simp [e, h]
    have c1 : (ev P law_row_c1).val (E_law_row (value := .v (.tuple xs)) (size := .v (I n))) = some (.l (xs.map fun x => .bool (isR x)), E_law_row (value := .v (.tuple xs)) (size := .v (I n))) := by
      refine lc_of0 (ps := [.d (.tuple xs)]) (ds := [.tuple xs]) (fun x => .bool (isR x)) rfl rfl rfl (items_t xs) fun x hx => ?_
      have h := h32 xs rfl x hx
      exact ⟨E_law_row (value := .v (.tuple xs)) (size := .v (I n)) (part := .v x), by simp [setS_t], rfl, by simp [h]⟩
    have t2 := not_tst (all_tst (law_row_c1_o _ _) c1 (bmap_all _ xs)).1
    by_cases hl : xs.length = n
    · rw [decide_eq_true hl] at t1
      by_cases ha : xs.all isR = true
      · rw [ha] at t2
        have er : ratQ n (.tuple xs) = some (xs.map toQ) := by simp only [ratQ]; rw [if_pos ⟨hl, ha⟩]
        have e : rowB n (.tuple xs) = aboveB (xs.map toQ) := by simp only [rowB, er]
        rw [e]
        have hx := (rats ha).1
        generalize xs.map toQ = qs at hx ⊢
        refine nxF (bop_tst (or_F t0 (or_F t1 (or_1 t2)))) ?_
        subst hx
        have c2 : (ev P law_row_c2).val (E_law_row (value := .v (.tuple (RL qs))) (size := .v (I n))) = some (.l (qs.map fun q => .bool (decide (0 ≤ q.1))), E_law_row (value := .v (.tuple (RL qs))) (size := .v (I n))) := by
          refine lc_ofA (ps := [.d (.tuple (RL qs))]) (ds := [.tuple (RL qs)]) qs _ _ rfl rfl rfl (items_t (RL qs)) fun q hq => ?_
          generalize RL qs = ys
          exact ⟨E_law_row (value := .v (.tuple ys)) (size := .v (I n)) (part := .v (RD q)), by simp [setS_t], rfl, by simp⟩
        exact Go.ret (f := .cst .none) (en2 := E_law_row (value := .v (.tuple (RL qs))) (size := .v (I n))) (all_tst (law_row_c2_o _ _) c2 (bmap_all _ qs)).2
      · have ha : xs.all isR = false := by simpa using ha
        rw [ha] at t2
        have e : rowB n (.tuple xs) = false := by simp only [rowB, ratQ]; rw [if_neg (fun z => by rw [ha] at z; cases z.2)]
        rw [e]
        exact rtF (bop_tst (or_F t0 (or_F t1 (or_1 t2))))
    · rw [decide_eq_false hl] at t1
      have e : rowB n (.tuple xs) = false := by simp only [rowB, ratQ]; rw [if_neg (fun z => hl z.1)]
      rw [e]
      exact rtF (bop_tst (or_F t0 (or_T t1)))
  | _ => exact nt rfl
end
end Law

namespace Law
open PySem PySem.Spec L2 Mini
section
abbrev TL (rows : List (List Q)) : List D := rows.map fun r => .tuple (RL r)
abbrev MD (needs : List Q) (rows : List (List Q)) : D := .tuple [.tuple (RL needs), .tuple (TL rows)]
theorem RL_map {α : Type} (f : α → Q) (l : List α) : RL (l.map f) = l.map fun x => RD (f x) := by
  show (l.map f).map (fun q => RD q) = _
  rw [List.map_map]; rfl
def dn : List (List Q) → Nat
  | [] => 0
  | r :: _ => r.length
structure Mn (needs : List Q) (rows : List (List Q)) (n : Nat) : Prop where
  len : rows.length = needs.length
  m8 : needs.length ≤ 8
  n8 : n ≤ 8
  wid : ∀ r ∈ rows, r.length = n
  emp : rows = [] → n = 0
  okN : ∀ q ∈ needs, Ok 100 q
  okR : ∀ r ∈ rows, ∀ q ∈ r, Ok 100 q
theorem Mn.dn {needs : List Q} {rows : List (List Q)} {n : Nat} (M : Mn needs rows n) : Law.dn rows = n := by
  cases rows with
  | nil => exact (M.emp rfl).symm
  | cons r rs => exact M.wid r List.mem_cons_self
def col (rows : List (List Q)) (j : Nat) : List Q := rows.map fun r => r.getD j (0, 1)
def cols (rows : List (List Q)) (n : Nat) : List (List Q) := (List.range n).map (col rows)
theorem col_ok {needs : List Q} {rows : List (List Q)} {n : Nat} (M : Mn needs rows n) {j : Nat} (hj : j < n) : ∀ q ∈ col rows j, Ok 100 q := fun q hq => by
  obtain ⟨r, hr, rfl⟩ := List.mem_map.mp hq
  have hl := M.wid r hr
  rw [List.getD_eq_getElem?_getD, List.getElem?_eq_getElem (by omega)]
  exact M.okR r hr _ (List.getElem_mem _)
theorem callL {P : Ph} {A B : E} {e : En} {a : D} {ys : List D} {j : Nat} {s : Sl} (ha : (ev P A).val e = some (.v a, e)) (hb : (ev P B).val e = some (.l ys, e)) (h : retOf P j [.v a, .v (.list ys)] = some s) : (ev P (.call j [A, B])).val e = some (s, e) := by
  simp [ha, hb, h]
theorem dishes_r {d : Nat} (hd : 1 ≤ d) (nd : D) (rows : List (List Q)) : retOf (callN (tbOf es) d) 10 [.v (.tuple [nd, .tuple (TL rows)])] = some (.v (I (dn rows))) := by
  obtain ⟨d, rfl, hd'⟩ := lev (c := 0) hd
  refine fn_go (i := i_dishes_of) rfl rfl rfl ?_
  show Go (callN (tbOf es) d) b_dishes_of (E_dishes_of (menu := .v (.tuple [nd, .tuple (TL rows)]))) _
  generalize callN (tbOf es) d = P
  refine .rtOf (f := E_dishes_of (menu := .v (.tuple [nd, .tuple (TL rows)]))) ?_
  cases rows with
  | nil => simp [b_dishes_of, dn, truth]
  | cons r rs =>
    have hl : ((RL r).length : Int) = (r.length : Int) := by rw [List.length_map]
    have e : TL (r :: rs) = .tuple (RL r) :: TL rs := rfl
    have e2 : dn (r :: rs) = r.length := rfl
    have hl : I r.length = .int ((RL r).length : Int) := congrArg PyData.int hl.symm
    rw [e, e2, hl]
    generalize TL rs = ts
    generalize RL r = xs
    simp [b_dishes_of, truth]
section
variable {needs : List Q} {rows : List (List Q)} {n : Nat} (M : Mn needs rows n)
include M
theorem given_r {d : Nat} (hd : 6 ≤ d) (qs : List Q) (hq : ∀ q ∈ qs, Ok 100 q) : retOf (callN (tbOf es) d) 13 [.v (MD needs rows), .v (.tuple (RL qs))] = some (.v (.tuple (RL (rows.map fun r => dotQ r qs)))) := by
  obtain ⟨d, rfl, hd'⟩ := lev (c := 5) hd
  refine fn_go (i := i_given_by) rfl rfl rfl ?_
  show Go (callN (tbOf es) d) b_given_by (E_given_by (menu := .v (MD needs rows)) (amounts := .v (.tuple (RL qs)))) _
  have h12 : ∀ r ∈ rows, retOf (callN (tbOf es) d) 12 [.v (.tuple (RL r)), .v (.tuple (RL qs))] = some (.v (RD (dotQ r qs))) := fun r hr => dot_r hd' false false r qs (M.okR r hr) hq (by rw [M.wid r hr]; exact M.n8)
  generalize callN (tbOf es) d = P at h12 ⊢
  have c1 : (ev P given_by_c1).val (E_given_by (menu := .v (MD needs rows)) (amounts := .v (.tuple (RL qs)))) = some (.l (rows.map fun r => RD (dotQ r qs)), E_given_by (menu := .v (MD needs rows)) (amounts := .v (.tuple (RL qs)))) := by
    refine lc_ofA (ps := [.d (.tuple (TL rows))]) (ds := [.tuple (TL rows)]) rows _ _ rfl ?_ rfl (items_t (TL rows)) fun r hr => ?_
    · simp only [MD]
      generalize TL rows = ts
      generalize RL needs = ns
      generalize RL qs = xs
      simp
    · have h := h12 r hr
      generalize dotQ r qs = u at h ⊢
      generalize MD needs rows = m
      generalize RL qs = xs at h ⊢
      generalize RL r = ys at h ⊢
      exact ⟨E_given_by (menu := .v m) (amounts := .v (.tuple xs)) (row := .v (.tuple ys)), by simp [setS_t], rfl, by simp [h]⟩
  have e : (RL (rows.map fun r => dotQ r qs)) = rows.map fun r => RD (dotQ r qs) := RL_map _ _
  rw [e]
  exact Go.ret (f := .cst .none) (en2 := E_given_by (menu := .v (MD needs rows)) (amounts := .v (.tuple (RL qs)))) (tupOf (given_by_c1_o _ _) c1)
theorem worth_r {d : Nat} (hd : 6 ≤ d) (ps : List Q) (hp : ∀ q ∈ ps, Ok 100 q) (hl : ps.length ≤ 8) : retOf (callN (tbOf es) d) 14 [.v (MD needs rows), .v (.tuple (RL ps))] = some (.v (.tuple (RL ((cols rows n).map fun c => dotQ ps c)))) := by
  obtain ⟨d, rfl, hd'⟩ := lev (c := 5) hd
  refine fn_go (i := i_worth_of_dishes) rfl rfl rfl ?_
  show Go (callN (tbOf es) d) b_worth_of_dishes (E_worth_of_dishes (menu := .v (MD needs rows)) (prices := .v (.tuple (RL ps)))) _
  have h12 : ∀ j, j < n → retOf (callN (tbOf es) d) 12 [.v (.tuple (RL ps)), .v (.list (RL (col rows j)))] = some (.v (RD (dotQ ps (col rows j)))) := fun j hj => dot_r hd' false true ps (col rows j) hp (col_ok M hj) hl
  have h10 := dishes_r (d := d) (by omega) (.tuple (RL needs)) rows
  rw [M.dn] at h10
  have h10 : retOf (callN (tbOf es) d) 10 [.v (MD needs rows)] = some (.v (I n)) := h10
  generalize callN (tbOf es) d = P at h12 h10 ⊢
  have c1 : ∀ j, j < n → (ev P worth_of_dishes_c1).val (E_worth_of_dishes (menu := .v (MD needs rows)) (prices := .v (.tuple (RL ps))) (j := .v (I j))) = some (.l (RL (col rows j)), E_worth_of_dishes (menu := .v (MD needs rows)) (prices := .v (.tuple (RL ps))) (j := .v (I j))) := fun j hj => by
    have e : RL (col rows j) = rows.map fun r => RD (r.getD j (0, 1)) := RL_map _ _
    rw [e]
    refine lc_ofA (ps := [.d (.tuple (TL rows))]) (ds := [.tuple (TL rows)]) rows _ _ rfl ?_ rfl (items_t (TL rows)) fun r hr => ?_
    · simp only [MD]
      generalize TL rows = ts
      generalize RL needs = ns
      generalize RL ps = xs
      simp
    · have hw := M.wid r hr
      have a1 : atI (RL r) (j : Int) = some (RD (r.getD j (0, 1))) := by
        rw [RLat (show j < r.length by omega), List.getD_eq_getElem?_getD, List.getElem?_eq_getElem (by omega)]; rfl
      generalize r.getD j (0, 1) = u at a1 ⊢
      generalize MD needs rows = m
      generalize RL ps = xs
      generalize RL r = ys at a1 ⊢
      exact ⟨E_worth_of_dishes (menu := .v m) (prices := .v (.tuple xs)) (row := .v (.tuple ys)) (j := .v (I j)), by simp [setS_t], rfl, by simp [a1]⟩
  have c2 : (ev P worth_of_dishes_c2).val (E_worth_of_dishes (menu := .v (MD needs rows)) (prices := .v (.tuple (RL ps)))) = some (.l ((List.range n).map fun j => RD (dotQ ps (col rows j))), E_worth_of_dishes (menu := .v (MD needs rows)) (prices := .v (.tuple (RL ps)))) := by
    have it := items_r2 n (show _ ≤ cap by have := M.n8; unfold cap; omega)
    have := lc_at0 (P := P) (t := .nm 3) (k := .rng) (its := [(.call 10 [(.var 0)])]) (elt := (.call 12 [(.var 1), worth_of_dishes_c1])) (own := [3]) (e := E_worth_of_dishes (menu := .v (MD needs rows)) (prices := .v (.tuple (RL ps)))) (ps := [.d (I n)]) (ds := [I n]) (fun j => RD (dotQ ps (col rows j))) rfl (by
        generalize MD needs rows = m at h10 ⊢
        generalize RL ps = xs
        simp [h10]) rfl it fun i x hx => by
      obtain ⟨h1, rfl⟩ := rngL_at hx
      rw [Int.zero_add]
      refine ⟨E_worth_of_dishes (menu := .v (MD needs rows)) (prices := .v (.tuple (RL ps))) (j := .v (I i)), ?_, rfl, frz_of (callL ?_ (c1 i h1) (h12 i h1)) rfl⟩
      · generalize MD needs rows = m; generalize RL ps = xs; simp [setS_t]
      · generalize MD needs rows = m; generalize RL ps = xs; simp
    rw [rngL_len] at this
    exact this
  have e : (RL ((cols rows n).map fun c => dotQ ps c)) = (List.range n).map fun j => RD (dotQ ps (col rows j)) := by rw [RL_map]; unfold cols; rw [List.map_map]; rfl
  rw [e]
  exact Go.ret (f := .cst .none) (en2 := E_worth_of_dishes (menu := .v (MD needs rows)) (prices := .v (.tuple (RL ps)))) (tupOf (worth_of_dishes_c2_o _ _) c2)
/-! the law's columns -/
omit M in
theorem lay_RL : ∀ r : List Q, PyData.canLayAll0 (RL r) = true ∧ PyData.depthAll (RL r) ≤ 2
  | [] => ⟨rfl, by simp [PyData.depthAll]⟩
  | a :: r => by
    have ih := lay_RL r
    refine ⟨by simp only [List.map_cons, PyData.canLayAll0, PyData.canLay0, ih.1, Bool.and_self], ?_⟩
    simp only [List.map_cons, PyData.depthAll, PyData.depth]
    have : PyData.depthAll (List.map (fun q => RD q) r) ≤ 2 := ih.2
    omega
omit M in
theorem lay_TL : ∀ rs : List (List Q), PyData.canLayAll0 (TL rs) = true ∧ PyData.depthAll (TL rs) ≤ 3
  | [] => ⟨rfl, by simp [PyData.depthAll]⟩
  | r :: rs => by
    obtain ⟨h1, h2⟩ := lay_TL rs
    obtain ⟨h3, h4⟩ := lay_RL r
    refine ⟨by simp only [List.map_cons, PyData.canLayAll0, PyData.canLay0, h1, h3, Bool.and_self], ?_⟩
    simp only [List.map_cons, PyData.depthAll, PyData.depth]
    have h2' : PyData.depthAll (List.map (fun r => PyData.tuple (RL r)) rs) ≤ 3 := h2
    omega
omit M in
theorem sh_TL (rs : List (List Q)) : SeqAt.shaped (.tuple (TL rs)) = true := by
  obtain ⟨h1, h2⟩ := lay_TL rs
  simp [SeqAt.shaped, PyData.canLay0, PyData.depth, h1]
  omega
theorem columns_r {d : Nat} (hd : 1 ≤ d) : retOf (callN (tbOf es) d) 36 [.v (MD needs rows)] = some (.l (TL (cols rows n))) := by
  obtain ⟨d, rfl, hd'⟩ := lev (c := 0) hd
  refine fn_go (i := i__law_columns) rfl rfl rfl ?_
  show Go (callN (tbOf es) d) b__law_columns (E_law_columns (menu := .v (MD needs rows))) _
  generalize callN (tbOf es) d = P
  have c1 : ∀ j, j < n → (ev P law_columns_c1).val (E_law_columns (menu := .v (MD needs rows)) (j := .v (I j))) = some (.l (RL (col rows j)), E_law_columns (menu := .v (MD needs rows)) (j := .v (I j))) := fun j hj => by
    have e : RL (col rows j) = rows.map fun r => RD (r.getD j (0, 1)) := RL_map _ _
    rw [e]
    refine lc_ofA (ps := [.d (.tuple (TL rows))]) (ds := [.tuple (TL rows)]) rows _ _ rfl ?_ rfl (items_t (TL rows)) fun r hr => ?_
    · simp only [MD]
      generalize TL rows = ts
      generalize RL needs = ns
      simp
    · have hw := M.wid r hr
      have a1 : atI (RL r) (j : Int) = some (RD (r.getD j (0, 1))) := by
        rw [RLat (show j < r.length by omega), List.getD_eq_getElem?_getD, List.getElem?_eq_getElem (by omega)]; rfl
      generalize r.getD j (0, 1) = u at a1 ⊢
      generalize MD needs rows = m
      generalize RL r = ys at a1 ⊢
      exact ⟨E_law_columns (menu := .v m) (row := .v (.tuple ys)) (j := .v (I j)), by simp [setS_t], rfl, by simp [a1]⟩
  have op : opsM (evs P [(.ite (.cmp .NotEq (.idx (.var 0) (.cst (.int 1))) (.tup [])) (.blt .len [(.idx (.idx (.var 0) (.cst (.int 1))) (.cst (.int 0)))]) (.cst (.int 0)))]) (E_law_columns (menu := .v (MD needs rows))) = some ([.d (I n)], E_law_columns (menu := .v (MD needs rows))) := by
    have dn := M.dn
    cases rows with
    | nil =>
      have ce : cmpD .NotEq (.tuple []) (.tuple []) = some (.v (.bool false)) := by rw [cmp_neS rfl rfl]; simp [PyData.eqv, PyData.eqvAll]
      have hn : n = 0 := M.emp rfl
      subst hn
      simp only [MD]
      generalize RL needs = ns
      simp [ce, sizeLine]
    | cons r rs =>
      have ce : cmpD .NotEq (.tuple (TL (r :: rs))) (.tuple []) = some (.v (.bool true)) := by rw [cmp_neS (sh_TL _) rfl]; simp [PyData.eqv, PyData.eqvAll]
      have hl : I n = .int ((RL r).length : Int) := congrArg PyData.int (by rw [List.length_map]; exact congrArg _ dn.symm)
      simp only [MD]
      have e : TL (r :: rs) = .tuple (RL r) :: TL rs := rfl
      rw [e] at ce ⊢
      generalize TL rs = ts at ce ⊢
      generalize RL needs = ns
      generalize RL r = xs at ce hl ⊢
      rw [hl]
      simp [ce, sizeLine]
  have c2 : (ev P law_columns_c2).val (E_law_columns (menu := .v (MD needs rows))) = some (.l ((List.range n).map fun j => .tuple (RL (col rows j))), E_law_columns (menu := .v (MD needs rows))) := by
    have it := items_r2 n (show _ ≤ cap by have := M.n8; unfold cap; omega)
    have := lc_at0 (P := P) (t := .nm 2) (k := .rng) (elt := (.blt .tuple [law_columns_c1])) (own := [2]) (e := E_law_columns (menu := .v (MD needs rows))) (ps := [.d (I n)]) (ds := [I n]) (fun j => .tuple (RL (col rows j))) rfl op rfl it fun i x hx => by
      obtain ⟨h1, rfl⟩ := rngL_at hx
      rw [Int.zero_add]
      refine ⟨E_law_columns (menu := .v (MD needs rows)) (j := .v (I i)), ?_, rfl, frz_of (tupOf (law_columns_c1_o _ _) (c1 i h1)) rfl⟩
      generalize MD needs rows = m; simp [setS_t]
    rw [rngL_len] at this
    exact this
  have e : TL (cols rows n) = (List.range n).map fun j => .tuple (RL (col rows j)) := by
    show (cols rows n).map (fun r => PyData.tuple (RL r)) = _
    unfold cols; rw [List.map_map]; rfl
  rw [e]
  exact Go.ret (f := .cst .none) (en2 := E_law_columns (menu := .v (MD needs rows))) c2
end
end
end Law

namespace Law
open PySem PySem.Spec L2 Mini
section
abbrev gv (rows : List (List Q)) (qs : List Q) : List Q := rows.map fun r => dotQ r qs
abbrev wo (rows : List (List Q)) (n : Nat) (ps : List Q) : List Q := (cols rows n).map fun c => dotQ ps c
def amB (needs : List Q) (rows : List (List Q)) (n : Nat) (v : D) : Bool := match ratQ n v with
  | none => false
  | some qs => aboveB qs && !((List.zip (gv rows qs) needs).any fun p => lessQ p.1 p.2)
def baB (needs : List Q) (rows : List (List Q)) (n : Nat) (v : D) : Bool := match ratQ needs.length v with
  | none => false
  | some qs => aboveB qs && (!((wo rows n qs).any fun w => decide (0 < w.1)) && decide (0 < (dotQ qs needs).1))
def prB (needs : List Q) (rows : List (List Q)) (n : Nat) (costs : List Q) (v : D) : Bool := match ratQ needs.length v with
  | none => false
  | some qs => aboveB qs && !((List.zip costs (wo rows n qs)).any fun p => lessQ p.1 p.2)
def saB (rows : List (List Q)) (n : Nat) (costs : List Q) (v : D) : Bool := match ratQ n v with
  | none => false
  | some qs => aboveB qs && (aboveB (gv rows qs) && decide ((dotQ costs qs).1 < 0))
section
variable {needs : List Q} {rows : List (List Q)} {n : Nat} (M : Mn needs rows n)
include M
theorem gv_ok {qs : List Q} (hq : ∀ q ∈ qs, Ok 100 q) : ∀ q ∈ gv rows qs, Ok 1700 q := fun q h => by
  obtain ⟨r, hr, rfl⟩ := List.mem_map.mp h
  exact dot_ok (M.okR r hr) hq (by rw [M.wid r hr]; exact M.n8)
theorem wo_ok {qs : List Q} (hq : ∀ q ∈ qs, Ok 100 q) (hl : qs.length ≤ 8) : ∀ q ∈ wo rows n qs, Ok 1700 q := fun q h => by
  obtain ⟨c, hc, rfl⟩ := List.mem_map.mp h
  obtain ⟨j, hj, rfl⟩ := List.mem_map.mp hc
  exact dot_ok hq (col_ok M (List.mem_range.mp hj)) hl
/-- what both judges ask first -/
theorem amounts_r {d : Nat} (hd : 7 ≤ d) (v : D) (hv : VB v) : retOf (callN (tbOf es) d) 15 [.v (MD needs rows), .v v] = some (.v (.bool (amB needs rows n v))) := by
  obtain ⟨d, rfl, hd'⟩ := lev (c := 6) hd
  refine fn_go (i := i_are_amounts) rfl rfl rfl ?_
  show Go (callN (tbOf es) d) b_are_amounts (E_are_amounts (menu := .v (MD needs rows)) (value := .v v)) _
  have h10 := dishes_r (d := d) (by omega) (.tuple (RL needs)) rows
  rw [M.dn] at h10
  have h10 : retOf (callN (tbOf es) d) 10 [.v (MD needs rows)] = some (.v (I n)) := h10
  have h8 := ratios_r (d := d) (by omega) v n
  have t1 : ∀ P : Ph, retOf P 10 [.v (MD needs rows)] = some (.v (I n)) → retOf P 8 [.v v, .v (I n)] = some (.v (.bool (ratQ n v).isSome)) → (ev P (.not (.call 8 [(.var 1), (.call 10 [(.var 0)])]))).tst (E_are_amounts (menu := .v (MD needs rows)) (value := .v v)) = some (!(ratQ n v).isSome, E_are_amounts (menu := .v (MD needs rows)) (value := .v v)) := fun P h10 h8 => by
    generalize MD needs rows = m at h10 ⊢
    exact not_tst (by simp [h10, h8])
  have t1 := t1 _ h10 h8
  cases hr : ratQ n v with
  | none =>
    rw [hr] at t1
    have e : amB needs rows n v = false := by simp only [amB, hr]
    rw [e]
    exact rtF (bop_tst (or_T t1))
  | some qs =>
    rw [hr] at t1
    obtain ⟨rfl, ql, qo⟩ := ratQ_some hv hr
    have e : amB needs rows n (.tuple (RL qs)) = (aboveB qs && !((List.zip (gv rows qs) needs).any fun p => lessQ p.1 p.2)) := by simp only [amB, hr]
    rw [e]
    have h11 := above_r (d := d) (by omega) qs qo (by omega)
    have h13 := given_r M (d := d) hd' qs qo
    have h6 : ∀ p ∈ List.zip (gv rows qs) needs, retOf (callN (tbOf es) d) 6 [.v (RD p.1), .v (RD p.2)] = some (.v (.bool (lessQ p.1 p.2))) := fun p hp => lessD (by omega) (gv_ok M qo _ (List.of_mem_zip hp).1) (M.okN _ (List.of_mem_zip hp).2) (by omega)
    generalize callN (tbOf es) d = P at h11 h13 h6 t1 ⊢
    have t2 : (ev P (.not (.call 11 [(.var 1)]))).tst (E_are_amounts (menu := .v (MD needs rows)) (value := .v (.tuple (RL qs)))) = some (!aboveB qs, E_are_amounts (menu := .v (MD needs rows)) (value := .v (.tuple (RL qs)))) := by
      generalize MD needs rows = m
      generalize RL qs = xs at h11 ⊢
      exact not_tst (by simp [h11])
    cases ha : aboveB qs with
    | false =>
      rw [ha] at t2
      exact rtF (bop_tst (or_F t1 (or_1 t2)))
    | true =>
      rw [ha] at t2
      refine nxF (bop_tst (or_F t1 (or_1 t2))) ?_
      have c1 : (ev P are_amounts_c1).val (E_are_amounts (menu := .v (MD needs rows)) (value := .v (.tuple (RL qs)))) = some (.l ((List.zip (gv rows qs) needs).map fun p => .bool (lessQ p.1 p.2)), E_are_amounts (menu := .v (MD needs rows)) (value := .v (.tuple (RL qs)))) := by
        have it := items_zip false false (RL (gv rows qs)) (RL needs)
        rw [zip_RL] at it
        refine lc_ofA (ps := [.d (.tuple (RL (gv rows qs))), .d (.tuple (RL needs))]) (ds := [.tuple (RL (gv rows qs)), .tuple (RL needs)]) (List.zip (gv rows qs) needs) _ _ rfl ?_ rfl it fun p hp => ?_
        · generalize RL (gv rows qs) = gs at h13 ⊢
          generalize RL qs = xs at h13 ⊢
          simp only [MD] at h13 ⊢
          generalize RL needs = ns at h13 ⊢
          generalize TL rows = ts at h13 ⊢
          simp [h13]
        · have h := h6 p hp
          generalize lessQ p.1 p.2 = b at h ⊢
          generalize MD needs rows = m
          generalize RL qs = xs
          exact ⟨E_are_amounts (menu := .v m) (value := .v (.tuple xs)) (given := .v (RD p.1)) (need := .v (RD p.2)), by simp [setS_t], rfl, by simp [h]⟩
      exact Go.ret (f := .cst .none) (en2 := E_are_amounts (menu := .v (MD needs rows)) (value := .v (.tuple (RL qs)))) (not_any (are_amounts_c1_o _ _) c1 (bmap_any _ _))
theorem bar_r {d : Nat} (hd : 7 ≤ d) (v : D) (hv : VB v) : retOf (callN (tbOf es) d) 16 [.v (MD needs rows), .v v] = some (.v (.bool (baB needs rows n v))) := by
  obtain ⟨d, rfl, hd'⟩ := lev (c := 6) hd
  refine fn_go (i := i_is_bar) rfl rfl rfl ?_
  show Go (callN (tbOf es) d) b_is_bar (E_is_bar (menu := .v (MD needs rows)) (value := .v v)) _
  have h8 := ratios_r (d := d) (by omega) v needs.length
  have nl : I needs.length = .int ((RL needs).length : Int) := congrArg PyData.int (by rw [List.length_map])
  have t1 : (ev (callN (tbOf es) d) (.not (.call 8 [(.var 1), (.blt .len [(.idx (.var 0) (.cst (.int 0)))])]))).tst (E_is_bar (menu := .v (MD needs rows)) (value := .v v)) = some (!(ratQ needs.length v).isSome, E_is_bar (menu := .v (MD needs rows)) (value := .v v)) := by
    rw [nl] at h8
    generalize callN (tbOf es) d = P at h8 ⊢
    generalize (ratQ needs.length v).isSome = b at h8 ⊢
    simp only [MD]
    generalize TL rows = ts
    generalize RL needs = ns at h8 ⊢
    exact not_tst (by simp [h8])
  cases hr : ratQ needs.length v with
  | none =>
    rw [hr] at t1
    have e : baB needs rows n v = false := by simp only [baB, hr]
    rw [e]
    exact rtF (bop_tst (or_T t1))
  | some qs =>
    rw [hr] at t1
    obtain ⟨rfl, ql, qo⟩ := ratQ_some hv hr
    have ql8 : qs.length ≤ 8 := by rw [ql]; exact M.m8
    have e : baB needs rows n (.tuple (RL qs)) = (aboveB qs && (!((wo rows n qs).any fun w => decide (0 < w.1)) && decide (0 < (dotQ qs needs).1))) := by simp only [baB, hr]
    rw [e]
    have h11 := above_r (d := d) (by omega) qs qo (by omega)
    have h14 := worth_r M (d := d) hd' qs qo ql8
    have h6 : ∀ w ∈ wo rows n qs, retOf (callN (tbOf es) d) 6 [.v (R2 0 1), .v (RD w)] = some (.v (.bool (decide (0 < w.1)))) := fun w hw => by
      rw [← less0Q]; exact lessD (by omega) ok0 (wo_ok M qo ql8 w hw) (by omega)
    have h12 := dot_r (d := d) (by omega) false false qs needs qo M.okN ql8
    have h6' : retOf (callN (tbOf es) d) 6 [.v (R2 0 1), .v (RD (dotQ qs needs))] = some (.v (.bool (decide (0 < (dotQ qs needs).1)))) := by
      rw [← less0Q]; exact lessD (by omega) ok0 (dot_ok qo M.okN ql8) (by omega)
    generalize callN (tbOf es) d = P at h11 h14 h6 h12 h6' t1 ⊢
    have t2 : (ev P (.not (.call 11 [(.var 1)]))).tst (E_is_bar (menu := .v (MD needs rows)) (value := .v (.tuple (RL qs)))) = some (!aboveB qs, E_is_bar (menu := .v (MD needs rows)) (value := .v (.tuple (RL qs)))) := by
      generalize MD needs rows = m
      generalize RL qs = xs at h11 ⊢
      exact not_tst (by simp [h11])
    cases ha : aboveB qs with
    | false =>
      rw [ha] at t2
      exact rtF (bop_tst (or_F t1 (or_1 t2)))
    | true =>
      rw [ha] at t2
      refine nxF (bop_tst (or_F t1 (or_1 t2))) ?_
      have c1 : (ev P is_bar_c1).val (E_is_bar (menu := .v (MD needs rows)) (value := .v (.tuple (RL qs)))) = some (.l ((wo rows n qs).map fun w => .bool (decide (0 < w.1))), E_is_bar (menu := .v (MD needs rows)) (value := .v (.tuple (RL qs)))) := by
        refine lc_ofA (ps := [.d (.tuple (RL (wo rows n qs)))]) (ds := [.tuple (RL (wo rows n qs))]) (wo rows n qs) _ _ rfl ?_ rfl (items_t _) fun w hw => ?_
        · generalize RL (wo rows n qs) = ws at h14 ⊢
          generalize RL qs = xs at h14 ⊢
          generalize MD needs rows = m at h14 ⊢
          simp [h14]
        · have h := h6 w hw
          generalize decide (0 < w.1) = b at h ⊢
          generalize MD needs rows = m
          generalize RL qs = xs
          exact ⟨E_is_bar (menu := .v m) (value := .v (.tuple xs)) (worth := .v (RD w)), by simp [setS_t], rfl, by simp [h]⟩
      have t3 := (any_tst (is_bar_c1_o _ _) c1 (bmap_any _ (wo rows n qs))).1
      generalize (wo rows n qs).any (fun w => decide (0 < w.1)) = b at t3 ⊢
      cases b with
      | true => exact rtF t3
      | false =>
        refine nxF t3 ?_
        have h12 : retOf P 12 [.v (.tuple (RL qs)), .v (.tuple (RL needs))] = some (.v (RD (dotQ qs needs))) := h12
        generalize decide (0 < (dotQ qs needs).1) = k at h6' ⊢
        generalize dotQ qs needs = u at h12 h6' ⊢
        simp only [MD]
        generalize RL qs = xs at h12 ⊢
        generalize RL needs = ns at h12 ⊢
        generalize TL rows = ts
        exact Go.ret (f := .cst .none) (en2 := E_is_bar (menu := .v (.tuple [.tuple ns, .tuple ts])) (value := .v (.tuple xs))) (by simp [h12, h6'])
end
end
end Law

namespace Law
open PySem PySem.Spec L2 Mini
section
section
variable {needs : List Q} {rows : List (List Q)} {n : Nat} (M : Mn needs rows n)
include M
theorem prices_r {d : Nat} (hd : 7 ≤ d) (costs : List Q) (hc : ∀ q ∈ costs, Ok 100 q) (v : D) (hv : VB v) : retOf (callN (tbOf es) d) 17 [.v (MD needs rows), .v (.tuple (RL costs)), .v v] = some (.v (.bool (prB needs rows n costs v))) := by
  obtain ⟨d, rfl, hd'⟩ := lev (c := 6) hd
  refine fn_go (i := i_are_prices) rfl rfl rfl ?_
  show Go (callN (tbOf es) d) b_are_prices (E_are_prices (menu := .v (MD needs rows)) (costs := .v (.tuple (RL costs))) (value := .v v)) _
  have h8 := ratios_r (d := d) (by omega) v needs.length
  have nl : I needs.length = .int ((RL needs).length : Int) := congrArg PyData.int (by rw [List.length_map])
  have t1 : (ev (callN (tbOf es) d) (.not (.call 8 [(.var 2), (.blt .len [(.idx (.var 0) (.cst (.int 0)))])]))).tst (E_are_prices (menu := .v (MD needs rows)) (costs := .v (.tuple (RL costs))) (value := .v v)) = some (!(ratQ needs.length v).isSome, E_are_prices (menu := .v (MD needs rows)) (costs := .v (.tuple (RL costs))) (value := .v v)) := by
    rw [nl] at h8
    generalize callN (tbOf es) d = P at h8 ⊢
    generalize (ratQ needs.length v).isSome = b at h8 ⊢
    generalize RL costs = cs
    simp only [MD]
    generalize TL rows = ts
    generalize RL needs = ns at h8 ⊢
    exact not_tst (by simp [h8])
  cases hr : ratQ needs.length v with
  | none =>
    rw [hr] at t1
    have e : prB needs rows n costs v = false := by simp only [prB, hr]
    rw [e]
    exact rtF (bop_tst (or_T t1))
  | some qs =>
    rw [hr] at t1
    obtain ⟨rfl, ql, qo⟩ := ratQ_some hv hr
    have ql8 : qs.length ≤ 8 := by rw [ql]; exact M.m8
    have e : prB needs rows n costs (.tuple (RL qs)) = (aboveB qs && !((List.zip costs (wo rows n qs)).any fun p => lessQ p.1 p.2)) := by simp only [prB, hr]
    rw [e]
    have h11 := above_r (d := d) (by omega) qs qo (by omega)
    have h14 := worth_r M (d := d) hd' qs qo ql8
    have h6 : ∀ p ∈ List.zip costs (wo rows n qs), retOf (callN (tbOf es) d) 6 [.v (RD p.1), .v (RD p.2)] = some (.v (.bool (lessQ p.1 p.2))) := fun p hp => lessD (by omega) (hc _ (List.of_mem_zip hp).1) (wo_ok M qo ql8 _ (List.of_mem_zip hp).2) (by omega)
    generalize callN (tbOf es) d = P at h11 h14 h6 t1 ⊢
    have t2 : (ev P (.not (.call 11 [(.var 2)]))).tst (E_are_prices (menu := .v (MD needs rows)) (costs := .v (.tuple (RL costs))) (value := .v (.tuple (RL qs)))) = some (!aboveB qs, E_are_prices (menu := .v (MD needs rows)) (costs := .v (.tuple (RL costs))) (value := .v (.tuple (RL qs)))) := by
      generalize MD needs rows = m
      generalize RL costs = cs
      generalize RL qs = xs at h11 ⊢
      exact not_tst (by simp [h11])
    cases ha : aboveB qs with
    | false =>
      rw [ha] at t2
      exact rtF (bop_tst (or_F t1 (or_1 t2)))
    | true =>
      rw [ha] at t2
      refine nxF (bop_tst (or_F t1 (or_1 t2))) ?_
      have c1 : (ev P are_prices_c1).val (E_are_prices (menu := .v (MD needs rows)) (costs := .v (.tuple (RL costs))) (value := .v (.tuple (RL qs)))) = some (.l ((List.zip costs (wo rows n qs)).map fun p => .bool (lessQ p.1 p.2)), E_are_prices (menu := .v (MD needs rows)) (costs := .v (.tuple (RL costs))) (value := .v (.tuple (RL qs)))) := by
        have it := items_zip false false (RL costs) (RL (wo rows n qs))
        rw [zip_RL] at it
        refine lc_ofA (ps := [.d (.tuple (RL costs)), .d (.tuple (RL (wo rows n qs)))]) (ds := [.tuple (RL costs), .tuple (RL (wo rows n qs))]) (List.zip costs (wo rows n qs)) _ _ rfl ?_ rfl it fun p hp => ?_
        · generalize RL (wo rows n qs) = ws at h14 ⊢
          generalize RL qs = xs at h14 ⊢
          generalize MD needs rows = m at h14 ⊢
          generalize RL costs = cs
          simp [h14]
        · have h := h6 p hp
          generalize lessQ p.1 p.2 = b at h ⊢
          generalize MD needs rows = m
          generalize RL costs = cs
          generalize RL qs = xs
          exact ⟨E_are_prices (menu := .v m) (costs := .v (.tuple cs)) (value := .v (.tuple xs)) (cost := .v (RD p.1)) (worth := .v (RD p.2)), by simp [setS_t], rfl, by simp [h]⟩
      exact Go.ret (f := .cst .none) (en2 := E_are_prices (menu := .v (MD needs rows)) (costs := .v (.tuple (RL costs))) (value := .v (.tuple (RL qs)))) (not_any (are_prices_c1_o _ _) c1 (bmap_any _ _))
theorem saving_r {d : Nat} (hd : 7 ≤ d) (costs : List Q) (hc : ∀ q ∈ costs, Ok 100 q) (hcl : costs.length = n) (v : D) (hv : VB v) : retOf (callN (tbOf es) d) 18 [.v (MD needs rows), .v (.tuple (RL costs)), .v v] = some (.v (.bool (saB rows n costs v))) := by
  obtain ⟨d, rfl, hd'⟩ := lev (c := 6) hd
  refine fn_go (i := i_is_saving) rfl rfl rfl ?_
  show Go (callN (tbOf es) d) b_is_saving (E_is_saving (menu := .v (MD needs rows)) (costs := .v (.tuple (RL costs))) (value := .v v)) _
  have h10 := dishes_r (d := d) (by omega) (.tuple (RL needs)) rows
  rw [M.dn] at h10
  have h10 : retOf (callN (tbOf es) d) 10 [.v (MD needs rows)] = some (.v (I n)) := h10
  have h8 := ratios_r (d := d) (by omega) v n
  have t1 : ∀ P : Ph, retOf P 10 [.v (MD needs rows)] = some (.v (I n)) → retOf P 8 [.v v, .v (I n)] = some (.v (.bool (ratQ n v).isSome)) → (ev P (.not (.call 8 [(.var 2), (.call 10 [(.var 0)])]))).tst (E_is_saving (menu := .v (MD needs rows)) (costs := .v (.tuple (RL costs))) (value := .v v)) = some (!(ratQ n v).isSome, E_is_saving (menu := .v (MD needs rows)) (costs := .v (.tuple (RL costs))) (value := .v v)) := fun P h10 h8 => by
    generalize MD needs rows = m at h10 ⊢
    generalize RL costs = cs
    exact not_tst (by simp [h10, h8])
  have t1 := t1 _ h10 h8
  cases hr : ratQ n v with
  | none =>
    rw [hr] at t1
    have e : saB rows n costs v = false := by simp only [saB, hr]
    rw [e]
    exact rtF (bop_tst (or_T t1))
  | some qs =>
    rw [hr] at t1
    obtain ⟨rfl, ql, qo⟩ := ratQ_some hv hr
    have e : saB rows n costs (.tuple (RL qs)) = (aboveB qs && (aboveB (gv rows qs) && decide ((dotQ costs qs).1 < 0))) := by simp only [saB, hr]
    rw [e]
    have h11 := above_r (d := d) (by omega) qs qo (by omega)
    have h13 := given_r M (d := d) hd' qs qo
    have h11' := above_r (d := d) (by omega) (gv rows qs) (gv_ok M qo) (by omega)
    have cl8 : costs.length ≤ 8 := by rw [hcl]; exact M.n8
    have h12 : retOf (callN (tbOf es) d) 12 [.v (.tuple (RL costs)), .v (.tuple (RL qs))] = some (.v (RD (dotQ costs qs))) := dot_r (d := d) (by omega) false false costs qs hc qo cl8
    have h6 : retOf (callN (tbOf es) d) 6 [.v (RD (dotQ costs qs)), .v (R2 0 1)] = some (.v (.bool (decide ((dotQ costs qs).1 < 0)))) := by
      rw [← lessQ0]; exact lessD (by omega) (dot_ok hc qo cl8) ok0 (by omega)
    generalize callN (tbOf es) d = P at h11 h11' h12 h13 h6 t1 ⊢
    have t2 : (ev P (.not (.call 11 [(.var 2)]))).tst (E_is_saving (menu := .v (MD needs rows)) (costs := .v (.tuple (RL costs))) (value := .v (.tuple (RL qs)))) = some (!aboveB qs, E_is_saving (menu := .v (MD needs rows)) (costs := .v (.tuple (RL costs))) (value := .v (.tuple (RL qs)))) := by
      generalize MD needs rows = m
      generalize RL costs = cs
      generalize RL qs = xs at h11 ⊢
      exact not_tst (by simp [h11])
    cases ha : aboveB qs with
    | false =>
      rw [ha] at t2
      exact rtF (bop_tst (or_F t1 (or_1 t2)))
    | true =>
      rw [ha] at t2
      refine nxF (bop_tst (or_F t1 (or_1 t2))) ?_
      generalize decide ((dotQ costs qs).1 < 0) = k at h6 ⊢
      generalize dotQ costs qs = u at h12 h6 ⊢
      generalize aboveB (gv rows qs) = b at h11' ⊢
      generalize MD needs rows = m at h13 ⊢
      generalize RL costs = cs at h12 ⊢
      generalize RL (gv rows qs) = gs at h11' h13 ⊢
      generalize RL qs = xs at h12 h13 ⊢
      exact Go.ret (f := .cst .none) (en2 := E_is_saving (menu := .v m) (costs := .v (.tuple cs)) (value := .v (.tuple xs))) (by cases b <;> simp [h12, h6, h13, h11'])
def negQ (q : Q) : Q := timesQ (-1, 1) q
def ovQ (needs : List Q) (rows : List (List Q)) (qs : List Q) : List Q := List.zipWith (fun g w => plusQ g (negQ w)) (gv rows qs) needs
omit M in
theorem okm : Ok 1 (-1, 1) := ⟨by decide, by decide, by decide⟩
theorem over_r {d : Nat} (hd : 7 ≤ d) (qs : List Q) (hq : ∀ q ∈ qs, Ok 100 q) : retOf (callN (tbOf es) d) 19 [.v (MD needs rows), .v (.tuple (RL qs))] = some (.v (.tuple (RL (ovQ needs rows qs)))) := by
  obtain ⟨d, rfl, hd'⟩ := lev (c := 6) hd
  refine fn_go (i := i_over_needs) rfl rfl rfl ?_
  show Go (callN (tbOf es) d) b_over_needs (E_over_needs (menu := .v (MD needs rows)) (amounts := .v (.tuple (RL qs)))) _
  have h13 := given_r M (d := d) hd' qs hq
  have h5 : ∀ w ∈ needs, retOf (callN (tbOf es) d) 5 [.v (R2 (-1) 1), .v (RD w)] = some (.v (RD (negQ w))) := fun w hw => timesD (by omega) okm (M.okN w hw) (by omega)
  have h4 : ∀ g ∈ gv rows qs, ∀ w ∈ needs, retOf (callN (tbOf es) d) 4 [.v (RD g), .v (RD (negQ w))] = some (.v (RD (plusQ g (negQ w)))) := fun g hg w hw => plusD (by omega) (gv_ok M hq g hg) (okm.times (M.okN w hw)) (by omega)
  generalize callN (tbOf es) d = P at h13 h5 h4 ⊢
  have it := items_zip false false (RL (gv rows qs)) (RL needs)
  rw [zip_RL] at it
  have c1 : (ev P over_needs_c1).val (E_over_needs (menu := .v (MD needs rows)) (amounts := .v (.tuple (RL qs)))) = some (.l (RL (ovQ needs rows qs)), E_over_needs (menu := .v (MD needs rows)) (amounts := .v (.tuple (RL qs)))) := by
    unfold ovQ
    rw [← zip_zw]
    refine lc_ofA (ps := [.d (.tuple (RL (gv rows qs))), .d (.tuple (RL needs))]) (ds := [.tuple (RL (gv rows qs)), .tuple (RL needs)]) (List.zip (gv rows qs) needs) _ _ rfl ?_ rfl it fun p hp => ?_
    · generalize RL (gv rows qs) = gs at h13 ⊢
      generalize RL qs = xs at h13 ⊢
      simp only [MD] at h13 ⊢
      generalize RL needs = ns at h13 ⊢
      generalize TL rows = ts at h13 ⊢
      simp [h13]
    · have q5 := h5 p.2 (List.of_mem_zip hp).2
      have q4 := h4 p.1 (List.of_mem_zip hp).1 p.2 (List.of_mem_zip hp).2
      generalize plusQ p.1 (negQ p.2) = u at q4 ⊢
      generalize negQ p.2 = w at q4 q5 ⊢
      generalize MD needs rows = m
      generalize RL qs = xs
      exact ⟨E_over_needs (menu := .v m) (amounts := .v (.tuple xs)) (given := .v (RD p.1)) (need := .v (RD p.2)), by simp [setS_t], rfl, by simp [q4, q5, sizeLine]⟩
  exact Go.ret (f := .cst .none) (en2 := E_over_needs (menu := .v (MD needs rows)) (amounts := .v (.tuple (RL qs)))) (tupOf (over_needs_c1_o _ _) c1)
end
def idxB (v : D) : Bool := match v with
  | .int i => decide (0 ≤ i) && decide (i < 4)
  | _ => false
theorem index_r {d : Nat} (hd : 2 ≤ d) (v : D) : retOf (callN (tbOf es) d) 21 [.v v, .v (.int 4)] = some (.v (.bool (idxB v))) := by
  obtain ⟨d, rfl, hd'⟩ := lev (c := 1) hd
  refine fn_go (i := i_is_index) rfl rfl rfl ?_
  show Go (callN (tbOf es) d) b_is_index (E_is_index (value := .v v) (size := .v (.int 4))) _
  have h0 := whole_r hd' v
  generalize callN (tbOf es) d = P at h0 ⊢
  refine .rtOf (f := E_is_index (value := .v v) (size := .v (.int 4))) ?_
  cases v with
  | int i => by_cases h1 : 0 ≤ i <;> simp [b_is_index, h0, isI, idxB, h1]
  | _ => simp [b_is_index, h0, isI, idxB]
end
end Law

namespace Law
open PySem PySem.Spec L2 Mini
section
theorem ne_RD (x y : Q) : cmpD .NotEq (RD x) (RD y) = some (.v (.bool (!decide (x = y)))) := by
  rw [cmp_neS rfl rfl]
  obtain ⟨a, b⟩ := x
  obtain ⟨c, d⟩ := y
  have : PyData.eqv (R2 a b) (R2 c d) = (a == c && b == d) := by simp [PyData.eqv, PyData.eqvAll]
  rw [show PyData.eqv (RD (a, b)) (RD (c, d)) = _ from this]
  congr 4
  by_cases h1 : a = c <;> by_cases h2 : b = d <;> simp [h1, h2]
theorem loopB {α : Type} {P : Ph} {t : T} {b : List C} (F : α → D) (test : α → Bool) (e : En) : ∀ (as : List α), (∀ a ∈ as, ∃ e1, asgT t (F a) e = some e1 ∧ (test a = true → Go P b e1 (.rt (.v (.bool false)))) ∧ (test a = false → Go P b e1 (.nx e))) → GoF P t b (as.map F) e (if as.any test then .rt (.v (.bool false)) else .nx e)
  | [], _ => .nil (.refl _)
  | a :: as, h => by
    obtain ⟨e1, h1, h2, h3⟩ := h a List.mem_cons_self
    rw [List.any_cons]
    cases ht : test a with
    | true => exact GoF.rt h1 (h2 ht)
    | false =>
      rw [Bool.false_or]
      exact GoF.cons h1 (.inl (h3 ht)) (loopB F test e as fun x hx => h x (List.mem_cons_of_mem _ hx))
def nz (q : Q) : Bool := !decide (q = (0, 1))
def goB (needs : List Q) (rows : List (List Q)) (n : Nat) (costs qs ps : List Q) : Bool :=
  !((List.zip (ovQ needs rows qs) ps).any fun p => nz p.1 && nz p.2) && !((List.zip costs (List.zip (wo rows n ps) qs)).any fun p => !decide (p.1 = p.2.1) && nz p.2.2)
theorem zip3_RL : ∀ (xs ys zs : List Q), zipL3 (RL xs) (RL ys) (RL zs) = (List.zip xs (List.zip ys zs)).map fun p => .tuple [RD p.1, RD p.2.1, RD p.2.2]
  | [], ys, zs => rfl
  | x :: xs, [], zs => rfl
  | x :: xs, y :: ys, [] => rfl
  | x :: xs, y :: ys, z :: zs => by
    have ih := zip3_RL xs ys zs
    rw [List.zip_cons_cons, List.zip_cons_cons, List.map_cons, ← ih]; rfl
theorem gt_1 (P : Ph) (m cs am pr : Sl) (o p : D) (a b : Bool) (h1 : cmpD .NotEq o (R2 0 1) = some (.v (.bool a))) (h2 : cmpD .NotEq p (R2 0 1) = some (.v (.bool b))) : exs P go_together_l1 (E_go_together (menu := m) (costs := cs) (amounts := am) (prices := pr) (over := .v o) (price := .v p)) = some (if a && b then .rt (.v (.bool false)) (E_go_together (menu := m) (costs := cs) (amounts := am) (prices := pr) (over := .v o) (price := .v p)) else .nx (E_go_together (menu := m) (costs := cs) (amounts := am) (prices := pr) (over := .v o) (price := .v p))) := by
  cases a <;> cases b <;> simp [go_together_l1, h1, h2]
theorem gt_2 (P : Ph) (m cs am pr : Sl) (c w x : D) (a b : Bool) (h1 : cmpD .NotEq c w = some (.v (.bool a))) (h2 : cmpD .NotEq x (R2 0 1) = some (.v (.bool b))) : exs P go_together_l2 (E_go_together (menu := m) (costs := cs) (amounts := am) (prices := pr) (cost := .v c) (worth := .v w) (amount := .v x)) = some (if a && b then .rt (.v (.bool false)) (E_go_together (menu := m) (costs := cs) (amounts := am) (prices := pr) (cost := .v c) (worth := .v w) (amount := .v x)) else .nx (E_go_together (menu := m) (costs := cs) (amounts := am) (prices := pr) (cost := .v c) (worth := .v w) (amount := .v x))) := by
  cases a <;> cases b <;> simp [go_together_l2, h1, h2]
section
variable {needs : List Q} {rows : List (List Q)} {n : Nat} (M : Mn needs rows n)
include M
theorem together_r {d : Nat} (hd : 8 ≤ d) (costs qs ps : List Q) (hq : ∀ q ∈ qs, Ok 100 q) (hp : ∀ q ∈ ps, Ok 100 q) (hl : ps.length ≤ 8) : retOf (callN (tbOf es) d) 20 [.v (MD needs rows), .v (.tuple (RL costs)), .v (.tuple (RL qs)), .v (.tuple (RL ps))] = some (.v (.bool (goB needs rows n costs qs ps))) := by
  obtain ⟨d, rfl, hd'⟩ := lev (c := 7) hd
  refine fn_go (i := i_go_together) rfl rfl rfl ?_
  show Go (callN (tbOf es) d) b_go_together (E_go_together (menu := .v (MD needs rows)) (costs := .v (.tuple (RL costs))) (amounts := .v (.tuple (RL qs))) (prices := .v (.tuple (RL ps)))) _
  have h19 := over_r M (d := d) hd' qs hq
  have h14 := worth_r M (d := d) (by omega) ps hp hl
  generalize callN (tbOf es) d = P at h19 h14 ⊢
  have it1 := items_zip false false (RL (ovQ needs rows qs)) (RL ps)
  rw [zip_RL] at it1
  have it2 : itemsOf .zip [.tuple (RL costs), .tuple (RL (wo rows n ps)), .tuple (RL qs)] = some (zipL3 (RL costs) (RL (wo rows n ps)) (RL qs)) := rfl
  rw [zip3_RL] at it2
  have w1 := loopB (P := P) (t := .tp [(.nm 4), (.nm 5)]) (b := go_together_l1) (fun p : Q × Q => .tuple [RD p.1, RD p.2]) (fun p => nz p.1 && nz p.2) (E_go_together (menu := .v (MD needs rows)) (costs := .v (.tuple (RL costs))) (amounts := .v (.tuple (RL qs))) (prices := .v (.tuple (RL ps)))) (List.zip (ovQ needs rows qs) ps) fun p hp => by
    have g := gt_1 P (.v (MD needs rows)) (.v (.tuple (RL costs))) (.v (.tuple (RL qs))) (.v (.tuple (RL ps))) (RD p.1) (RD p.2) (nz p.1) (nz p.2) (ne_RD p.1 (0, 1)) (ne_RD p.2 (0, 1))
    refine ⟨E_go_together (menu := .v (MD needs rows)) (costs := .v (.tuple (RL costs))) (amounts := .v (.tuple (RL qs))) (prices := .v (.tuple (RL ps))) (over := .v (RD p.1)) (price := .v (RD p.2)), ?_, fun h => ?_, fun h => ?_⟩
    · generalize MD needs rows = m; generalize RL costs = c; generalize RL qs = x; generalize RL ps = y; simp [setS_t]
    · rw [if_pos h] at g; exact .rtOf g
    · rw [if_neg (by rw [h]; decide)] at g
      refine Go.low (.of g) ?_
      generalize MD needs rows = m; generalize RL costs = c; generalize RL qs = x; generalize RL ps = y; simp
  have w2 := loopB (P := P) (t := .tp [(.nm 6), (.nm 7), (.nm 8)]) (b := go_together_l2) (fun p : Q × Q × Q => .tuple [RD p.1, RD p.2.1, RD p.2.2]) (fun p => !decide (p.1 = p.2.1) && nz p.2.2) (E_go_together (menu := .v (MD needs rows)) (costs := .v (.tuple (RL costs))) (amounts := .v (.tuple (RL qs))) (prices := .v (.tuple (RL ps)))) (List.zip costs (List.zip (wo rows n ps) qs)) fun p hp => by
    have g := gt_2 P (.v (MD needs rows)) (.v (.tuple (RL costs))) (.v (.tuple (RL qs))) (.v (.tuple (RL ps))) (RD p.1) (RD p.2.1) (RD p.2.2) (!decide (p.1 = p.2.1)) (nz p.2.2) (ne_RD p.1 p.2.1) (ne_RD p.2.2 (0, 1))
    refine ⟨E_go_together (menu := .v (MD needs rows)) (costs := .v (.tuple (RL costs))) (amounts := .v (.tuple (RL qs))) (prices := .v (.tuple (RL ps))) (cost := .v (RD p.1)) (worth := .v (RD p.2.1)) (amount := .v (RD p.2.2)), ?_, fun h => ?_, fun h => ?_⟩
    · generalize MD needs rows = m; generalize RL costs = c; generalize RL qs = x; generalize RL ps = y; simp [setS_t]
    · rw [if_pos h] at g; exact .rtOf g
    · rw [if_neg (by rw [h]; decide)] at g
      refine Go.low (.of g) ?_
      generalize MD needs rows = m; generalize RL costs = c; generalize RL qs = x; generalize RL ps = y; simp
  unfold goB
  have o1 : opsM ((evs P [(.call 19 [(.var 0), (.var 2)]), (.var 3)]).map frO) (E_go_together (menu := .v (MD needs rows)) (costs := .v (.tuple (RL costs))) (amounts := .v (.tuple (RL qs))) (prices := .v (.tuple (RL ps)))) = some ([.d (.tuple (RL (ovQ needs rows qs))), .d (.tuple (RL ps))], E_go_together (menu := .v (MD needs rows)) (costs := .v (.tuple (RL costs))) (amounts := .v (.tuple (RL qs))) (prices := .v (.tuple (RL ps)))) := by
    generalize RL (ovQ needs rows qs) = os at h19 ⊢
    generalize MD needs rows = m at h19 ⊢
    generalize RL costs = c; generalize RL qs = x at h19 ⊢; generalize RL ps = y
    simp [h19]
  have o2 : opsM ((evs P [(.var 1), (.call 14 [(.var 0), (.var 3)]), (.var 2)]).map frO) (E_go_together (menu := .v (MD needs rows)) (costs := .v (.tuple (RL costs))) (amounts := .v (.tuple (RL qs))) (prices := .v (.tuple (RL ps)))) = some ([.d (.tuple (RL costs)), .d (.tuple (RL (wo rows n ps))), .d (.tuple (RL qs))], E_go_together (menu := .v (MD needs rows)) (costs := .v (.tuple (RL costs))) (amounts := .v (.tuple (RL qs))) (prices := .v (.tuple (RL ps)))) := by
    generalize RL (wo rows n ps) = ws at h14 ⊢
    generalize MD needs rows = m at h14 ⊢
    generalize RL costs = c; generalize RL ps = y at h14 ⊢; generalize RL qs = x
    simp [h14]
  cases a1 : (List.zip (ovQ needs rows qs) ps).any (fun p => nz p.1 && nz p.2) with
  | true =>
    rw [a1] at w1
    exact Go.rt (Go1.fr o1 rfl it1 w1)
  | false =>
    rw [a1] at w1
    refine Go.cons (Go1.fr o1 rfl it1 w1) ?_
    cases a2 : (List.zip costs (List.zip (wo rows n ps) qs)).any (fun p => !decide (p.1 = p.2.1) && nz p.2.2) with
    | true =>
      rw [a2] at w2
      exact Go.rt (Go1.fr o2 rfl it2 w2)
    | false =>
      rw [a2] at w2
      refine Go.cons (Go1.fr o2 rfl it2 w2) ?_
      exact Go.ret (f := .cst .none) (en2 := E_go_together (menu := .v (MD needs rows)) (costs := .v (.tuple (RL costs))) (amounts := .v (.tuple (RL qs))) (prices := .v (.tuple (RL ps)))) rfl
end
end
end Law

namespace Law
open PySem PySem.Spec L2 Mini
section
theorem zip_range (xs ys : List Q) (h : xs.length = ys.length) : List.zip xs ys = (List.range xs.length).map fun i => (xs.getD i (0, 1), ys.getD i (0, 1)) := by
  apply List.ext_getElem?
  intro i
  rw [List.getElem?_map]
  by_cases hi : i < xs.length
  · rw [List.getElem?_range hi, Option.map_some, List.getElem?_eq_getElem (by rw [List.length_zip]; omega), List.getElem_zip]
    rw [List.getD_eq_getElem?_getD, List.getD_eq_getElem?_getD, List.getElem?_eq_getElem hi, List.getElem?_eq_getElem (by omega)]; rfl
  · rw [List.getElem?_eq_none (by rw [List.length_zip]; omega), List.getElem?_eq_none (by simpa using hi)]; rfl
theorem zip_any (f : Q → Q → Bool) (xs ys : List Q) (h : xs.length = ys.length) : (!(List.zip xs ys).any fun p => f p.1 p.2) = (List.range xs.length).all fun i => !f (xs.getD i (0, 1)) (ys.getD i (0, 1)) := by
  rw [zip_range xs ys h, List.any_map, List.not_any_eq_all_not]; rfl
theorem TLat {rs : List (List Q)} {i : Nat} (h : i < rs.length) : atI (TL rs) (i : Int) = some (.tuple (RL rs[i])) := at_nth _ i _ (by rw [List.getElem?_map, List.getElem?_eq_getElem h]; rfl)
section
variable {needs : List Q} {rows : List (List Q)} {n : Nat} (M : Mn needs rows n)
include M
theorem cols_ok : ∀ c ∈ cols rows n, ∀ q ∈ c, Ok 100 q := fun c hc q hq => by
  obtain ⟨j, hj, rfl⟩ := List.mem_map.mp hc
  exact col_ok M (List.mem_range.mp hj) q hq
omit M in
theorem cols_len : (cols rows n).length = n := by unfold cols; rw [List.length_map, List.length_range]
omit M in
theorem col_len : ∀ c ∈ cols rows n, c.length = rows.length := fun c hc => by
  obtain ⟨j, hj, rfl⟩ := List.mem_map.mp hc
  unfold col; rw [List.length_map]
theorem lamounts_r {d : Nat} (hd : 5 ≤ d) (v : D) (hv : VB v) : retOf (callN (tbOf es) d) 37 [.v (MD needs rows), .v v] = some (.v (.bool (amB needs rows n v))) := by
  obtain ⟨d, rfl, hd'⟩ := lev (c := 4) hd
  refine fn_go (i := i__law_are_amounts) rfl rfl rfl ?_
  show Go (callN (tbOf es) d) b__law_are_amounts (E_law_are_amounts (menu := .v (MD needs rows)) (value := .v v)) _
  have h36 := columns_r M (d := d) (by omega)
  have cl : I n = .int ((TL (cols rows n)).length : Int) := congrArg PyData.int (by rw [List.length_map, cols_len])
  have h34 := lrow_r (d := d) (by omega) v n hv
  have t1 : (ev (callN (tbOf es) d) (.not (.call 34 [(.var 1), (.blt .len [(.call 36 [(.var 0)])])]))).tst (E_law_are_amounts (menu := .v (MD needs rows)) (value := .v v)) = some (!rowB n v, E_law_are_amounts (menu := .v (MD needs rows)) (value := .v v)) := by
    rw [cl] at h34
    generalize callN (tbOf es) d = P at h36 h34 ⊢
    generalize TL (cols rows n) = cs at h36 h34
    generalize MD needs rows = m at h36 ⊢
    exact not_tst (by simp [h36, h34])
  cases hr : ratQ n v with
  | none =>
    have e1 : rowB n v = false := by simp only [rowB, hr]
    have e : amB needs rows n v = false := by simp only [amB, hr]
    rw [e1] at t1
    rw [e]
    exact rtF t1
  | some qs =>
    obtain ⟨rfl, ql, qo⟩ := ratQ_some hv hr
    have e1 : rowB n (.tuple (RL qs)) = aboveB qs := by simp only [rowB, hr]
    have e : amB needs rows n (.tuple (RL qs)) = (aboveB qs && !((List.zip (gv rows qs) needs).any fun p => lessQ p.1 p.2)) := by simp only [amB, hr]
    rw [e1] at t1
    rw [e]
    cases ha : aboveB qs with
    | false => rw [ha] at t1; exact rtF t1
    | true =>
      rw [ha] at t1
      refine nxF t1 ?_
      have gl : (gv rows qs).length = needs.length := by rw [List.length_map, M.len]
      rw [zip_any lessQ _ _ gl, gl]
      have h31 : ∀ r ∈ rows, retOf (callN (tbOf es) d) 31 [.v (.tuple (RL r)), .v (.tuple (RL qs))] = some (.v (RD (dotQ r qs))) := fun r hr => ldot_r hd' r qs (M.okR r hr) qo (by rw [M.wid r hr]; exact M.n8) (by rw [M.wid r hr, ql]; exact Nat.le_refl _)
      have h30 : ∀ r ∈ rows, ∀ w ∈ needs, retOf (callN (tbOf es) d) 30 [.v (RD (dotQ r qs)), .v (RD w)] = some (.v (.bool (lessQ (dotQ r qs) w))) := fun r hr w hw => llessD (by omega) (dot_ok (M.okR r hr) qo (by rw [M.wid r hr]; exact M.n8)) (M.okN w hw) (by omega)
      generalize callN (tbOf es) d = P at h30 h31 ⊢
      have nl : (.int ((RL needs).length : Int) : D) = I needs.length := congrArg PyData.int (by rw [List.length_map])
      have it := items_r2 needs.length (show _ ≤ cap by have := M.m8; unfold cap; omega)
      have c1 := lc_at0 (P := P) (t := .nm 2) (k := .rng) (its := [(.blt .len [(.idx (.var 0) (.cst (.int 0)))])]) (elt := (.not (.call 30 [(.call 31 [(.idx (.idx (.var 0) (.cst (.int 1))) (.var 2)), (.var 1)]), (.idx (.idx (.var 0) (.cst (.int 0))) (.var 2))]))) (own := [2]) (e := E_law_are_amounts (menu := .v (MD needs rows)) (value := .v (.tuple (RL qs)))) (ps := [.d (I needs.length)]) (ds := [I needs.length]) (fun i => .bool (!lessQ ((gv rows qs).getD i (0, 1)) (needs.getD i (0, 1)))) rfl (by
          rw [← nl]
          simp only [MD]
          generalize RL needs = ns; generalize TL rows = ts; generalize RL qs = xs
          simp) rfl it fun i x hx => by
        obtain ⟨h1, rfl⟩ := rngL_at hx
        rw [Int.zero_add]
        have ir : i < rows.length := by rw [M.len]; exact h1
        have a1 := TLat ir
        have a2 := RLat h1
        have q1 := h31 _ (List.getElem_mem ir)
        have q2 := h30 _ (List.getElem_mem ir) _ (List.getElem_mem h1)
        have eg : (gv rows qs).getD i (0, 1) = dotQ rows[i] qs := by
          rw [List.getD_eq_getElem?_getD, List.getElem?_map, List.getElem?_eq_getElem ir]; rfl
        have en : needs.getD i (0, 1) = needs[i] := by rw [List.getD_eq_getElem?_getD, List.getElem?_eq_getElem h1]; rfl
        rw [eg, en]
        generalize lessQ (dotQ rows[i] qs) needs[i] = b at q2 ⊢
        generalize dotQ rows[i] qs = u at q1 q2 ⊢
        generalize needs[i] = w at a2 q2 ⊢
        generalize RL rows[i] = rs at a1 q1 ⊢
        simp only [MD]
        generalize RL needs = ns at a2 ⊢
        generalize TL rows = ts at a1 ⊢
        generalize RL qs = xs at q1 ⊢
        exact ⟨E_law_are_amounts (menu := .v (.tuple [.tuple ns, .tuple ts])) (value := .v (.tuple xs)) (i := .v (I i)), by simp [setS_t], rfl, by simp [a1, a2, q1, q2]⟩
      rw [rngL_len] at c1
      exact Go.ret (f := .cst .none) (en2 := E_law_are_amounts (menu := .v (MD needs rows)) (value := .v (.tuple (RL qs)))) (all_tst (law_are_amounts_c1_o _ _) c1 (bmap_all _ _)).2
theorem lbar_r {d : Nat} (hd : 5 ≤ d) (v : D) (hv : VB v) : retOf (callN (tbOf es) d) 38 [.v (MD needs rows), .v v] = some (.v (.bool (baB needs rows n v))) := by
  obtain ⟨d, rfl, hd'⟩ := lev (c := 4) hd
  refine fn_go (i := i__law_is_bar) rfl rfl rfl ?_
  show Go (callN (tbOf es) d) b__law_is_bar (E_law_is_bar (menu := .v (MD needs rows)) (value := .v v)) _
  have h36 := columns_r M (d := d) (by omega)
  have h34 := lrow_r (d := d) (by omega) v needs.length hv
  have nl : I needs.length = .int ((RL needs).length : Int) := congrArg PyData.int (by rw [List.length_map])
  have t1 : (ev (callN (tbOf es) d) (.not (.call 34 [(.var 1), (.blt .len [(.idx (.var 0) (.cst (.int 0)))])]))).tst (E_law_is_bar (menu := .v (MD needs rows)) (value := .v v)) = some (!rowB needs.length v, E_law_is_bar (menu := .v (MD needs rows)) (value := .v v)) := by
    rw [nl] at h34
    generalize rowB needs.length v = b at h34 ⊢
    generalize callN (tbOf es) d = P at h34 ⊢
    simp only [MD]
    generalize RL needs = ns at h34 ⊢
    generalize TL rows = ts
    exact not_tst (by simp [h34])
  cases hr : ratQ needs.length v with
  | none =>
    have e1 : rowB needs.length v = false := by simp only [rowB, hr]
    have e : baB needs rows n v = false := by simp only [baB, hr]
    rw [e1] at t1
    rw [e]
    exact rtF (bop_tst (or_T t1))
  | some qs =>
    obtain ⟨rfl, ql, qo⟩ := ratQ_some hv hr
    have e1 : rowB needs.length (.tuple (RL qs)) = aboveB qs := by simp only [rowB, hr]
    have e : baB needs rows n (.tuple (RL qs)) = (aboveB qs && (!((wo rows n qs).any fun w => decide (0 < w.1)) && decide (0 < (dotQ qs needs).1))) := by simp only [baB, hr]
    rw [e1] at t1
    rw [e]
    cases ha : aboveB qs with
    | false => rw [ha] at t1; exact rtF (bop_tst (or_T t1))
    | true =>
      rw [ha] at t1
      have ql8 : qs.length ≤ 8 := by rw [ql]; exact M.m8
      have h31 := ldot_r hd' qs needs qo M.okN ql8 (by omega)
      have h31' : ∀ c ∈ cols rows n, retOf (callN (tbOf es) d) 31 [.v (.tuple (RL qs)), .v (.tuple (RL c))] = some (.v (RD (dotQ qs c))) := fun c hc => ldot_r hd' qs c qo (cols_ok M c hc) ql8 (by rw [col_len c hc, M.len, ql]; exact Nat.le_refl _)
      generalize callN (tbOf es) d = P at h31 h31' h36 t1 ⊢
      have t2 : (ev P (.not (.cmp .Gt (.idx (.call 31 [(.var 1), (.idx (.var 0) (.cst (.int 0)))]) (.cst (.int 0))) (.cst (.int 0))))).tst (E_law_is_bar (menu := .v (MD needs rows)) (value := .v (.tuple (RL qs)))) = some (!decide (0 < (dotQ qs needs).1), E_law_is_bar (menu := .v (MD needs rows)) (value := .v (.tuple (RL qs)))) := by
        generalize dotQ qs needs = u at h31 ⊢
        simp only [MD]
        generalize RL needs = ns at h31 ⊢
        generalize TL rows = ts
        generalize RL qs = xs at h31 ⊢
        exact not_tst (by simp [h31])
      have eb : (true && (!((wo rows n qs).any fun w => decide (0 < w.1)) && decide (0 < (dotQ qs needs).1))) = (decide (0 < (dotQ qs needs).1) && (cols rows n).all fun c => decide ((dotQ qs c).1 ≤ 0)) := by
        rw [Bool.true_and, Bool.and_comm, List.not_any_eq_all_not, List.all_map]
        congr 2
        funext c
        show (!decide (0 < (dotQ qs c).1)) = _
        by_cases h : 0 < (dotQ qs c).1
        · rw [decide_eq_true h, decide_eq_false (by omega)]; rfl
        · rw [decide_eq_false h, decide_eq_true (by omega)]; rfl
      rw [eb]
      cases hk : decide (0 < (dotQ qs needs).1) with
      | false =>
        rw [hk] at t2
        exact rtF (bop_tst (or_F t1 (or_1 t2)))
      | true =>
        rw [hk] at t2
        refine nxF (bop_tst (or_F t1 (or_1 t2))) ?_
        have c1 : (ev P law_is_bar_c1).val (E_law_is_bar (menu := .v (MD needs rows)) (value := .v (.tuple (RL qs)))) = some (.l ((cols rows n).map fun c => .bool (decide ((dotQ qs c).1 ≤ 0))), E_law_is_bar (menu := .v (MD needs rows)) (value := .v (.tuple (RL qs)))) := by
          refine lc_ofA (ps := [.d (.list (TL (cols rows n)))]) (ds := [.list (TL (cols rows n))]) (cols rows n) _ _ rfl ?_ rfl (items_l _) fun c hc => ?_
          · generalize TL (cols rows n) = cs at h36 ⊢
            generalize MD needs rows = m at h36 ⊢
            generalize RL qs = xs
            simp [h36]
          · have h := h31' c hc
            generalize dotQ qs c = u at h ⊢
            generalize MD needs rows = m
            generalize RL c = ys at h ⊢
            generalize RL qs = xs at h ⊢
            exact ⟨E_law_is_bar (menu := .v m) (value := .v (.tuple xs)) (column := .v (.tuple ys)), by simp [setS_t], rfl, by simp [h]⟩
        exact Go.ret (f := .cst .none) (en2 := E_law_is_bar (menu := .v (MD needs rows)) (value := .v (.tuple (RL qs)))) (all_tst (law_is_bar_c1_o _ _) c1 (bmap_all _ _)).2
end
end
end Law

namespace Law
open PySem PySem.Spec L2 Mini
section
section
variable {needs : List Q} {rows : List (List Q)} {n : Nat} (M : Mn needs rows n)
include M
theorem lprices_r {d : Nat} (hd : 5 ≤ d) (costs : List Q) (hc : ∀ q ∈ costs, Ok 100 q) (hcl : costs.length = n) (v : D) (hv : VB v) : retOf (callN (tbOf es) d) 39 [.v (MD needs rows), .v (.tuple (RL costs)), .v v] = some (.v (.bool (prB needs rows n costs v))) := by
  obtain ⟨d, rfl, hd'⟩ := lev (c := 4) hd
  refine fn_go (i := i__law_are_prices) rfl rfl rfl ?_
  show Go (callN (tbOf es) d) b__law_are_prices (E_law_are_prices (menu := .v (MD needs rows)) (costs := .v (.tuple (RL costs))) (value := .v v)) _
  have h36 := columns_r M (d := d) (by omega)
  have h34 := lrow_r (d := d) (by omega) v needs.length hv
  have nl : I needs.length = .int ((RL needs).length : Int) := congrArg PyData.int (by rw [List.length_map])
  have t1 : (ev (callN (tbOf es) d) (.not (.call 34 [(.var 2), (.blt .len [(.idx (.var 0) (.cst (.int 0)))])]))).tst (E_law_are_prices (menu := .v (MD needs rows)) (costs := .v (.tuple (RL costs))) (value := .v v)) = some (!rowB needs.length v, E_law_are_prices (menu := .v (MD needs rows)) (costs := .v (.tuple (RL costs))) (value := .v v)) := by
    rw [nl] at h34
    generalize rowB needs.length v = b at h34 ⊢
    generalize callN (tbOf es) d = P at h34 ⊢
    simp only [MD]
    generalize RL needs = ns at h34 ⊢
    generalize TL rows = ts
    generalize RL costs = cs
    exact not_tst (by simp [h34])
  cases hr : ratQ needs.length v with
  | none =>
    have e1 : rowB needs.length v = false := by simp only [rowB, hr]
    have e : prB needs rows n costs v = false := by simp only [prB, hr]
    rw [e1] at t1
    rw [e]
    exact rtF t1
  | some qs =>
    obtain ⟨rfl, ql, qo⟩ := ratQ_some hv hr
    have e1 : rowB needs.length (.tuple (RL qs)) = aboveB qs := by simp only [rowB, hr]
    have e : prB needs rows n costs (.tuple (RL qs)) = (aboveB qs && !((List.zip costs (wo rows n qs)).any fun p => lessQ p.1 p.2)) := by simp only [prB, hr]
    rw [e1] at t1
    rw [e]
    cases ha : aboveB qs with
    | false => rw [ha] at t1; exact rtF t1
    | true =>
      rw [ha] at t1
      refine nxF t1 ?_
      have ql8 : qs.length ≤ 8 := by rw [ql]; exact M.m8
      have wl : (wo rows n qs).length = n := by rw [List.length_map, cols_len]
      rw [zip_any lessQ _ _ (by rw [hcl, wl]), hcl]
      have h31' : ∀ c ∈ cols rows n, retOf (callN (tbOf es) d) 31 [.v (.tuple (RL qs)), .v (.tuple (RL c))] = some (.v (RD (dotQ qs c))) := fun c hc => ldot_r hd' qs c qo (cols_ok M c hc) ql8 (by rw [col_len c hc, M.len, ql]; exact Nat.le_refl _)
      have h30 : ∀ w ∈ costs, ∀ c ∈ cols rows n, retOf (callN (tbOf es) d) 30 [.v (RD w), .v (RD (dotQ qs c))] = some (.v (.bool (lessQ w (dotQ qs c)))) := fun w hw c hc' => llessD (by omega) (hc w hw) (dot_ok qo (cols_ok M c hc') ql8) (by omega)
      generalize callN (tbOf es) d = P at h30 h31' h36 ⊢
      refine Go.cons (f := E_law_are_prices (menu := .v (MD needs rows)) (costs := .v (.tuple (RL costs))) (value := .v (.tuple (RL qs))) (columns := .l (TL (cols rows n)))) (.of ?_) ?_
      · generalize TL (cols rows n) = cs at h36 ⊢
        generalize MD needs rows = m at h36 ⊢
        generalize RL costs = c
        generalize RL qs = xs
        simp [h36, setS_t]
      have nl : (.int ((TL (cols rows n)).length : Int) : D) = I n := congrArg PyData.int (by rw [List.length_map, cols_len])
      have it := items_r2 n (show _ ≤ cap by have := M.n8; unfold cap; omega)
      have c1 := lc_at0 (P := P) (t := .nm 4) (k := .rng) (its := [(.blt .len [(.var 3)])]) (elt := (.not (.call 30 [(.idx (.var 1) (.var 4)), (.call 31 [(.var 2), (.idx (.var 3) (.var 4))])]))) (own := [4]) (e := E_law_are_prices (menu := .v (MD needs rows)) (costs := .v (.tuple (RL costs))) (value := .v (.tuple (RL qs))) (columns := .l (TL (cols rows n)))) (ps := [.d (I n)]) (ds := [I n]) (fun i => .bool (!lessQ (costs.getD i (0, 1)) ((wo rows n qs).getD i (0, 1)))) rfl (by
          rw [← nl]
          generalize TL (cols rows n) = cs
          generalize MD needs rows = m
          generalize RL costs = c
          generalize RL qs = xs
          simp) rfl it fun i x hx => by
        obtain ⟨h1, rfl⟩ := rngL_at hx
        rw [Int.zero_add]
        have ic : i < costs.length := by rw [hcl]; exact h1
        have io : i < (cols rows n).length := by rw [cols_len]; exact h1
        have a1 := TLat io
        have a2 := RLat ic
        have q1 := h31' _ (List.getElem_mem io)
        have q2 := h30 _ (List.getElem_mem ic) _ (List.getElem_mem io)
        have eg : (wo rows n qs).getD i (0, 1) = dotQ qs (cols rows n)[i] := by
          rw [List.getD_eq_getElem?_getD, List.getElem?_map, List.getElem?_eq_getElem io]; rfl
        have en : costs.getD i (0, 1) = costs[i] := by rw [List.getD_eq_getElem?_getD, List.getElem?_eq_getElem ic]; rfl
        rw [eg, en]
        generalize lessQ costs[i] (dotQ qs (cols rows n)[i]) = b at q2 ⊢
        generalize dotQ qs (cols rows n)[i] = u at q1 q2 ⊢
        generalize costs[i] = w at a2 q2 ⊢
        generalize RL (cols rows n)[i] = rs at a1 q1 ⊢
        generalize TL (cols rows n) = cs at a1 ⊢
        generalize MD needs rows = m
        generalize RL costs = c at a2 ⊢
        generalize RL qs = xs at q1 ⊢
        exact ⟨E_law_are_prices (menu := .v m) (costs := .v (.tuple c)) (value := .v (.tuple xs)) (columns := .l cs) (j := .v (I i)), by simp [setS_t], rfl, by simp [a1, a2, q1, q2]⟩
      rw [rngL_len] at c1
      exact Go.ret (f := .cst .none) (en2 := E_law_are_prices (menu := .v (MD needs rows)) (costs := .v (.tuple (RL costs))) (value := .v (.tuple (RL qs))) (columns := .l (TL (cols rows n)))) (all_tst (law_are_prices_c1_o _ _) c1 (bmap_all _ _)).2
theorem lsaving_r {d : Nat} (hd : 5 ≤ d) (costs : List Q) (hc : ∀ q ∈ costs, Ok 100 q) (hcl : costs.length = n) (v : D) (hv : VB v) : retOf (callN (tbOf es) d) 40 [.v (MD needs rows), .v (.tuple (RL costs)), .v v] = some (.v (.bool (saB rows n costs v))) := by
  obtain ⟨d, rfl, hd'⟩ := lev (c := 4) hd
  refine fn_go (i := i__law_is_saving) rfl rfl rfl ?_
  show Go (callN (tbOf es) d) b__law_is_saving (E_law_is_saving (menu := .v (MD needs rows)) (costs := .v (.tuple (RL costs))) (value := .v v)) _
  have h36 := columns_r M (d := d) (by omega)
  have cl : I n = .int ((TL (cols rows n)).length : Int) := congrArg PyData.int (by rw [List.length_map, cols_len])
  have h34 := lrow_r (d := d) (by omega) v n hv
  have t1 : (ev (callN (tbOf es) d) (.not (.call 34 [(.var 2), (.blt .len [(.call 36 [(.var 0)])])]))).tst (E_law_is_saving (menu := .v (MD needs rows)) (costs := .v (.tuple (RL costs))) (value := .v v)) = some (!rowB n v, E_law_is_saving (menu := .v (MD needs rows)) (costs := .v (.tuple (RL costs))) (value := .v v)) := by
    rw [cl] at h34
    generalize callN (tbOf es) d = P at h36 h34 ⊢
    generalize TL (cols rows n) = cs at h36 h34
    generalize MD needs rows = m at h36 ⊢
    generalize RL costs = c
    exact not_tst (by simp [h36, h34])
  cases hr : ratQ n v with
  | none =>
    have e1 : rowB n v = false := by simp only [rowB, hr]
    have e : saB rows n costs v = false := by simp only [saB, hr]
    rw [e1] at t1
    rw [e]
    exact rtF t1
  | some qs =>
    obtain ⟨rfl, ql, qo⟩ := ratQ_some hv hr
    have e1 : rowB n (.tuple (RL qs)) = aboveB qs := by simp only [rowB, hr]
    have e : saB rows n costs (.tuple (RL qs)) = (aboveB qs && (aboveB (gv rows qs) && decide ((dotQ costs qs).1 < 0))) := by simp only [saB, hr]
    rw [e1] at t1
    rw [e]
    cases ha : aboveB qs with
    | false => rw [ha] at t1; exact rtF t1
    | true =>
      rw [ha] at t1
      refine nxF t1 ?_
      have h31 : ∀ r ∈ rows, retOf (callN (tbOf es) d) 31 [.v (.tuple (RL r)), .v (.tuple (RL qs))] = some (.v (RD (dotQ r qs))) := fun r hr => ldot_r hd' r qs (M.okR r hr) qo (by rw [M.wid r hr]; exact M.n8) (by rw [M.wid r hr, ql]; exact Nat.le_refl _)
      have h31' := ldot_r hd' costs qs hc qo (by rw [hcl]; exact M.n8) (by omega)
      generalize callN (tbOf es) d = P at h31 h31' ⊢
      have c1 : (ev P law_is_saving_c1).val (E_law_is_saving (menu := .v (MD needs rows)) (costs := .v (.tuple (RL costs))) (value := .v (.tuple (RL qs)))) = some (.l (rows.map fun r => .bool (decide (0 ≤ (dotQ r qs).1))), E_law_is_saving (menu := .v (MD needs rows)) (costs := .v (.tuple (RL costs))) (value := .v (.tuple (RL qs)))) := by
        refine lc_ofA (ps := [.d (.tuple (TL rows))]) (ds := [.tuple (TL rows)]) rows _ _ rfl ?_ rfl (items_t (TL rows)) fun r hr => ?_
        · simp only [MD]
          generalize TL rows = ts
          generalize RL needs = ns
          generalize RL costs = c
          generalize RL qs = xs
          simp
        · have h := h31 r hr
          generalize dotQ r qs = u at h ⊢
          generalize MD needs rows = m
          generalize RL costs = c
          generalize RL qs = xs at h ⊢
          generalize RL r = ys at h ⊢
          exact ⟨E_law_is_saving (menu := .v m) (costs := .v (.tuple c)) (value := .v (.tuple xs)) (row := .v (.tuple ys)), by simp [setS_t], rfl, by simp [h]⟩
      have t3 := (all_tst (law_is_saving_c1_o _ _) c1 (bmap_all _ rows)).2
      have ea : (rows.all fun r => decide (0 ≤ (dotQ r qs).1)) = aboveB (gv rows qs) := by unfold aboveB; rw [List.all_map]; rfl
      rw [ea] at t3
      have t4 : (ev P (.cmp .Lt (.idx (.call 31 [(.var 1), (.var 2)]) (.cst (.int 0))) (.cst (.int 0)))).val (E_law_is_saving (menu := .v (MD needs rows)) (costs := .v (.tuple (RL costs))) (value := .v (.tuple (RL qs)))) = some (.v (.bool (decide ((dotQ costs qs).1 < 0))), E_law_is_saving (menu := .v (MD needs rows)) (costs := .v (.tuple (RL costs))) (value := .v (.tuple (RL qs)))) := by
        generalize dotQ costs qs = u at h31' ⊢
        generalize MD needs rows = m
        generalize RL costs = c at h31' ⊢
        generalize RL qs = xs at h31' ⊢
        simp [h31']
      refine Go.ret (f := .cst .none) (en2 := E_law_is_saving (menu := .v (MD needs rows)) (costs := .v (.tuple (RL costs))) (value := .v (.tuple (RL qs)))) ?_
      rw [ev_bop, evs_cons, evs_cons, evs_nil]
      have := and2v t3 t4
      exact this
end
end
end Law

namespace Law
open PySem PySem.Spec L2 Mini
section
def isT : D → Bool
  | .tuple _ => true
  | _ => false
def d0 : List D → Nat
  | .tuple xs :: _ => xs.length
  | _ => 0
def menuB : D → Bool
  | .tuple [.tuple ns, .tuple ts] => decide (ns.length ≤ 8) && (ns.all isR && (decide (ts.length = ns.length) && (ts.all isT && (decide (d0 ts ≤ 8) && ts.all fun r => (ratQ (d0 ts) r).isSome))))
  | _ => false
theorem isT_t {v : D} (h : isT v = true) : ∃ xs, v = .tuple xs := by
  cases v <;> first | exact ⟨_, rfl⟩ | cases h
theorem isi_T (v : D) : isiD v .tuple = isT v := by cases v <;> rfl
theorem menuB_len {xs : List D} (h : xs.length ≠ 2) : menuB (.tuple xs) = false := by
  match xs, h with
  | [], _ => rfl
  | [a], _ => cases a <;> rfl
  | [_, _], h => exact (h rfl).elim
  | a :: b :: c :: r, _ => cases a <;> first | rfl | (cases b <;> rfl)
theorem menuB_a {a b : D} (h : isT a = false) : menuB (.tuple [a, b]) = false := by cases a <;> first | rfl | cases h
theorem menuB_b {a b : D} (h : isT b = false) : menuB (.tuple [a, b]) = false := by cases a <;> first | rfl | (cases b <;> first | rfl | cases h)
theorem rat_all (ns : List D) : (ratQ ns.length (.tuple ns)).isSome = ns.all isR := by
  simp only [ratQ, true_and]
  by_cases h : ns.all isR = true
  · rw [if_pos h]; exact h.symm
  · rw [if_neg h]
    have : ns.all isR = false := by simpa using h
    rw [this]; rfl
theorem is_menu_r {d : Nat} (hd : 4 ≤ d) (v : D) : retOf (callN (tbOf es) d) 9 [.v v] = some (.v (.bool (menuB v))) := by
  obtain ⟨d, rfl, hd'⟩ := lev (c := 3) hd
  refine fn_go (i := i_is_menu) rfl rfl rfl ?_
  show Go (callN (tbOf es) d) b_is_menu (E_is_menu (value := .v v)) _
  have h8 := fun v n => ratios_r hd' v n
  generalize callN (tbOf es) d = P at h8 ⊢
  have nt : isT v = false → Go P b_is_menu (E_is_menu (value := .v v)) (.rt (.v (.bool false))) := fun h => rtF (e1 := E_is_menu (value := .v v)) (bop_tst (or_T (not_tst (b := false) (by simp [isi_T, h]))))
  cases v with
  | tuple xs =>
    have t0 : (ev P (.not (.isi (.var 0) .tuple))).tst (E_is_menu (value := .v (.tuple xs))) = some (false, E_is_menu (value := .v (.tuple xs))) := not_tst (b := true) (by simp)
    by_cases hl : xs.length = 2
    · match xs, hl, t0 with
      | [a, b], _, t0 =>
        have t1 : (ev P (.cmp .NotEq (.blt .len [(.var 0)]) (.cst (.int 2)))).tst (E_is_menu (value := .v (.tuple [a, b]))) = some (false, E_is_menu (value := .v (.tuple [a, b]))) := by simp
        have t2 : (ev P (.not (.isi (.idx (.var 0) (.cst (.int 0))) .tuple))).tst (E_is_menu (value := .v (.tuple [a, b]))) = some (!isT a, E_is_menu (value := .v (.tuple [a, b]))) := not_tst (by simp [isi_T])
        cases ha : isT a with
        | false =>
          rw [ha] at t2
          rw [menuB_a ha]
          exact rtF (bop_tst (or_F t0 (or_F t1 (or_1 t2))))
        | true =>
          rw [ha] at t2
          obtain ⟨ns, rfl⟩ := isT_t ha
          refine nxF (bop_tst (or_F t0 (or_F t1 (or_1 t2)))) ?_
          refine Go.cons (f := E_is_menu (value := .v (.tuple [.tuple ns, b])) (needs := .v (.tuple ns)) (table := .v b)) (.of (by simp [setS_t])) ?_
          have u1 : (ev P (.cmp .Gt (.blt .len [(.var 1)]) (.cst (.int 8)))).tst (E_is_menu (value := .v (.tuple [.tuple ns, b])) (needs := .v (.tuple ns)) (table := .v b)) = some (!decide (ns.length ≤ 8), E_is_menu (value := .v (.tuple [.tuple ns, b])) (needs := .v (.tuple ns)) (table := .v b)) := by
            have e : ((8 : Int) < (ns.length : Int)) ↔ ¬ ns.length ≤ 8 := by omega
            by_cases h : ns.length ≤ 8 <;> simp [e, h] <;> omega
          have u2 : (ev P (.not (.call 8 [(.var 1), (.blt .len [(.var 1)])]))).tst (E_is_menu (value := .v (.tuple [.tuple ns, b])) (needs := .v (.tuple ns)) (table := .v b)) = some (!ns.all isR, E_is_menu (value := .v (.tuple [.tuple ns, b])) (needs := .v (.tuple ns)) (table := .v b)) := by
            have h := h8 (.tuple ns) ns.length
            rw [rat_all] at h
            exact not_tst (by simp [h])
          cases hb : isT b with
          | false =>
            rw [menuB_b hb]
            cases q1 : decide (ns.length ≤ 8) with
            | false => rw [q1] at u1; exact rtF (bop_tst (or_T u1))
            | true =>
              rw [q1] at u1
              cases q2 : ns.all isR with
              | false => rw [q2] at u2; exact rtF (bop_tst (or_F u1 (or_1 u2)))
              | true =>
                rw [q2] at u2
                refine nxF (bop_tst (or_F u1 (or_1 u2))) ?_
                exact rtF (e1 := E_is_menu (value := .v (.tuple [.tuple ns, b])) (needs := .v (.tuple ns)) (table := .v b)) (bop_tst (or_T (not_tst (b := false) (by simp [isi_T, hb]))))
          | true =>
            obtain ⟨ts, rfl⟩ := isT_t hb
            show Go P _ _ (.rt (.v (.bool (decide (ns.length ≤ 8) && (ns.all isR && (decide (ts.length = ns.length) && (ts.all isT && (decide (d0 ts ≤ 8) && ts.all fun r => (ratQ (d0 ts) r).isSome))))))))
            cases q1 : decide (ns.length ≤ 8) with
            | false => rw [q1] at u1; exact rtF (bop_tst (or_T u1))
            | true =>
              rw [q1] at u1
              cases q2 : ns.all isR with
              | false => rw [q2] at u2; exact rtF (bop_tst (or_F u1 (or_1 u2)))
              | true =>
                rw [q2] at u2
                refine nxF (bop_tst (or_F u1 (or_1 u2))) ?_
                have w0 : (ev P (.not (.isi (.var 2) .tuple))).tst (E_is_menu (value := .v (.tuple [.tuple ns, .tuple ts])) (needs := .v (.tuple ns)) (table := .v (.tuple ts))) = some (false, E_is_menu (value := .v (.tuple [.tuple ns, .tuple ts])) (needs := .v (.tuple ns)) (table := .v (.tuple ts))) := not_tst (b := true) (by simp)
                have w1 : (ev P (.cmp .NotEq (.blt .len [(.var 2)]) (.blt .len [(.var 1)]))).tst (E_is_menu (value := .v (.tuple [.tuple ns, .tuple ts])) (needs := .v (.tuple ns)) (table := .v (.tuple ts))) = some (!decide (ts.length = ns.length), E_is_menu (value := .v (.tuple [.tuple ns, .tuple ts])) (needs := .v (.tuple ns)) (table := .v (.tuple ts))) := by
                  have e : ((ts.length : Int) = (ns.length : Int)) ↔ ts.length = ns.length := by omega
                  by_cases h : ts.length = ns.length
                  · simp [h]
                  · simp [e, h]
                have c1 : (ev P is_menu_c1).val (E_is_menu (value := .v (.tuple [.tuple ns, .tuple ts])) (needs := .v (.tuple ns)) (table := .v (.tuple ts))) = some (.l (ts.map fun x => .bool (isT x)), E_is_menu (value := .v (.tuple [.tuple ns, .tuple ts])) (needs := .v (.tuple ns)) (table := .v (.tuple ts))) := by
                  refine lc_of0 (ps := [.d (.tuple ts)]) (ds := [.tuple ts]) (fun x => .bool (isT x)) rfl rfl rfl (items_t ts) fun x hx => ?_
                  exact ⟨E_is_menu (value := .v (.tuple [.tuple ns, .tuple ts])) (needs := .v (.tuple ns)) (table := .v (.tuple ts)) (row := .v x), by simp [setS_t], rfl, by simp [isi_T]⟩
                have w2 := not_tst (all_tst (is_menu_c1_o _ _) c1 (bmap_all _ ts)).1
                cases q3 : decide (ts.length = ns.length) with
                | false => rw [q3] at w1; exact rtF (bop_tst (or_F w0 (or_T w1)))
                | true =>
                  rw [q3] at w1
                  cases q4 : ts.all isT with
                  | false => rw [q4] at w2; exact rtF (bop_tst (or_F w0 (or_F w1 (or_1 w2))))
                  | true =>
                    rw [q4] at w2
                    refine nxF (bop_tst (or_F w0 (or_F w1 (or_1 w2)))) ?_
                    refine Go.cons (f := E_is_menu (value := .v (.tuple [.tuple ns, .tuple ts])) (needs := .v (.tuple ns)) (table := .v (.tuple ts)) (dishes := .v (I (d0 ts)))) (.of ?_) ?_
                    · match ts, q4 with
                      | [], _ => simp [setS_t, truth, d0]
                      | t :: ts, q4 =>
                        have : isT t = true := by simp at q4; exact q4.1
                        obtain ⟨ys, rfl⟩ := isT_t this
                        simp [setS_t, truth, d0]
                    · have v1 : (ev P (.cmp .LtE (.var 4) (.cst (.int 8)))).val (E_is_menu (value := .v (.tuple [.tuple ns, .tuple ts])) (needs := .v (.tuple ns)) (table := .v (.tuple ts)) (dishes := .v (I (d0 ts)))) = some (.v (.bool (decide (d0 ts ≤ 8))), E_is_menu (value := .v (.tuple [.tuple ns, .tuple ts])) (needs := .v (.tuple ns)) (table := .v (.tuple ts)) (dishes := .v (I (d0 ts)))) := by
                        generalize d0 ts = k
                        have e : ((k : Int) ≤ 8) ↔ k ≤ 8 := by omega
                        by_cases h : k ≤ 8 <;> simp [e, h]
                      have c2 : (ev P is_menu_c2).val (E_is_menu (value := .v (.tuple [.tuple ns, .tuple ts])) (needs := .v (.tuple ns)) (table := .v (.tuple ts)) (dishes := .v (I (d0 ts)))) = some (.l (ts.map fun r => .bool (ratQ (d0 ts) r).isSome), E_is_menu (value := .v (.tuple [.tuple ns, .tuple ts])) (needs := .v (.tuple ns)) (table := .v (.tuple ts)) (dishes := .v (I (d0 ts)))) := by
                        refine lc_of0 (ps := [.d (.tuple ts)]) (ds := [.tuple ts]) (fun r => .bool (ratQ (d0 ts) r).isSome) rfl rfl rfl (items_t ts) fun x hx => ?_
                        have h := h8 x (d0 ts)
                        generalize (ratQ (d0 ts) x).isSome = b at h ⊢
                        generalize d0 ts = k at h ⊢
                        exact ⟨E_is_menu (value := .v (.tuple [.tuple ns, .tuple ts])) (needs := .v (.tuple ns)) (table := .v (.tuple ts)) (row := .v x) (dishes := .v (I k)), by simp [setS_t], rfl, by simp [h]⟩
                      have v2 := (all_tst (is_menu_c2_o _ _) c2 (bmap_all _ ts)).2
                      refine Go.ret (f := .cst .none) (en2 := E_is_menu (value := .v (.tuple [.tuple ns, .tuple ts])) (needs := .v (.tuple ns)) (table := .v (.tuple ts)) (dishes := .v (I (d0 ts)))) ?_
                      rw [ev_bop, evs_cons, evs_cons, evs_nil]
                      have := and2v v1 v2
                      exact this
    · rw [menuB_len hl]
      refine rtF (bop_tst (or_F t0 (or_T (e1 := E_is_menu (value := .v (.tuple xs))) ?_)))
      have : ¬ (xs.length : Int) = 2 := by omega
      simp [hl, this]
  | _ => exact nt rfl
end
end Law

namespace Law
open PySem PySem.Spec L2 Mini
section
def VM (v : D) : Prop := ∀ xs, v = .tuple xs → ∀ a ∈ xs, VB a ∧ ∀ rs, a = .tuple rs → ∀ r ∈ rs, VB r
def rowOk (f r : D) : Bool := match r, f with
  | .tuple xs, .tuple ys => decide (xs.length ≤ 8) && (decide (xs.length = ys.length) && xs.all isR)
  | _, _ => false
theorem menu_law (ns ts : List D) : menuB (.tuple [.tuple ns, .tuple ts]) = (decide (ns.length ≤ 8) && (decide (ts.length = ns.length) && ns.all isR) && ts.all (rowOk (ts.headD .none))) := by
  show (decide (ns.length ≤ 8) && (ns.all isR && (decide (ts.length = ns.length) && (ts.all isT && (decide (d0 ts ≤ 8) && ts.all fun r => (ratQ (d0 ts) r).isSome))))) = _
  have key : (ts.all isT && (decide (d0 ts ≤ 8) && ts.all fun r => (ratQ (d0 ts) r).isSome)) = ts.all (rowOk (ts.headD .none)) := by
    cases ts with
    | nil => rfl
    | cons f rest =>
      rw [Bool.eq_iff_iff]
      simp only [Bool.and_eq_true, decide_eq_true_eq, List.all_eq_true, List.headD_cons]
      constructor
      · rintro ⟨h1, h2, h3⟩ r hr
        obtain ⟨ys, hf⟩ := isT_t (h1 f List.mem_cons_self)
        obtain ⟨xs, hx⟩ := isT_t (h1 r hr)
        subst hf hx
        have := h3 _ hr
        have h2 : ys.length ≤ 8 := h2
        simp only [ratQ] at this
        split at this
        · rename_i hc
          have hc1 : xs.length = ys.length := hc.1
          simp only [rowOk, Bool.and_eq_true, decide_eq_true_eq]
          exact ⟨by omega, hc1, hc.2⟩
        · cases this
      · intro h
        have hf := h f List.mem_cons_self
        cases f with
        | tuple ys =>
          simp only [rowOk, Bool.and_eq_true, decide_eq_true_eq] at hf
          refine ⟨fun r hr => ?_, hf.1, fun r hr => ?_⟩
          · have := h r hr
            cases r <;> first | rfl | (simp [rowOk] at this)
          · have := h r hr
            cases r with
            | tuple xs =>
              simp only [rowOk, Bool.and_eq_true, decide_eq_true_eq] at this
              simp only [ratQ]
              rw [if_pos ⟨this.2.1, this.2.2⟩]; rfl
            | _ => simp [rowOk] at this
        | _ => simp [rowOk] at hf
  rw [key]
  cases decide (ns.length ≤ 8) <;> cases ns.all isR <;> cases decide (ts.length = ns.length) <;> rfl
theorem lmenu_1 (P : Ph) (a f r : D) (ts : List D) (part : Sl) (h32 : ∀ xs, r = .tuple xs → ∀ x ∈ xs, retOf P 32 [.v x] = some (.v (.bool (isR x)))) (hf : atI ts 0 = some f) :
    (rowOk f r = false → Go P law_is_menu_l1 (E_law_is_menu (value := .v (.tuple [a, .tuple ts])) (row := .v r)) (.rt (.v (.bool false)))) ∧ (rowOk f r = true → Go P law_is_menu_l1 (E_law_is_menu (value := .v (.tuple [a, .tuple ts])) (row := .v r)) (.nx (E_law_is_menu (value := .v (.tuple [a, .tuple ts]))))) := by
  have nt : isT r = false → Go P law_is_menu_l1 (E_law_is_menu (value := .v (.tuple [a, .tuple ts])) (row := .v r)) (.rt (.v (.bool false))) := fun h => rtF (e1 := E_law_is_menu (value := .v (.tuple [a, .tuple ts])) (row := .v r)) (bop_tst (or_T (not_tst (b := false) (by simp [isi_T, h]))))
  cases r with
  | tuple xs =>
    have t0 : (ev P (.not (.isi (.var 2) .tuple))).tst (E_law_is_menu (value := .v (.tuple [a, .tuple ts])) (row := .v (.tuple xs))) = some (false, E_law_is_menu (value := .v (.tuple [a, .tuple ts])) (row := .v (.tuple xs))) := not_tst (b := true) (by simp)
    have t1 : (ev P (.cmp .Gt (.blt .len [(.var 2)]) (.cst (.int 8)))).tst (E_law_is_menu (value := .v (.tuple [a, .tuple ts])) (row := .v (.tuple xs))) = some (!decide (xs.length ≤ 8), E_law_is_menu (value := .v (.tuple [a, .tuple ts])) (row := .v (.tuple xs))) := by
      have e : ((8 : Int) < (xs.length : Int)) ↔ ¬ xs.length ≤ 8 := by omega
      by_cases h : xs.length ≤ 8 <;> simp [e, h] <;> omega
    have t2 : (ev P (.not (.isi (.idx (.idx (.var 0) (.cst (.int 1))) (.cst (.int 0))) .tuple))).tst (E_law_is_menu (value := .v (.tuple [a, .tuple ts])) (row := .v (.tuple xs))) = some (!isT f, E_law_is_menu (value := .v (.tuple [a, .tuple ts])) (row := .v (.tuple xs))) := not_tst (by simp [hf, isi_T])
    have c2 : (ev P law_is_menu_c2).val (E_law_is_menu (value := .v (.tuple [a, .tuple ts])) (row := .v (.tuple xs))) = some (.l (xs.map fun x => .bool (isR x)), E_law_is_menu (value := .v (.tuple [a, .tuple ts])) (row := .v (.tuple xs))) := by
      refine lc_of0 (ps := [.d (.tuple xs)]) (ds := [.tuple xs]) (fun x => .bool (isR x)) rfl rfl rfl (items_t xs) fun x hx => ?_
      have h := h32 xs rfl x hx
      exact ⟨E_law_is_menu (value := .v (.tuple [a, .tuple ts])) (part := .v x) (row := .v (.tuple xs)), by simp [setS_t], rfl, by simp [h]⟩
    have t4 := not_tst (all_tst (law_is_menu_c2_o _ _) c2 (bmap_all _ xs)).1
    cases q1 : decide (xs.length ≤ 8) with
    | false =>
      rw [q1] at t1
      have e : rowOk f (.tuple xs) = false := by cases f <;> simp [rowOk, q1]
      exact ⟨fun _ => rtF (bop_tst (or_F t0 (or_T t1))), fun h => by rw [e] at h; cases h⟩
    | true =>
      rw [q1] at t1
      cases q2 : isT f with
      | false =>
        rw [q2] at t2
        have e : rowOk f (.tuple xs) = false := by cases f <;> first | rfl | cases q2
        exact ⟨fun _ => rtF (bop_tst (or_F t0 (or_F t1 (or_T t2)))), fun h => by rw [e] at h; cases h⟩
      | true =>
        rw [q2] at t2
        obtain ⟨ys, rfl⟩ := isT_t q2
        have t3 : (ev P (.cmp .NotEq (.blt .len [(.var 2)]) (.blt .len [(.idx (.idx (.var 0) (.cst (.int 1))) (.cst (.int 0)))]))).tst (E_law_is_menu (value := .v (.tuple [a, .tuple ts])) (row := .v (.tuple xs))) = some (!decide (xs.length = ys.length), E_law_is_menu (value := .v (.tuple [a, .tuple ts])) (row := .v (.tuple xs))) := by
          have e : ((xs.length : Int) = (ys.length : Int)) ↔ xs.length = ys.length := by omega
          by_cases h : xs.length = ys.length
          · simp [hf, h]
          · simp [hf, e, h]
        have e : rowOk (.tuple ys) (.tuple xs) = (decide (xs.length = ys.length) && xs.all isR) := by simp only [rowOk, q1, Bool.true_and]
        rw [e]
        cases q3 : decide (xs.length = ys.length) with
        | false =>
          rw [q3] at t3
          exact ⟨fun _ => rtF (bop_tst (or_F t0 (or_F t1 (or_F t2 (or_T t3))))), fun h => by cases h⟩
        | true =>
          rw [q3] at t3
          cases q4 : xs.all isR with
          | false =>
            rw [q4] at t4
            exact ⟨fun _ => rtF (bop_tst (or_F t0 (or_F t1 (or_F t2 (or_F t3 (or_1 t4)))))), fun h => by cases h⟩
          | true =>
            rw [q4] at t4
            exact ⟨fun h => (by cases h), fun _ => nxF (bop_tst (or_F t0 (or_F t1 (or_F t2 (or_F t3 (or_1 t4)))))) (.nil (by simp))⟩
  | _ => exact ⟨fun _ => nt rfl, fun h => by cases f <;> cases h⟩
theorem lis_menu_r {d : Nat} (hd : 3 ≤ d) (v : D) (hv : VM v) : retOf (callN (tbOf es) d) 41 [.v v] = some (.v (.bool (menuB v))) := by
  obtain ⟨d, rfl, hd'⟩ := lev (c := 2) hd
  refine fn_go (i := i__law_is_menu) rfl rfl rfl ?_
  show Go (callN (tbOf es) d) b__law_is_menu (E_law_is_menu (value := .v v)) _
  have h32 : ∀ w, VB w → ∀ xs, w = .tuple xs → ∀ x ∈ xs, retOf (callN (tbOf es) d) 32 [.v x] = some (.v (.bool (isR x))) := fun w hw xs e x hx => lis_ratio_r hd' x fun a b e2 => by
    obtain ⟨q1, q2⟩ := hw xs e x hx a b e2
    exact ⟨sm_of q1 (by omega), sm_of q2 (by omega)⟩
  generalize callN (tbOf es) d = P at h32 ⊢
  have nt : isT v = false → Go P b__law_is_menu (E_law_is_menu (value := .v v)) (.rt (.v (.bool false))) := fun h => rtF (e1 := E_law_is_menu (value := .v v)) (bop_tst (or_T (not_tst (b := false) (by simp [isi_T, h]))))
  cases v with
  | tuple xs =>
    have t0 : (ev P (.not (.isi (.var 0) .tuple))).tst (E_law_is_menu (value := .v (.tuple xs))) = some (false, E_law_is_menu (value := .v (.tuple xs))) := not_tst (b := true) (by simp)
    by_cases hl : xs.length = 2
    · match xs, hl, t0, hv with
      | [a, b], _, t0, hv =>
        obtain ⟨va, _⟩ := hv _ rfl a (by simp)
        obtain ⟨_, vb⟩ := hv _ rfl b (by simp)
        have t1 : (ev P (.cmp .NotEq (.blt .len [(.var 0)]) (.cst (.int 2)))).tst (E_law_is_menu (value := .v (.tuple [a, b]))) = some (false, E_law_is_menu (value := .v (.tuple [a, b]))) := by simp
        have t2 : (ev P (.not (.isi (.idx (.var 0) (.cst (.int 0))) .tuple))).tst (E_law_is_menu (value := .v (.tuple [a, b]))) = some (!isT a, E_law_is_menu (value := .v (.tuple [a, b]))) := not_tst (by simp [isi_T])
        have t3 : (ev P (.not (.isi (.idx (.var 0) (.cst (.int 1))) .tuple))).tst (E_law_is_menu (value := .v (.tuple [a, b]))) = some (!isT b, E_law_is_menu (value := .v (.tuple [a, b]))) := not_tst (by simp [isi_T])
        cases ha : isT a with
        | false =>
          rw [ha] at t2
          rw [menuB_a ha]
          exact rtF (bop_tst (or_F t0 (or_F t1 (or_T t2))))
        | true =>
          rw [ha] at t2
          cases hb : isT b with
          | false =>
            rw [hb] at t3
            rw [menuB_b hb]
            exact rtF (bop_tst (or_F t0 (or_F t1 (or_F t2 (or_1 t3)))))
          | true =>
            rw [hb] at t3
            obtain ⟨ns, rfl⟩ := isT_t ha
            obtain ⟨ts, rfl⟩ := isT_t hb
            refine nxF (bop_tst (or_F t0 (or_F t1 (or_F t2 (or_1 t3))))) ?_
            rw [menu_law]
            have u1 : (ev P (.cmp .Gt (.blt .len [(.idx (.var 0) (.cst (.int 0)))]) (.cst (.int 8)))).tst (E_law_is_menu (value := .v (.tuple [.tuple ns, .tuple ts]))) = some (!decide (ns.length ≤ 8), E_law_is_menu (value := .v (.tuple [.tuple ns, .tuple ts]))) := by
              have e : ((8 : Int) < (ns.length : Int)) ↔ ¬ ns.length ≤ 8 := by omega
              by_cases h : ns.length ≤ 8 <;> simp [e, h] <;> omega
            have u2 : (ev P (.cmp .NotEq (.blt .len [(.idx (.var 0) (.cst (.int 1)))]) (.blt .len [(.idx (.var 0) (.cst (.int 0)))]))).tst (E_law_is_menu (value := .v (.tuple [.tuple ns, .tuple ts]))) = some (!decide (ts.length = ns.length), E_law_is_menu (value := .v (.tuple [.tuple ns, .tuple ts]))) := by
              have e : ((ts.length : Int) = (ns.length : Int)) ↔ ts.length = ns.length := by omega
              by_cases h : ts.length = ns.length
              · simp [h]
              · simp [e, h]
            have c1 : (ev P law_is_menu_c1).val (E_law_is_menu (value := .v (.tuple [.tuple ns, .tuple ts]))) = some (.l (ns.map fun x => .bool (isR x)), E_law_is_menu (value := .v (.tuple [.tuple ns, .tuple ts]))) := by
              refine lc_of0 (ps := [.d (.tuple ns)]) (ds := [.tuple ns]) (fun x => .bool (isR x)) rfl (by simp) rfl (items_t ns) fun x hx => ?_
              have h := h32 _ va ns rfl x hx
              exact ⟨E_law_is_menu (value := .v (.tuple [.tuple ns, .tuple ts])) (part := .v x), by simp [setS_t], rfl, by simp [h]⟩
            have u3 := not_tst (all_tst (law_is_menu_c1_o _ _) c1 (bmap_all _ ns)).1
            cases q1 : decide (ns.length ≤ 8) with
            | false => rw [q1] at u1; exact rtF (bop_tst (or_T u1))
            | true =>
              rw [q1] at u1
              cases q2 : decide (ts.length = ns.length) with
              | false => rw [q2] at u2; exact rtF (bop_tst (or_F u1 (or_T u2)))
              | true =>
                rw [q2] at u2
                cases q3 : ns.all isR with
                | false => rw [q3] at u3; exact rtF (bop_tst (or_F u1 (or_F u2 (or_1 u3))))
                | true =>
                  rw [q3] at u3
                  refine nxF (bop_tst (or_F u1 (or_F u2 (or_1 u3)))) ?_
                  have w := loopB (P := P) (t := .nm 2) (b := law_is_menu_l1) (fun x : D => x) (fun r => !rowOk (ts.headD .none) r) (E_law_is_menu (value := .v (.tuple [.tuple ns, .tuple ts]))) ts fun r hr => by
                    have hf : atI ts 0 = some (ts.headD .none) := by
                      cases ts with
                      | nil => cases hr
                      | cons t ts => exact at0s t ts
                    obtain ⟨g1, g2⟩ := lmenu_1 P (.tuple ns) (ts.headD .none) r ts .no (h32 r (vb ts rfl r hr)) hf
                    exact ⟨E_law_is_menu (value := .v (.tuple [.tuple ns, .tuple ts])) (row := .v r), by simp [setS_t], fun h => g1 (by simpa using h), fun h => g2 (by simpa using h)⟩
                  rw [List.map_id'] at w
                  have ea : (ts.any fun r => !rowOk (ts.headD .none) r) = !ts.all (rowOk (ts.headD .none)) := by rw [List.not_all_eq_any_not]
                  rw [ea] at w
                  have o : opsM ((evs P [(.idx (.var 0) (.cst (.int 1)))]).map frO) (E_law_is_menu (value := .v (.tuple [.tuple ns, .tuple ts]))) = some ([.d (.tuple ts)], E_law_is_menu (value := .v (.tuple [.tuple ns, .tuple ts]))) := by simp
                  cases q4 : ts.all (rowOk (ts.headD .none)) with
                  | false =>
                    rw [q4] at w
                    exact Go.rt (Go1.fr o rfl (items_t ts) w)
                  | true =>
                    rw [q4] at w
                    exact Go.cons (Go1.fr o rfl (items_t ts) w) (Go.ret (f := .cst .none) (en2 := E_law_is_menu (value := .v (.tuple [.tuple ns, .tuple ts]))) rfl)
    · rw [menuB_len hl]
      refine rtF (bop_tst (or_F t0 (or_T (e1 := E_law_is_menu (value := .v (.tuple xs))) ?_)))
      have : ¬ (xs.length : Int) = 2 := by omega
      simp [hl, this]
  | _ => exact nt rfl
end
end Law

namespace Law
open PySem PySem.Spec L2 Mini
section
inductive Gq : Nat → D → Prop
  | int (n : Nat) (i : Int) (h : i.natAbs < 2 ^ 60) : Gq n (.int i)
  | tuple (n : Nat) (xs : List D) (h : xs.length ≤ 1000) (h2 : ∀ x ∈ xs, Gq n x) : Gq (n + 1) (.tuple xs)
inductive Fz : D → Prop
  | none : Fz .none
  | bool (b : Bool) : Fz (.bool b)
  | str (s : Str) : Fz (.str s)
  | int (i : Int) (h : i.natAbs < 2 ^ 100) : Fz (.int i)
  | tuple (xs : List D) (h2 : ∀ x ∈ xs, Fz x) : Fz (.tuple xs)
theorem Gq.fz {n : Nat} {v : D} (g : Gq n v) : Fz v := by
  induction g with
  | int n i h => exact .int i (Nat.lt_of_lt_of_le h (Nat.pow_le_pow_right (by decide) (by decide)))
  | tuple n xs h h2 ih => exact .tuple xs ih
theorem Fz.vb {v : D} (g : Fz v) : VB v := fun xs e x hx a b e2 => by
  subst e e2
  cases g with
  | tuple _ h =>
    cases h _ hx with
    | tuple _ h =>
      have h1 := h (.int a) (by simp)
      have h2 := h (.int b) (by simp)
      cases h1 with
      | int _ h1 => cases h2 with
        | int _ h2 => exact ⟨h1, h2⟩
theorem Fz.vm {v : D} (g : Fz v) : VM v := fun xs e a ha => by
  subst e
  cases g with
  | tuple _ h =>
    refine ⟨(h a ha).vb, fun rs e r hr => ?_⟩
    subst e
    cases h _ ha with
    | tuple _ h => exact (h r hr).vb
theorem small60 {i : Int} (h : i.natAbs < 2 ^ 60) {j : Int} (hj : j.natAbs ≤ i.natAbs + 2000) : j.natAbs < 2 ^ 100 := by
  have : (2 : Nat) ^ 60 + 2000 ≤ 2 ^ 100 := by decide
  omega
/-! the bent value -/
abbrev EB (bx : Sl) (v : D) : En := E_law_bent (box := bx) (value := .v v)
def LBt : List E := [(.bin .Add (.var 1) (.slc (.var 1) [] [(.cst (.int 1))])), (.slc (.var 1) [(.cst (.int 1))] []), (.rev (.var 1)), (.bin .Add (.var 1) (.tup [(.cst (.int 0))])), (.bin .Add (.slc (.var 1) [] [(.cst (.int 1))]) (.var 1)), (.slc (.var 1) [] [(.neg (.cst (.int 1)))]), (.cst .none), (.slc (.var 1) [] [(.cst (.int 1))])]
def LBi : List E := [(.bin .Add (.var 1) (.cst (.int 1))), (.bin .Sub (.var 1) (.cst (.int 1))), (.neg (.var 1)), (.cmp .Eq (.var 1) (.cst (.int 1))), (.cst .none), (.blt .str [(.var 1)]), (.tup [(.var 1)]), (.bin .Add (.var 1) (.cst (.int 1001)))]
theorem bent_t (P : Ph) (bx : Sl) (xs : List D) (p : Int) (h : xs.length ≤ 1000) : argsM (evs P LBt)
    (E_law_bent (box := bx) (value := .v (.tuple xs)) (pick := .v (.int p))) = some ([.tuple (xs ++ cutD xs none (some 1)), .tuple (cutD xs (some 1) none), .tuple xs.reverse, .tuple (xs ++ [.int 0]), .tuple (cutD xs none (some 1) ++ xs), .tuple (cutD xs none (some (-1))), .none, .tuple (cutD xs none (some 1))], E_law_bent (box := bx) (value := .v (.tuple xs)) (pick := .v (.int p))) := by
  have c1 := bin_cat xs (cutD xs none (some 1)) (by have := cutD_len xs none (some 1); unfold capL; omega)
  have c2 := bin_cat xs [.int 0] (by unfold capL; simp; omega)
  have c3 := bin_cat (cutD xs none (some 1)) xs (by have := cutD_len xs none (some 1); unfold capL; omega)
  generalize xs ++ cutD xs none (some 1) = u1 at *
  generalize xs ++ [.int 0] = u2 at *
  generalize cutD xs none (some 1) ++ xs = u3 at *
  simp [LBt, c1, c2, c3, sizeLine]
theorem bent_i (P : Ph) (bx : Sl) (i p : Int) (h : i.natAbs < 2 ^ 1000) : argsM (evs P LBi)
    (E_law_bent (box := bx) (value := .v (.int i)) (pick := .v (.int p))) = some ([.int (i + 1), .int (i - 1), .int (-i), .bool (decide (i = 1)), .none, .str (toString i), .tuple [.int i], .int (i + 1001)], E_law_bent (box := bx) (value := .v (.int i)) (pick := .v (.int p))) := by
  have hs : bltD .str [.int i] = some (.v (.str (toString i))) := by
    have : i.natAbs.log2 < 1920 := by
      by_cases h0 : i.natAbs = 0
      · rw [h0]; decide
      · have := (Nat.log2_lt h0).mpr h; omega
    simp only [bltD, this, if_true]
  generalize (.str (toString i) : D) = s at hs ⊢
  simp [LBi, hs, sizeLine]
abbrev EPk (cs2 : List Int) (a2 b2 p : Int) (v : D) : En := E_law_bent (box := .bx cs2 [a2, b2]) (value := .v v) (pick := .v (.int p))
theorem draws0 {d : Nat} (hd : 2 ≤ d) (cs : List Int) (a b m : Int) (hm : 0 < m) (hm2 : m ≤ 1000) : ∃ (x : Int) (cs2 : List Int) (a2 b2 : Int), retB (callN (tbOf es) d) 23 [.bx cs [a, b], .v (.int m)] = some (.v (.int x), .bx cs2 [a2, b2]) ∧ 0 ≤ x ∧ x < m :=
  draw_ok (es := es) (j := 23) rfl hd cs a b m hm (by omega)
theorem draws {d : Nat} (hd : 2 ≤ d) : ∀ (cs : List Int) (a b m : Int), 0 < m → m ≤ 1000 → ∃ (x : Int) (cs2 : List Int) (a2 b2 : Int), retB (callN (tbOf es) d) 23 [.bx cs [a, b], .v (.int m)] = some (.v (.int x), .bx cs2 [a2, b2]) ∧ 0 ≤ x ∧ x < m := fun cs a b m h1 h2 => draws0 hd cs a b m h1 h2
theorem fz_app {xs ys : List D} (h : ∀ x ∈ xs, Fz x) (g : ∀ x ∈ ys, Fz x) : Fz (.tuple (xs ++ ys)) := .tuple _ fun x hx => by
  rcases List.mem_append.mp hx with q | q
  · exact h x q
  · exact g x q
theorem cut_mem {xs : List D} {lo hi : Option Int} {x : D} (h : x ∈ cutD xs lo hi) : x ∈ xs := List.mem_of_mem_drop (List.mem_of_mem_take h)
theorem bent_endT (P : Ph) (draw : ∀ (cs : List Int) (a b m : Int), 0 < m → m ≤ 1000 → ∃ (x : Int) (cs2 : List Int) (a2 b2 : Int), retB P 23 [.bx cs [a, b], .v (.int m)] = some (.v (.int x), .bx cs2 [a2, b2]) ∧ 0 ≤ x ∧ x < m) (xs : List D) (hl : xs.length ≤ 1000) (hx : ∀ x ∈ xs, Fz x) (cs : List Int) (a b : Int) : ∃ (d2 : D) (cs2 : List Int) (a2 b2 : Int), Go P (b__law_bent.drop 1) (EB (.bx cs [a, b]) (.tuple xs)) (.rb (.v d2) cs2 [a2, b2]) ∧ Fz d2 := by
  obtain ⟨p, cs2, a2, b2, h1, h2, h3⟩ := draw cs a b 8 (by omega) (by omega)
  have s1 : Go1 P (.asg (.nm 3) (.callB 23 0 [(.cst (.int 8))])) (EB (.bx cs [a, b]) (.tuple xs)) (.nx (EPk cs2 a2 b2 p (.tuple xs))) := .of (by simp [h1, setS_t])
  obtain ⟨d, hm, hd⟩ := pick_ok P _ _ _ p 3 rfl (bent_t P (.bx cs2 [a2, b2]) xs p hl) (by simp) h2 h3
  refine ⟨d, cs2, a2, b2, Go.cons s1 (Go.ife (e1 := EPk cs2 a2 b2 p (.tuple xs)) (k := true) (by simp) (Go.rb ⟨.rt (.v d) (EPk cs2 a2 b2 p (.tuple xs)), by rw [ex_ret]; unfold LBt at hd; rw [hd]; rfl, rfl, rfl, rfl⟩)), ?_⟩
  have hc : ∀ lo hi, ∀ x ∈ cutD xs lo hi, Fz x := fun lo hi x h => hx x (cut_mem h)
  simp only [List.mem_cons, List.not_mem_nil, or_false] at hm
  rcases hm with rfl | rfl | rfl | rfl | rfl | rfl | rfl | rfl
  · exact fz_app hx (hc _ _)
  · exact .tuple _ (hc _ _)
  · exact .tuple _ fun x h => hx x (List.mem_reverse.mp h)
  · exact fz_app hx fun x h => by rw [List.mem_singleton.mp h]; exact .int 0 (by decide)
  · exact fz_app (hc _ _) hx
  · exact .tuple _ (hc _ _)
  · exact .none
  · exact .tuple _ (hc _ _)
theorem bent_endI (P : Ph) (draw : ∀ (cs : List Int) (a b m : Int), 0 < m → m ≤ 1000 → ∃ (x : Int) (cs2 : List Int) (a2 b2 : Int), retB P 23 [.bx cs [a, b], .v (.int m)] = some (.v (.int x), .bx cs2 [a2, b2]) ∧ 0 ≤ x ∧ x < m) (i : Int) (hi : i.natAbs < 2 ^ 60) (cs : List Int) (a b : Int) : ∃ (d2 : D) (cs2 : List Int) (a2 b2 : Int), Go P b__law_bent (EB (.bx cs [a, b]) (.int i)) (.rb (.v d2) cs2 [a2, b2]) ∧ Fz d2 := by
  obtain ⟨p, cs2, a2, b2, h1, h2, h3⟩ := draw cs a b 8 (by omega) (by omega)
  have s1 : Go1 P (.asg (.nm 3) (.callB 23 0 [(.cst (.int 8))])) (EB (.bx cs [a, b]) (.int i)) (.nx (EPk cs2 a2 b2 p (.int i))) := .of (by simp [h1, setS_t])
  obtain ⟨d, hm, hd⟩ := pick_ok P _ _ _ p 3 rfl (bent_i P (.bx cs2 [a2, b2]) i p (Nat.lt_of_lt_of_le hi (Nat.pow_le_pow_right (by decide) (by decide)))) (by simp) h2 h3
  refine ⟨d, cs2, a2, b2, Go.ife (e1 := EB (.bx cs [a, b]) (.int i)) (k := false) (bop_tst (and_F (by simp))) (Go.cons s1 (Go.ife (e1 := EPk cs2 a2 b2 p (.int i)) (k := false) (by simp) (Go.ife (e1 := EPk cs2 a2 b2 p (.int i)) (k := true) (by simp) (Go.rb ⟨.rt (.v d) (EPk cs2 a2 b2 p (.int i)), by rw [ex_ret]; unfold LBi at hd; rw [hd]; rfl, rfl, rfl, rfl⟩)))), ?_⟩
  simp only [List.mem_cons, List.not_mem_nil, or_false] at hm
  rcases hm with rfl | rfl | rfl | rfl | rfl | rfl | rfl | rfl
  · exact .int _ (small60 hi (by omega))
  · exact .int _ (small60 hi (by omega))
  · exact .int _ (small60 hi (by omega))
  · exact .bool _
  · exact .none
  · exact .str _
  · exact .tuple _ fun x h => by rw [List.mem_singleton.mp h]; exact .int _ (small60 hi (by omega))
  · exact .int _ (small60 hi (by omega))
theorem bent_cut (P : Ph) (c1 c2 c3 : List Int) (a1 b1 a2 b2 a3 b3 : Int) (xs : List D) (y : Int) (v w : D) (hl : xs.length ≤ 1000) (hx : ∀ x ∈ xs, Fz x) (hw : Fz w) (h1 : retB P 23 [.bx c1 [a1, b1], .v (.int xs.length)] = some (.v (.int y), .bx c2 [a2, b2])) (h2 : atI xs y = some v) (h3 : retB P 25 [.bx c2 [a2, b2], .v v] = some (.v w, .bx c3 [a3, b3])) :
    ∃ d : D, Go P [(.asg (.nm 2) (.callB 23 0 [(.blt .len [(.var 1)])])),
    (.ret (.bin .Add (.bin .Add (.slc (.var 1) [] [(.var 2)]) (.tup [(.callB 25 0 [(.idx (.var 1) (.var 2))])])) (.slc (.var 1) [(.bin .Add (.var 2) (.cst (.int 1)))] [])))] (EB (.bx c1 [a1, b1]) (.tuple xs)) (.rb (.v d) c3 [a3, b3]) ∧ Fz d := by
  have d1 := bin_cat (cutD xs none (some y)) [w] (by have := cutD_len xs none (some y); unfold capL; simp; omega)
  have d2 := bin_cat (cutD xs none (some y) ++ [w]) (cutD xs (some (y + 1)) none) (by have := cutD_len xs none (some y); have := cutD_len xs (some (y + 1)) none; unfold capL; simp; omega)
  have fz : Fz (.tuple (cutD xs none (some y) ++ [w] ++ cutD xs (some (y + 1)) none)) := by
    refine fz_app (fun x h => ?_) fun x h => hx x (cut_mem h)
    rcases List.mem_append.mp h with q | q
    · exact hx x (cut_mem q)
    · rw [List.mem_singleton.mp q]; exact hw
  generalize cutD xs none (some y) ++ [w] ++ cutD xs (some (y + 1)) none = u3 at *
  generalize cutD xs none (some y) ++ [w] = u2 at *
  refine ⟨.tuple u3, Go.cons (f := E_law_bent (box := .bx c2 [a2, b2]) (value := .v (.tuple xs)) (at_ := .v (.int y))) (.of (by simp [h1, setS_t])) (Go.rb ⟨.rt (.v (.tuple u3)) (E_law_bent (box := .bx c3 [a3, b3]) (value := .v (.tuple xs)) (at_ := .v (.int y))), ?_, rfl, rfl, rfl⟩), fz⟩
  rw [ex_ret]
  simp [h2, h3, d1, d2, sizeLine]
theorem bent_r : ∀ (n : Nat) (v : D), Gq n v → ∀ d, n + 3 ≤ d → ∀ (cs : List Int) (a b : Int), ∃ (w : D) (cs2 : List Int) (a2 b2 : Int), retB (callN (tbOf es) d) 25 [.bx cs [a, b], .v v] = some (.v w, .bx cs2 [a2, b2]) ∧ Fz w := by
  intro n v g
  induction g with
  | int n i h =>
    intro d hd cs a b
    obtain ⟨d, rfl, hd'⟩ := lev (c := 2) (show 3 ≤ d by omega)
    obtain ⟨w, cs2, a2, b2, q, fz⟩ := bent_endI (callN (tbOf es) d) (draws hd') i h cs a b
    exact ⟨w, cs2, a2, b2, fn_goB (i := i__law_bent) rfl rfl rfl q, fz⟩
  | tuple n xs hl h2 ih =>
    intro d hd cs a b
    obtain ⟨d, rfl, hd'⟩ := lev (c := n + 3) hd
    have dr := draws (d := d) (by omega)
    have hx : ∀ x ∈ xs, Fz x := fun x hx => (h2 x hx).fz
    have fin : ∀ (c2 : List Int) (u w : Int), (bopT .And (evs (callN (tbOf es) d) [(.isi (.var 1) .tuple), (.cmp .Gt (.blt .len [(.var 1)]) (.cst (.int 0))), (.cmp .Gt (.callB 23 0 [(.cst (.int 5))]) (.cst (.int 0)))]) (EB (.bx cs [a, b]) (.tuple xs)) = some (false, EB (.bx c2 [u, w]) (.tuple xs))) → ∃ (w : D) (cs2 : List Int) (a2 b2 : Int), retB (callN (tbOf es) (d + 1)) 25 [.bx cs [a, b], .v (.tuple xs)] = some (.v w, .bx cs2 [a2, b2]) ∧ Fz w := fun c2 u w hc => by
      obtain ⟨w, cs2, a2, b2, h, fz⟩ := bent_endT _ dr xs hl hx c2 u w
      exact ⟨w, cs2, a2, b2, fn_goB (i := i__law_bent) rfl rfl rfl (Go.ife (k := false) (bop_tst hc) h), fz⟩
    by_cases h0 : xs = []
    · subst h0
      exact fin cs a b (and_T (e1 := EB (.bx cs [a, b]) (.tuple [])) (by simp) (and_F (by simp)))
    · have hpos : 0 < xs.length := List.length_pos_iff.mpr h0
      obtain ⟨x, c1, a1, b1, h1, h2', h3⟩ := dr cs a b 5 (by omega) (by omega)
      have t1 : (ev (callN (tbOf es) d) (.isi (.var 1) .tuple)).tst (EB (.bx cs [a, b]) (.tuple xs)) = some (true, EB (.bx cs [a, b]) (.tuple xs)) := by simp
      have t2 : (ev (callN (tbOf es) d) (.cmp .Gt (.blt .len [(.var 1)]) (.cst (.int 0)))).tst (EB (.bx cs [a, b]) (.tuple xs)) = some (true, EB (.bx cs [a, b]) (.tuple xs)) := by simp [hpos]
      have t3 : (ev (callN (tbOf es) d) (.cmp .Gt (.callB 23 0 [(.cst (.int 5))]) (.cst (.int 0)))).tst (EB (.bx cs [a, b]) (.tuple xs)) = some (decide (0 < x), EB (.bx c1 [a1, b1]) (.tuple xs)) := by
        generalize callN (tbOf es) d = P at h1 ⊢
        simp [h1]
      by_cases hx0 : 0 < x
      · rw [decide_eq_true hx0] at t3
        obtain ⟨y, c2, a2, b2, h4, h5, h6⟩ := dr c1 a1 b1 xs.length (by omega) (by omega)
        obtain ⟨u, h7, h8⟩ := at_ex xs y h5 h6
        obtain ⟨w, c3, a3, b3, h9, fw⟩ := ih u h8 d hd' c2 a2 b2
        obtain ⟨z, hz, fz⟩ := bent_cut (callN (tbOf es) d) c1 c2 c3 a1 b1 a2 b2 a3 b3 xs y u w hl hx fw h4 h7 h9
        refine ⟨z, c3, a3, b3, fn_goB (i := i__law_bent) rfl rfl rfl (Go.ife (k := true) (bop_tst (and_T t1 (and_T t2 (and_1 t3)))) ?_), fz⟩
        rw [if_pos rfl]
        exact Go.appRb hz
      · rw [decide_eq_false hx0] at t3
        exact fin c1 a1 b1 (and_T t1 (and_T t2 (and_1 t3)))
end
end Law

namespace Law
open PySem PySem.Spec L2 Mini
section
theorem still_d {e f : En} : ∀ (ds : List D), stillB e f (ds.map Opd.d)
  | [] => trivial
  | _ :: r => still_d r
/-- a comprehension that draws at each turn -/
theorem lc_drw {α : Type} {P : Ph} {t : T} {k : IK} {its : List E} {elt : E} {own : List Nat} {ds xs : List D} (EB : Sl → En) (EI : Sl → D → En) (G : α → D) (Good : α → Prop)
    (h1 : ∀ bx x, asgT t x (EB bx) = some (EI bx x)) (h2 : ∀ bx x, wipeE (EI bx x) own = EB bx) (hw : ∀ bx, wipeE (EB bx) own = EB bx) (hr : ∀ b1 b2, restE (EB b1) (EB b2) own = EB b2) (it : itemsOf k ds = some xs)
    (step : ∀ x, x ∈ xs → ∀ (cs : List Int) (a b : Int), ∃ (q : α) (cs2 : List Int) (a2 b2 : Int), frzM (ev P elt).val (EI (.bx cs [a, b]) x) = some (G q, EI (.bx cs2 [a2, b2]) x) ∧ Good q)
    (e : En) (cs : List Int) (a b : Int) (op : opsM (evs P its) e = some (ds.map Opd.d, EB (.bx cs [a, b]))) (gt : gets (EB (.bx cs [a, b])) (ds.map Opd.d) = some ds) :
    ∃ (qs : List α) (cs2 : List Int) (a2 b2 : Int), (ev P (.lc t k its [] elt own)).val e = some (.l (qs.map G), EB (.bx cs2 [a2, b2])) ∧ qs.length = xs.length ∧ ∀ q ∈ qs, Good q := by
  obtain ⟨zs, e2, h4, h5⟩ := lc_inv (t := t) (cond := []) (elt := ev P elt) (own := own) (ps := ds.map Opd.d) (e0 := EB (.bx cs [a, b]))
    (fun rem acc env => (∀ x ∈ rem, x ∈ xs) ∧ (∃ qs : List α, acc = qs.map G ∧ qs.length + rem.length = xs.length ∧ ∀ q ∈ qs, Good q) ∧ ∃ c2 a2 b2, env = EB (.bx c2 [a2, b2]))
    (fun x rem acc env ⟨j0, ⟨qs, j1, j2, j3⟩, c2, a2, b2, j4⟩ => by
      subst j4
      obtain ⟨q, c3, a3, b3, q1, q2⟩ := step x (j0 x List.mem_cons_self) c2 a2 b2
      refine ⟨_, _, h1 _ _, .inl ⟨rfl, G q, _, q1, still_d ds, fun y hy => j0 y (List.mem_cons_of_mem _ hy), ⟨qs ++ [q], by rw [j1]; simp, by simp at j2 ⊢; omega, fun z hz => ?_⟩, c3, a3, b3, h2 _ _⟩⟩
      rcases List.mem_append.mp hz with g | g
      · exact j3 z g
      · rw [List.mem_singleton.mp g]; exact q2)
    xs [] (EB (.bx cs [a, b])) ⟨fun _ h => h, ⟨[], rfl, by simp, by simp⟩, _, _, _, rfl⟩
  obtain ⟨_, ⟨qs, h6, h7, h8⟩, c2, a2, b2, h9⟩ := h5
  subst h9
  refine ⟨qs, c2, a2, b2, ?_, by simpa using h7, h8⟩
  have := lcM_of (t := t) (k := k) (its := evs P its) (cond := []) (own := own) op gt it (still_d ds) (by rw [hw]; exact h4)
  rw [ev_lc, evs_nil, this, hr]
  simp at h6
  rw [h6]
/-! drawn ratios -/
structure Gd (q : Q) : Prop where
  ok : Ok 60 q
  red : Int.gcd q.1 q.2 = 1
theorem Gd.ok100 {q : Q} (h : Gd q) : Ok 100 q := h.ok.le (by omega)
theorem Gd.gq {q : Q} (h : Gd q) (n : Nat) : Gq (n + 1) (RD q) := .tuple _ _ (by simp) fun x hx => by
  simp only [List.mem_cons, List.not_mem_nil, or_false] at hx
  rcases hx with rfl | rfl
  · exact .int _ _ h.ok.p
  · exact .int _ _ h.ok.q
theorem some_1 (P : Ph) (c0 c1 c2 c3 : List Int) (a0 b0 a1 b1 a2 b2 a3 b3 low high x y z : Int) (r1 r2 : D) (h1 : retB P 23 [.bx c0 [a0, b0], .v (.int (high - low + 1))] = some (.v (.int x), .bx c1 [a1, b1])) (h2 : retB P 23 [.bx c1 [a1, b1], .v (.int 3)] = some (.v (.int y), .bx c2 [a2, b2])) (h3 : retB P 23 [.bx c2 [a2, b2], .v (.int 4)] = some (.v (.int z), .bx c3 [a3, b3]))
    (g1 : retOf P 27 [.v (.int (low + x)), .v (.int 1)] = some (.v r1)) (g2 : retOf P 27 [.v (.int (low + x)), .v (.int (1 + z))] = some (.v r2)) :
    exs P b__law_some (E_law_some (box := .bx c0 [a0, b0]) (low := .v (.int low)) (high := .v (.int high))) = some (if 0 < y then .rt (.v r1) (E_law_some (box := .bx c2 [a2, b2]) (low := .v (.int low)) (high := .v (.int high))) else .rt (.v r2) (E_law_some (box := .bx c3 [a3, b3]) (low := .v (.int low)) (high := .v (.int high)))) := by
  by_cases h : 0 < y <;> simp [b__law_some, h1, h2, h3, g1, g2, h]
theorem some_r {d : Nat} (hd : 3 ≤ d) (low high : Int) (h0 : 0 ≤ high - low) (h1 : high - low ≤ 100) (h2 : -100 ≤ low ∧ low ≤ 100) (cs : List Int) (a b : Int) : ∃ (q : Q) (cs2 : List Int) (a2 b2 : Int), retB (callN (tbOf es) d) 33 [.bx cs [a, b], .v (.int low), .v (.int high)] = some (.v (RD q), .bx cs2 [a2, b2]) ∧ Gd q := by
  obtain ⟨d, rfl, hd'⟩ := lev (c := 2) hd
  obtain ⟨x, c1, a1, b1, d1, d2, d3⟩ := draws (d := d) hd' cs a b (high - low + 1) (by omega) (by omega)
  obtain ⟨y, c2, a2, b2, e1, e2, e3⟩ := draws (d := d) hd' c1 a1 b1 3 (by omega) (by omega)
  obtain ⟨z, c3, a3, b3, f1, f2, f3⟩ := draws (d := d) hd' c2 a2 b2 4 (by omega) (by omega)
  have sm : ∀ i : Int, -1000 ≤ i → i ≤ 1000 → i.natAbs < 2 ^ 60 := fun i h g => by
    have : (2 : Nat) ^ 60 > 1000 := by decide
    omega
  have gd : ∀ k : Int, 1 ≤ k → k ≤ 4 → Gd (rp (low + x) k, rq (low + x) k) := fun k h g => ⟨rr (sm _ (by omega) (by omega)) (sm _ (by omega) (by omega)) (by omega), gcd_red (by omega)⟩
  have g1 := lratio_r (d := d) hd' (low + x) 1 (by omega) (sm_of (sm _ (by omega) (by omega)) (by omega)) (sm_of (sm _ (by omega) (by omega)) (by omega))
  have g2 := lratio_r (d := d) hd' (low + x) (1 + z) (by omega) (sm_of (sm _ (by omega) (by omega)) (by omega)) (sm_of (sm _ (by omega) (by omega)) (by omega))
  have st := some_1 (callN (tbOf es) d) cs c1 c2 c3 a b a1 b1 a2 b2 a3 b3 low high x y z _ _ d1 e1 f1 g1 g2
  by_cases hy : 0 < y
  · rw [if_pos hy] at st
    exact ⟨_, c2, a2, b2, fn_goB (i := i__law_some) rfl rfl rfl ⟨_, st, rfl, rfl, rfl⟩, gd 1 (by omega) (by omega)⟩
  · rw [if_neg hy] at st
    exact ⟨_, c3, a3, b3, fn_goB (i := i__law_some) rfl rfl rfl ⟨_, st, rfl, rfl, rfl⟩, gd (1 + z) (by omega) (by omega)⟩
/-! drawn menus -/
theorem lmenu_r {d : Nat} (hd : 4 ≤ d) (m n : Nat) (hm : m ≤ 100) (hn : n ≤ 100) (cs : List Int) (a b : Int) : ∃ (needs : List Q) (rows : List (List Q)) (cs2 : List Int) (a2 b2 : Int), retB (callN (tbOf es) d) 35 [.bx cs [a, b], .v (I m), .v (I n), .v (.int (-2))] = some (.v (MD needs rows), .bx cs2 [a2, b2]) ∧ needs.length = m ∧ rows.length = m ∧ (∀ q ∈ needs, Gd q) ∧ ∀ r ∈ rows, r.length = n ∧ ∀ q ∈ r, Gd q := by
  obtain ⟨d, rfl, hd'⟩ := lev (c := 3) hd
  have s1 := fun cs a b => some_r (d := d) hd' (-2) 9 (by omega) (by omega) (by omega) cs a b
  have s2 := fun cs a b => some_r (d := d) hd' (-2) 5 (by omega) (by omega) (by omega) cs a b
  have itm := items_r2 m (show _ ≤ cap by unfold cap; omega)
  have itn := items_r2 n (show _ ≤ cap by unfold cap; omega)
  suffices H : ∃ (needs : List Q) (rows : List (List Q)) (cs2 : List Int) (a2 b2 : Int), Go (callN (tbOf es) d) b__law_menu (E_law_menu (box := .bx cs [a, b]) (m := .v (I m)) (n := .v (I n)) (low := .v (.int (-2)))) (.rb (.v (MD needs rows)) cs2 [a2, b2]) ∧ needs.length = m ∧ rows.length = m ∧ (∀ q ∈ needs, Gd q) ∧ ∀ r ∈ rows, r.length = n ∧ ∀ q ∈ r, Gd q by
    obtain ⟨needs, rows, c2, a2, b2, h, q⟩ := H
    exact ⟨needs, rows, c2, a2, b2, fn_goB (i := i__law_menu) rfl rfl rfl h, q⟩
  generalize callN (tbOf es) d = P at s1 s2 ⊢
  obtain ⟨needs, c1, a1, b1, k1, k2, k3⟩ := lc_drw (P := P) (t := .nm 5) (k := .rng) (its := [(.var 1)]) (elt := (.callB 33 0 [(.var 3), (.cst (.int 9))])) (own := [5]) (ds := [I m]) (xs := rngL 0 m)
    (fun bx => E_law_menu (box := bx) (m := .v (I m)) (n := .v (I n)) (low := .v (.int (-2)))) (fun bx x => E_law_menu (box := bx) (m := .v (I m)) (n := .v (I n)) (low := .v (.int (-2))) (i := .v x)) RD Gd (fun bx x => by simp [setS_t]) (fun _ _ => rfl) (fun _ => rfl) (fun _ _ => rfl) itm
    (fun x _ cs a b => by
      obtain ⟨q, c2, a2, b2, h, g⟩ := s1 cs a b
      exact ⟨q, c2, a2, b2, by simp [h], g⟩) (E_law_menu (box := .bx cs [a, b]) (m := .v (I m)) (n := .v (I n)) (low := .v (.int (-2)))) cs a b rfl rfl
  obtain ⟨rows, c2, a2, b2, l1, l2, l3⟩ := lc_drw (P := P) (t := .nm 5) (k := .rng) (its := [(.var 1)]) (elt := (.blt .tuple [law_menu_c2])) (own := [5]) (ds := [I m]) (xs := rngL 0 m)
    (fun bx => E_law_menu (box := bx) (m := .v (I m)) (n := .v (I n)) (low := .v (.int (-2))) (needs := .v (.tuple (RL needs)))) (fun bx x => E_law_menu (box := bx) (m := .v (I m)) (n := .v (I n)) (low := .v (.int (-2))) (needs := .v (.tuple (RL needs))) (i := .v x)) (fun r : List Q => .tuple (RL r)) (fun r => r.length = n ∧ ∀ q ∈ r, Gd q) (fun bx x => by generalize RL needs = ns; simp [setS_t]) (fun _ _ => rfl) (fun _ => rfl) (fun _ _ => rfl) itm
    (fun x _ cs a b => by
      obtain ⟨r, c2, a2, b2, h, g1, g2⟩ := lc_drw (P := P) (t := .nm 6) (k := .rng) (its := [(.var 2)]) (elt := (.callB 33 0 [(.var 3), (.cst (.int 5))])) (own := [6]) (ds := [I n]) (xs := rngL 0 n)
        (fun bx => E_law_menu (box := bx) (m := .v (I m)) (n := .v (I n)) (low := .v (.int (-2))) (needs := .v (.tuple (RL needs))) (i := .v x)) (fun bx y => E_law_menu (box := bx) (m := .v (I m)) (n := .v (I n)) (low := .v (.int (-2))) (needs := .v (.tuple (RL needs))) (i := .v x) (j := .v y)) RD Gd (fun bx y => by generalize RL needs = ns; simp [setS_t]) (fun _ _ => rfl) (fun _ => rfl) (fun _ _ => rfl) itn
        (fun y _ cs a b => by
          obtain ⟨q, c2, a2, b2, h, g⟩ := s2 cs a b
          generalize RL needs = ns
          exact ⟨q, c2, a2, b2, by simp [h], g⟩) (E_law_menu (box := .bx cs [a, b]) (m := .v (I m)) (n := .v (I n)) (low := .v (.int (-2))) (needs := .v (.tuple (RL needs))) (i := .v x)) cs a b rfl rfl
      rw [rngL_len] at g1
      exact ⟨r, c2, a2, b2, frz_of (tupOf (law_menu_c2_o _ _) h) rfl, g1, g2⟩) (E_law_menu (box := .bx c1 [a1, b1]) (m := .v (I m)) (n := .v (I n)) (low := .v (.int (-2))) (needs := .v (.tuple (RL needs)))) c1 a1 b1 rfl rfl
  rw [rngL_len] at k2 l2
  refine ⟨needs, rows, c2, a2, b2, ?_, k2, l2, k3, l3⟩
  have kk : (ev P (.blt .tuple [law_menu_c1])).val (E_law_menu (box := .bx cs [a, b]) (m := .v (I m)) (n := .v (I n)) (low := .v (.int (-2)))) = some (.v (.tuple (RL needs)), _) := tupOf (law_menu_c1_o _ _) k1
  refine Go.cons (f := E_law_menu (box := .bx c1 [a1, b1]) (m := .v (I m)) (n := .v (I n)) (low := .v (.int (-2))) (needs := .v (.tuple (RL needs)))) (.of ?_) ?_
  · rw [ex_asg, kk, Option.bind_some]
    generalize RL needs = ns
    simp [setS_t]
  · have ll : (ev P (.blt .tuple [law_menu_c3])).val (E_law_menu (box := .bx c1 [a1, b1]) (m := .v (I m)) (n := .v (I n)) (low := .v (.int (-2))) (needs := .v (.tuple (RL needs)))) = some (.v (.tuple (TL rows)), _) := tupOf (law_menu_c3_o _ _) l1
    have v4 : (ev P (.var 4)).val (E_law_menu (box := .bx c1 [a1, b1]) (m := .v (I m)) (n := .v (I n)) (low := .v (.int (-2))) (needs := .v (.tuple (RL needs)))) = some (.v (.tuple (RL needs)), E_law_menu (box := .bx c1 [a1, b1]) (m := .v (I m)) (n := .v (I n)) (low := .v (.int (-2))) (needs := .v (.tuple (RL needs)))) := rfl
    have tt : ∀ {A B : E} {e e1 e2 : En} {a b : D}, (ev P A).val e = some (.v a, e1) → (ev P B).val e1 = some (.v b, e2) → (ev P (.tup [A, B])).val e = some (.v (.tuple [a, b]), e2) := fun ha hb => by simp [ha, hb, sizeLine]
    exact Go.rb ⟨.rt (.v (MD needs rows)) (E_law_menu (box := .bx c2 [a2, b2]) (m := .v (I m)) (n := .v (I n)) (low := .v (.int (-2))) (needs := .v (.tuple (RL needs)))), by rw [ex_ret, tt v4 ll]; rfl, rfl, rfl, rfl⟩
end
end Law

namespace Law
open PySem PySem.Spec L2 Mini
section
abbrev F (bx : Sl) (me co cl : D) (m n : Nat) (am pr gi wor mo fi ro : Sl) : En := E_law_fine (box := bx) (menu := .v me) (costs := .v co) (m := .v (I m)) (columns := .v cl) (n := .v (I n)) (amounts := am) (prices := pr) (given := gi) (worths := wor) (more := mo) (fits := fi) (rows := ro)
/-! comprehensions of the law's main function -/
section
variable (P : Ph) (bx : Sl) (co : D) (m n : Nat)
theorem f_c3 (needs : List Q) (rows : List (List Q)) (cl : D) (am : List Q) (pr : Sl) (h : ∀ r ∈ rows, retOf P 31 [.v (.tuple (RL r)), .v (.tuple (RL am))] = some (.v (RD (dotQ r am)))) : (ev P law_fine_c3).val (F bx (MD needs rows) co cl m n (.v (.tuple (RL am))) pr .no .no .no .no .no) = some (.l (RL (gv rows am)), F bx (MD needs rows) co cl m n (.v (.tuple (RL am))) pr .no .no .no .no .no) := by
  rw [RL_map]
  refine lc_ofA (ps := [.d (.tuple (TL rows))]) (ds := [.tuple (TL rows)]) rows _ _ rfl ?_ rfl (items_t (TL rows)) fun r hr => ?_
  · simp only [MD]
    generalize TL rows = ts; generalize RL needs = ns; generalize RL am = xs
    simp
  · have q := h r hr
    generalize dotQ r am = u at q ⊢
    generalize MD needs rows = me; generalize RL am = xs at q ⊢; generalize RL r = ys at q ⊢
    exact ⟨E_law_fine (box := bx) (menu := .v me) (costs := .v co) (m := .v (I m)) (columns := .v cl) (n := .v (I n)) (amounts := .v (.tuple xs)) (prices := pr) (row := .v (.tuple ys)), by simp [setS_t], rfl, by simp [q]⟩
theorem f_c4 (me : D) (cs : List (List Q)) (am gi : Sl) (pr : List Q) (h : ∀ c ∈ cs, retOf P 31 [.v (.tuple (RL pr)), .v (.tuple (RL c))] = some (.v (RD (dotQ pr c)))) : (ev P law_fine_c4).val (F bx me co (.list (TL cs)) m n am (.v (.tuple (RL pr))) gi .no .no .no .no) = some (.l (RL (cs.map fun c => dotQ pr c)), F bx me co (.list (TL cs)) m n am (.v (.tuple (RL pr))) gi .no .no .no .no) := by
  rw [RL_map]
  refine lc_ofA (ps := [.d (.list (TL cs))]) (ds := [.list (TL cs)]) cs _ _ rfl rfl rfl (items_l (TL cs)) fun c hc => ?_
  have q := h c hc
  generalize dotQ pr c = u at q ⊢
  generalize RL pr = xs at q ⊢; generalize RL c = ys at q ⊢; generalize TL cs = ts
  exact ⟨E_law_fine (box := bx) (menu := .v me) (costs := .v co) (m := .v (I m)) (columns := .v (.list ts)) (n := .v (I n)) (amounts := am) (prices := .v (.tuple xs)) (given := gi) (column := .v (.tuple ys)), by simp [setS_t], rfl, by simp [q]⟩
theorem f_c5 (needs : List Q) (ts : List D) (cl : D) (am pr wor : Sl) (gs : List Q) (f : Q → Q → Q) (hm : needs.length = m) (hg : gs.length = m) (hm8 : m ≤ 1000) (h : ∀ g ∈ gs, ∀ w ∈ needs, retOf P 28 [.v (RD g), .v (R2 (-w.1) w.2)] = some (.v (RD (f g w)))) : (ev P law_fine_c5).val (F bx (.tuple [.tuple (RL needs), .tuple ts]) co cl m n am pr (.v (.tuple (RL gs))) wor .no .no .no) = some (.l (RL (List.zipWith f gs needs)), F bx (.tuple [.tuple (RL needs), .tuple ts]) co cl m n am pr (.v (.tuple (RL gs))) wor .no .no .no) := by
  have it := items_r2 m (show _ ≤ cap by unfold cap; omega)
  have c := lc_at0 (P := P) (t := .nm 9) (k := .rng) (its := [(.var 3)]) (elt := (.call 28 [(.idx (.var 10) (.var 9)), (.tup [(.neg (.idx (.idx (.idx (.var 1) (.cst (.int 0))) (.var 9)) (.cst (.int 0)))), (.idx (.idx (.idx (.var 1) (.cst (.int 0))) (.var 9)) (.cst (.int 1)))])])) (own := [9]) (e := F bx (.tuple [.tuple (RL needs), .tuple ts]) co cl m n am pr (.v (.tuple (RL gs))) wor .no .no .no) (ps := [.d (I m)]) (ds := [I m]) (fun i => RD (f (gs.getD i (0, 1)) (needs.getD i (0, 1)))) rfl rfl rfl it fun i x hx => by
    obtain ⟨h1, rfl⟩ := rngL_at hx
    rw [Int.zero_add]
    have ig : i < gs.length := by omega
    have iw : i < needs.length := by omega
    have a1 := RLat ig
    have a2 := RLat iw
    have q := h _ (List.getElem_mem ig) _ (List.getElem_mem iw)
    have e1 : gs.getD i (0, 1) = gs[i] := by rw [List.getD_eq_getElem?_getD, List.getElem?_eq_getElem ig]; rfl
    have e2 : needs.getD i (0, 1) = needs[i] := by rw [List.getD_eq_getElem?_getD, List.getElem?_eq_getElem iw]; rfl
    rw [e1, e2]
    generalize f gs[i] needs[i] = u at q ⊢
    generalize gs[i] = g at a1 q ⊢
    generalize needs[i] = w at a2 q ⊢
    generalize RL gs = gl at a1 ⊢
    generalize RL needs = ns at a2 ⊢
    exact ⟨E_law_fine (box := bx) (menu := .v (.tuple [.tuple ns, .tuple ts])) (costs := .v co) (m := .v (I m)) (columns := .v cl) (n := .v (I n)) (amounts := am) (prices := pr) (i := .v (I i)) (given := .v (.tuple gl)) (worths := wor), by simp [setS_t], rfl, by simp [a1, a2, q, sizeLine]⟩
  rw [rngL_len] at c
  have e : RL (List.zipWith f gs needs) = (List.range m).map fun i => RD (f (gs.getD i (0, 1)) (needs.getD i (0, 1))) := by
    rw [← zip_zw, zip_range gs needs (by omega), List.map_map, hg]; rfl
  rw [e]
  exact c
theorem eq_RD (x y : Q) : cmpD .Eq (RD x) (RD y) = some (.v (.bool (decide (x = y)))) := by
  rw [cmp_eqS rfl rfl]
  obtain ⟨a, b⟩ := x
  obtain ⟨c, d⟩ := y
  have : PyData.eqv (R2 a b) (R2 c d) = (a == c && b == d) := by simp [PyData.eqv, PyData.eqvAll]
  rw [show PyData.eqv (RD (a, b)) (RD (c, d)) = _ from this]
  congr 3
  by_cases h1 : a = c <;> by_cases h2 : b = d <;> simp [h1, h2]
theorem or2v {a b : M} {e : En} {x y : Bool} (h1 : a.val e = some (.v (.bool x), e)) (h2 : b.val e = some (.v (.bool y), e)) : (bopM .Or [a, b]).val e = some (.v (.bool (x || y)), e) := by
  cases x <;> simp [h1, h2]
theorem f_c6 (me cl : D) (am gi wor : Sl) (ps mo : List Q) (hp : ps.length = m) (hg : mo.length = m) (hm8 : m ≤ 1000) : (ev P law_fine_c6).val (F bx me co cl m n am (.v (.tuple (RL ps))) gi wor (.v (.tuple (RL mo))) .no .no) = some (.l ((List.range m).map fun i => .bool (decide (mo.getD i (0, 1) = (0, 1)) || decide (ps.getD i (0, 1) = (0, 1)))), F bx me co cl m n am (.v (.tuple (RL ps))) gi wor (.v (.tuple (RL mo))) .no .no) := by
  have it := items_r2 m (show _ ≤ cap by unfold cap; omega)
  have c := lc_at0 (P := P) (t := .nm 9) (k := .rng) (its := [(.var 3)]) (elt := (.bop .Or [(.cmp .Eq (.idx (.var 14) (.var 9)) (.tup [(.cst (.int 0)), (.cst (.int 1))])), (.cmp .Eq (.idx (.var 8) (.var 9)) (.tup [(.cst (.int 0)), (.cst (.int 1))]))])) (own := [9]) (e := F bx me co cl m n am (.v (.tuple (RL ps))) gi wor (.v (.tuple (RL mo))) .no .no) (ps := [.d (I m)]) (ds := [I m]) (fun i => .bool (decide (mo.getD i (0, 1) = (0, 1)) || decide (ps.getD i (0, 1) = (0, 1)))) rfl rfl rfl it fun i x hx => by
    obtain ⟨h1, rfl⟩ := rngL_at hx
    rw [Int.zero_add]
    have a1 := RLat (show i < mo.length by omega)
    have a2 := RLat (show i < ps.length by omega)
    have e1 : mo.getD i (0, 1) = mo[i] := by rw [List.getD_eq_getElem?_getD, List.getElem?_eq_getElem (by omega)]; rfl
    have e2 : ps.getD i (0, 1) = ps[i] := by rw [List.getD_eq_getElem?_getD, List.getElem?_eq_getElem (by omega)]; rfl
    rw [e1, e2]
    generalize mo[i] = g at a1 ⊢
    generalize ps[i] = w at a2 ⊢
    have q1 := eq_RD g (0, 1)
    have q2 := eq_RD w (0, 1)
    generalize decide (g = (0, 1)) = k1 at q1 ⊢
    generalize decide (w = (0, 1)) = k2 at q2 ⊢
    generalize RL mo = gl at a1 ⊢
    generalize RL ps = ns at a2 ⊢
    refine ⟨E_law_fine (box := bx) (menu := .v me) (costs := .v co) (m := .v (I m)) (columns := .v cl) (n := .v (I n)) (amounts := am) (prices := .v (.tuple ns)) (i := .v (I i)) (given := gi) (worths := wor) (more := .v (.tuple gl)), by simp [setS_t], rfl, frz_of (?_ : (ev P _).val _ = some (.v (.bool _), _)) rfl⟩
    rw [ev_bop, evs_cons, evs_cons, evs_nil]
    exact or2v (by simp [a1, q1, sizeLine]) (by simp [a2, q2, sizeLine])
  rw [rngL_len] at c
  exact c
theorem f_c7 (me cl : D) (pr gi mo : Sl) (cs am wo : List Q) (hc : cs.length = n) (ha : am.length = n) (hw : wo.length = n) (hn8 : n ≤ 1000) : (ev P law_fine_c7).val (F bx me (.tuple (RL cs)) cl m n (.v (.tuple (RL am))) pr gi (.v (.tuple (RL wo))) mo .no .no) = some (.l ((List.range n).map fun j => .bool (decide (cs.getD j (0, 1) = wo.getD j (0, 1)) || decide (am.getD j (0, 1) = (0, 1)))), F bx me (.tuple (RL cs)) cl m n (.v (.tuple (RL am))) pr gi (.v (.tuple (RL wo))) mo .no .no) := by
  have it := items_r2 n (show _ ≤ cap by unfold cap; omega)
  have c := lc_at0 (P := P) (t := .nm 7) (k := .rng) (its := [(.var 5)]) (elt := (.bop .Or [(.cmp .Eq (.idx (.var 2) (.var 7)) (.idx (.var 12) (.var 7))), (.cmp .Eq (.idx (.var 6) (.var 7)) (.tup [(.cst (.int 0)), (.cst (.int 1))]))])) (own := [7]) (e := F bx me (.tuple (RL cs)) cl m n (.v (.tuple (RL am))) pr gi (.v (.tuple (RL wo))) mo .no .no) (ps := [.d (I n)]) (ds := [I n]) (fun j => .bool (decide (cs.getD j (0, 1) = wo.getD j (0, 1)) || decide (am.getD j (0, 1) = (0, 1)))) rfl rfl rfl it fun i x hx => by
    obtain ⟨h1, rfl⟩ := rngL_at hx
    rw [Int.zero_add]
    have a1 := RLat (show i < cs.length by omega)
    have a2 := RLat (show i < wo.length by omega)
    have a3 := RLat (show i < am.length by omega)
    have e1 : cs.getD i (0, 1) = cs[i] := by rw [List.getD_eq_getElem?_getD, List.getElem?_eq_getElem (by omega)]; rfl
    have e2 : wo.getD i (0, 1) = wo[i] := by rw [List.getD_eq_getElem?_getD, List.getElem?_eq_getElem (by omega)]; rfl
    have e3 : am.getD i (0, 1) = am[i] := by rw [List.getD_eq_getElem?_getD, List.getElem?_eq_getElem (by omega)]; rfl
    rw [e1, e2, e3]
    generalize cs[i] = g at a1 ⊢
    generalize wo[i] = w at a2 ⊢
    generalize am[i] = u at a3 ⊢
    have q1 := eq_RD g w
    have q2 := eq_RD u (0, 1)
    generalize decide (g = w) = k1 at q1 ⊢
    generalize decide (u = (0, 1)) = k2 at q2 ⊢
    generalize RL cs = gl at a1 ⊢
    generalize RL wo = ns at a2 ⊢
    generalize RL am = us at a3 ⊢
    refine ⟨E_law_fine (box := bx) (menu := .v me) (costs := .v (.tuple gl)) (m := .v (I m)) (columns := .v cl) (n := .v (I n)) (amounts := .v (.tuple us)) (j := .v (I i)) (prices := pr) (given := gi) (worths := .v (.tuple ns)) (more := mo), by simp [setS_t], rfl, frz_of (?_ : (ev P _).val _ = some (.v (.bool _), _)) rfl⟩
    rw [ev_bop, evs_cons, evs_cons, evs_nil]
    exact or2v (by simp [a1, a2, q1]) (by simp [a3, q2, sizeLine])
  rw [rngL_len] at c
  exact c
end
end
end Law

namespace Law
open PySem PySem.Spec L2 Mini
section
abbrev FV (bx : Sl) (me co cl : D) (m n : Nat) (am pr gi wor mo fi ro : Sl) (v : D) (du : Sl) : En := E_law_fine (box := bx) (menu := .v me) (costs := .v co) (m := .v (I m)) (columns := .v cl) (n := .v (I n)) (amounts := am) (prices := pr) (given := gi) (worths := wor) (more := mo) (fits := fi) (rows := ro) (value := .v v) (due := du)
theorem tup4 {P : Ph} {A B C1 D1 : E} {e : En} {a b c d : D} (ha : (ev P A).val e = some (.v a, e)) (hb : (ev P B).val e = some (.v b, e)) (hc : (ev P C1).val e = some (.v c, e)) (hd : (ev P D1).val e = some (.v d, e)) : (ev P (.tup [A, B, C1, D1])).val e = some (.v (.tuple [a, b, c, d]), e) := by
  simp [ha, hb, hc, hd, sizeLine]
theorem val_1 (P : Ph) (bx : Sl) (me co cl : D) (m n : Nat) (am pr gi wor mo fi ro : Sl) (v : D) (b1 b2 b3 b4 : Bool)
    (h37 : retOf P 37 [.v me, .v v] = some (.v (.bool b1))) (h38 : retOf P 38 [.v me, .v v] = some (.v (.bool b2))) (h39 : retOf P 39 [.v me, .v co, .v v] = some (.v (.bool b3))) (h40 : retOf P 40 [.v me, .v co, .v v] = some (.v (.bool b4)))
    (h15 : retOf P 15 [.v me, .v v] = some (.v (.bool b1))) (h16 : retOf P 16 [.v me, .v v] = some (.v (.bool b2))) (h17 : retOf P 17 [.v me, .v co, .v v] = some (.v (.bool b3))) (h18 : retOf P 18 [.v me, .v co, .v v] = some (.v (.bool b4)))
    (h8 : retOf P 8 [.v v, .v (I n)] = some (.v (.bool (ratQ n v).isSome))) (h32 : ∀ xs, v = .tuple xs → ∀ x ∈ xs, retOf P 32 [.v x] = some (.v (.bool (isR x))))
    (s4 : ∀ a b c d : Bool, retOf P 24 [.v (.tuple [.bool a, .bool b, .bool c, .bool d]), .v (.tuple [.bool a, .bool b, .bool c, .bool d])] = some (.v (.bool true))) (s1 : ∀ a : Bool, retOf P 24 [.v (.bool a), .v (.bool a)] = some (.v (.bool true))) :
    Go P law_fine_l1 (FV bx me co cl m n am pr gi wor mo fi ro v .no) (.nx (F bx me co cl m n am pr gi wor mo fi ro)) := by
  have e1 : (ev P (.tup [(.call 37 [(.var 1), (.var 17)]), (.call 38 [(.var 1), (.var 17)]), (.call 39 [(.var 1), (.var 2), (.var 17)]), (.call 40 [(.var 1), (.var 2), (.var 17)])])).val (FV bx me co cl m n am pr gi wor mo fi ro v .no) = some (.v (.tuple [.bool b1, .bool b2, .bool b3, .bool b4]), FV bx me co cl m n am pr gi wor mo fi ro v .no) := tup4 (by simp [h37]) (by simp [h38]) (by simp [h39]) (by simp [h40])
  refine Go.cons (f := FV bx me co cl m n am pr gi wor mo fi ro v (.v (.tuple [.bool b1, .bool b2, .bool b3, .bool b4]))) (.of (by rw [ex_asg, e1, Option.bind_some]; simp [setS_t])) ?_
  have e2 : (ev P (.tup [(.call 15 [(.var 1), (.var 17)]), (.call 16 [(.var 1), (.var 17)]), (.call 17 [(.var 1), (.var 2), (.var 17)]), (.call 18 [(.var 1), (.var 2), (.var 17)])])).val (FV bx me co cl m n am pr gi wor mo fi ro v (.v (.tuple [.bool b1, .bool b2, .bool b3, .bool b4]))) = some (.v (.tuple [.bool b1, .bool b2, .bool b3, .bool b4]), FV bx me co cl m n am pr gi wor mo fi ro v (.v (.tuple [.bool b1, .bool b2, .bool b3, .bool b4]))) := tup4 (by simp [h15]) (by simp [h16]) (by simp [h17]) (by simp [h18])
  refine nxF (not_tst (b := true) (callT e2 (by simp) (s4 b1 b2 b3 b4))) ?_
  have e3 : (ev P (.call 8 [(.var 17), (.var 5)])).val (FV bx me co cl m n am pr gi wor mo fi ro v (.v (.tuple [.bool b1, .bool b2, .bool b3, .bool b4]))) = some (.v (.bool (ratQ n v).isSome), FV bx me co cl m n am pr gi wor mo fi ro v (.v (.tuple [.bool b1, .bool b2, .bool b3, .bool b4]))) := by
    generalize (ratQ n v).isSome = k at h8 ⊢
    simp [h8]
  have e4 : (ev P (.bop .And [(.isi (.var 17) .tuple), (.cmp .Eq (.blt .len [(.var 17)]) (.var 5)), (.blt .all [law_fine_c8])])).val (FV bx me co cl m n am pr gi wor mo fi ro v (.v (.tuple [.bool b1, .bool b2, .bool b3, .bool b4]))) = some (.v (.bool (ratQ n v).isSome), FV bx me co cl m n am pr gi wor mo fi ro v (.v (.tuple [.bool b1, .bool b2, .bool b3, .bool b4]))) := by
    generalize (Sl.v (.tuple [.bool b1, .bool b2, .bool b3, .bool b4])) = du
    rw [ev_bop, evs_cons, evs_cons, evs_cons, evs_nil]
    cases v with
    | tuple xs =>
      have t1 : (ev P (.isi (.var 17) .tuple)).val (FV bx me co cl m n am pr gi wor mo fi ro (.tuple xs) du) = some (.v (.bool true), FV bx me co cl m n am pr gi wor mo fi ro (.tuple xs) du) := by simp
      have t2 : (ev P (.cmp .Eq (.blt .len [(.var 17)]) (.var 5))).val (FV bx me co cl m n am pr gi wor mo fi ro (.tuple xs) du) = some (.v (.bool (decide (xs.length = n))), FV bx me co cl m n am pr gi wor mo fi ro (.tuple xs) du) := by
        have e : ((xs.length : Int) = (n : Int)) ↔ xs.length = n := by omega
        by_cases h : xs.length = n
        · simp [h]
        · simp [e, h]
      have c1 : (ev P law_fine_c8).val (FV bx me co cl m n am pr gi wor mo fi ro (.tuple xs) du) = some (.l (xs.map fun x => .bool (isR x)), FV bx me co cl m n am pr gi wor mo fi ro (.tuple xs) du) := by
        refine lc_of0 (ps := [.d (.tuple xs)]) (ds := [.tuple xs]) (fun x => .bool (isR x)) rfl rfl rfl (items_t xs) fun x hx => ?_
        have h := h32 xs rfl x hx
        exact ⟨E_law_fine (box := bx) (menu := .v me) (costs := .v co) (m := .v (I m)) (columns := .v cl) (n := .v (I n)) (amounts := am) (prices := pr) (given := gi) (worths := wor) (more := mo) (fits := fi) (rows := ro) (value := .v (.tuple xs)) (due := du) (part := .v x), by simp [setS_t], rfl, by simp [h]⟩
      have t3 := (all_tst (law_fine_c8_o _ _) c1 (bmap_all _ xs)).2
      rw [and3v t1 t2 t3]
      have e : (true && (decide (xs.length = n) && xs.all fun x => isR x)) = (ratQ n (.tuple xs)).isSome := by
        simp only [ratQ, Bool.true_and]
        by_cases h1 : xs.length = n
        · by_cases h3 : xs.all isR = true
          · rw [if_pos ⟨h1, h3⟩, decide_eq_true h1]; exact h3
          · rw [if_neg (fun z => h3 z.2), decide_eq_true h1]
            have : xs.all isR = false := by simpa using h3
            exact this
        · rw [if_neg (fun z => h1 z.1), decide_eq_false h1]; rfl
      rw [e]
    | _ => rw [and1F (by simp [isi_dict])]; rfl
  refine nxF (not_tst (b := true) (callT e3 e4 (s1 _))) (.nil (by simp))
end
end Law

namespace Law
open PySem PySem.Spec L2 Mini
section
noncomputable abbrev P38 := callN (tbOf es) 38
theorem sameAt : SameAt es 24 i__law_same := ⟨rfl, rfl, rfl, rfl, rfl⟩
theorem s1_38 (a : Bool) : retOf P38 24 [.v (.bool a), .v (.bool a)] = some (.v (.bool true)) := same_self sameAt 0 37 (.bool a) (.bool _ _)
theorem s4_38 (a b c d : Bool) : retOf P38 24 [.v (.tuple [.bool a, .bool b, .bool c, .bool d]), .v (.tuple [.bool a, .bool b, .bool c, .bool d])] = some (.v (.bool true)) := same_self sameAt 1 36 _ (.tuple _ _ (by unfold cap; simp) fun x hx => by
  simp only [List.mem_cons, List.not_mem_nil, or_false] at hx
  rcases hx with rfl | rfl | rfl | rfl <;> exact .bool _ _)
theorem okRD (k : Nat) (q : Q) : OkS (k + 1) (RD q) := .tuple _ _ (by unfold cap; simp) fun x hx => by
  simp only [List.mem_cons, List.not_mem_nil, or_false] at hx
  rcases hx with rfl | rfl <;> exact .int _ _
theorem okRL (k : Nat) (qs : List Q) (h : qs.length ≤ 1000) : OkS (k + 2) (.tuple (RL qs)) := .tuple _ _ (by rw [List.length_map]; unfold cap; omega) fun x hx => by
  obtain ⟨q, _, rfl⟩ := List.mem_map.mp hx
  exact okRD k q
theorem rep_all (x : D) (n : Nat) (h : n ≤ 1000) : binD .Mult (.tuple [x]) (.int (n : Int)) = some (.v (.tuple (List.replicate n x))) := by
  have fl : ∀ n : Nat, (List.replicate n [x]).flatten = List.replicate n x := fun n => by
    induction n with
    | zero => rfl
    | succ n ih => rw [List.replicate_succ, List.flatten_cons, ih]; rfl
  simp only [binD]
  by_cases h2 : 2 ≤ n
  · rw [if_pos ⟨by simp, by omega, by omega, by simp⟩, Int.toNat_natCast, fl]
  · rw [if_neg (fun z => h2 (by have := z.2.1; omega))]
    by_cases h1 : n = 1
    · subst h1; rfl
    · have h0 : n = 0 := by omega
      subst h0; rfl
theorem tup3 {P : Ph} {A B C1 : E} {e : En} {a b c : D} (ha : (ev P A).val e = some (.v a, e)) (hb : (ev P B).val e = some (.v b, e)) (hc : (ev P C1).val e = some (.v c, e)) : (ev P (.tup [A, B, C1])).val e = some (.v (.tuple [a, b, c]), e) := by
  simp [ha, hb, hc, sizeLine]
theorem tup2 {P : Ph} {A B : E} {e : En} {a b : D} (ha : (ev P A).val e = some (.v a, e)) (hb : (ev P B).val e = some (.v b, e)) : (ev P (.tup [A, B])).val e = some (.v (.tuple [a, b]), e) := by
  simp [ha, hb, sizeLine]
theorem tupL {P : Ph} {A B : E} {e : En} {a : D} {ys : List D} (ha : (ev P A).val e = some (.v a, e)) (hb : (ev P B).val e = some (.l ys, e)) : (ev P (.tup [A, B])).val e = some (.v (.tuple [a, .list ys]), e) := by
  simp [ha, hb, sizeLine]
section
variable (P : Ph) (bx : Sl) (me co cl : D) (m n : Nat)
theorem f_1 (nd rs : D) (ns cs : List D) (hm : (ns.length : Int) = m) (h36 : retOf P 36 [.v (.tuple [.tuple ns, rs])] = some (.l cs)) : ex P (.asg (.tp [(.nm 3), (.nm 4)]) (.tup [(.blt .len [(.idx (.var 1) (.cst (.int 0)))]), (.call 36 [(.var 1)])])) (E_law_fine (box := bx) (menu := .v (.tuple [.tuple ns, rs])) (costs := .v co)) = some (.nx (E_law_fine (box := bx) (menu := .v (.tuple [.tuple ns, rs])) (costs := .v co) (m := .v (I m)) (columns := .v (.list cs)))) := by
  have t : (ev P (.tup [(.blt .len [(.idx (.var 1) (.cst (.int 0)))]), (.call 36 [(.var 1)])])).val (E_law_fine (box := bx) (menu := .v (.tuple [.tuple ns, rs])) (costs := .v co)) = some (.v (.tuple [I m, .list cs]), E_law_fine (box := bx) (menu := .v (.tuple [.tuple ns, rs])) (costs := .v co)) := tupL (by simp [hm]) (by simp [h36])
  rw [ex_unp, frz_of t rfl]
  simp [setS_t]
theorem f_2 (cs : List D) (hn : (cs.length : Int) = n) : ex P (.asg (.nm 5) (.blt .len [(.var 4)])) (E_law_fine (box := bx) (menu := .v me) (costs := .v co) (m := .v (I m)) (columns := .v (.list cs))) = some (.nx (F bx me co (.list cs) m n .no .no .no .no .no .no .no)) := by
  simp [hn, setS_t]
theorem f_7 (am pr : List D) (gi wor : D) (h10 : retOf P 10 [.v me] = some (.v (I n))) (h13 : retOf P 13 [.v me, .v (.tuple am)] = some (.v gi)) (h14 : retOf P 14 [.v me, .v (.tuple pr)] = some (.v wor)) (s : retOf P 24 [.v (.tuple [I n, gi, wor]), .v (.tuple [I n, gi, wor])] = some (.v (.bool true))) :
    (ev P (.not (.call 24 [(.tup [(.call 10 [(.var 1)]), (.call 13 [(.var 1), (.var 6)]), (.call 14 [(.var 1), (.var 8)])]), (.tup [(.var 5), (.var 10), (.var 12)])]))).tst (F bx me co cl m n (.v (.tuple am)) (.v (.tuple pr)) (.v gi) (.v wor) .no .no .no) = some (false, F bx me co cl m n (.v (.tuple am)) (.v (.tuple pr)) (.v gi) (.v wor) .no .no .no) :=
  not_tst (b := true) (callT (tup3 (by simp [h10]) (by simp [h13]) (by simp [h14])) (tup3 (by simp) (by simp) (by simp)) s)
theorem f_9 (am pr gi wor : Sl) (mo u a : D) (ha : am = .v a) (h19 : retOf P 19 [.v me, .v a] = some (.v mo)) (h12 : retOf P 12 [.v co, .v a] = some (.v u)) (h31 : retOf P 31 [.v co, .v a] = some (.v u)) (s : retOf P 24 [.v (.tuple [mo, u]), .v (.tuple [mo, u])] = some (.v (.bool true))) :
    (ev P (.not (.call 24 [(.tup [(.call 19 [(.var 1), (.var 6)]), (.call 12 [(.var 2), (.var 6)])]), (.tup [(.var 14), (.call 31 [(.var 2), (.var 6)])])]))).tst (F bx me co cl m n am pr gi wor (.v mo) .no .no) = some (false, F bx me co cl m n am pr gi wor (.v mo) .no .no) := by
  subst ha
  exact not_tst (b := true) (callT (tup2 (by simp [h19]) (by simp [h12])) (tup2 (by simp) (by simp [h31])) s)
theorem f_11 (am pr gi wor mo : Sl) (a p : D) (k : Bool) (ha : am = .v a) (hp : pr = .v p) (h20 : retOf P 20 [.v me, .v co, .v a, .v p] = some (.v (.bool k))) (s : retOf P 24 [.v (.bool k), .v (.bool k)] = some (.v (.bool true))) :
    (ev P (.not (.call 24 [(.call 20 [(.var 1), (.var 2), (.var 6), (.var 8)]), (.var 15)]))).tst (F bx me co cl m n am pr gi wor mo (.v (.bool k)) .no) = some (false, F bx me co cl m n am pr gi wor mo (.v (.bool k)) .no) := by
  subst ha hp
  exact not_tst (b := true) (callT (by simp [h20]) (by simp) s)
def lstR : E := .lst [(.var 6), (.var 8), (.bin .Mult (.tup [(.cst (.int 0))]) (.var 5)), (.bin .Mult (.tup [(.tup [(.cst (.int 0)), (.cst (.int 1))])]) (.var 5)), (.bin .Mult (.tup [(.tup [(.cst (.int 0)), (.cst (.int 1))])]) (.var 3)), (.bin .Mult (.tup [(.tup [(.cst (.int 9)), (.cst (.int 1))])]) (.var 5)), (.slc (.var 6) [] [(.neg (.cst (.int 1)))]), (.bin .Add (.var 6) (.tup [(.tup [(.cst (.int 0)), (.cst (.int 1))])])), (.bin .Mult (.tup [(.tup [(.neg (.cst (.int 1))), (.cst (.int 1))])]) (.var 5)), (.bin .Mult (.tup [(.tup [(.cst (.int 2)), (.cst (.int 2))])]) (.var 5)), (.cst .none), (.tup []), (.cst (.int 0))]
theorem f_12 (am pr : List D) (gi wor mo fi : Sl) (u r1 r2 r3 r4 r5 r6 : List D) (hu : binD .Add (.tuple am) (.tuple [R2 0 1]) = some (.v (.tuple u))) (h1 : binD .Mult (.tuple [.int 0]) (I n) = some (.v (.tuple r1))) (h2 : binD .Mult (.tuple [R2 0 1]) (I n) = some (.v (.tuple r2))) (h3 : binD .Mult (.tuple [R2 0 1]) (I m) = some (.v (.tuple r3))) (h4 : binD .Mult (.tuple [R2 9 1]) (I n) = some (.v (.tuple r4))) (h5 : binD .Mult (.tuple [R2 (-1) 1]) (I n) = some (.v (.tuple r5))) (h6 : binD .Mult (.tuple [R2 2 2]) (I n) = some (.v (.tuple r6))) :
    (ev P lstR).val (F bx me co cl m n (.v (.tuple am)) (.v (.tuple pr)) gi wor mo fi .no) = some (.l [.tuple am, .tuple pr, .tuple r1, .tuple r2, .tuple r3, .tuple r4, .tuple (cutD am none (some (-1))), .tuple u, .tuple r5, .tuple r6, .none, .tuple [], .int 0], F bx me co cl m n (.v (.tuple am)) (.v (.tuple pr)) gi wor mo fi .no) := by
  simp [lstR, hu, h1, h2, h3, h4, h5, h6, sizeLine]
end
end
end Law

namespace Law
open PySem PySem.Spec L2 Mini
section
theorem neg_red {q : Q} (h : Gd q) : negQ q = (-q.1, q.2) := by
  obtain ⟨a, b⟩ := q
  have hb : 0 < b := h.ok.pos
  have hr : Int.gcd a b = 1 := h.red
  show (rp (-1 * a) (1 * b), rq (-1 * a) (1 * b)) = (-a, b)
  have e1 : (-1 : Int) * a = -a := by omega
  have e2 : (1 : Int) * b = b := by omega
  rw [e1, e2]
  unfold rp rq
  have g : Int.gcd (-a) b = 1 := by rw [Int.neg_gcd]; exact hr
  rw [g, if_neg (by omega), if_neg (by omega)]
  simp
theorem fzR (q : Q) (h : Ok 100 q) : Fz (RD q) := .tuple _ fun x hx => by
  simp only [List.mem_cons, List.not_mem_nil, or_false] at hx
  rcases hx with rfl | rfl
  · exact .int _ h.p
  · exact .int _ h.q
theorem fzL {qs : List Q} (h : ∀ q ∈ qs, Ok 100 q) : ∀ x ∈ RL qs, Fz x := fun x hx => by
  obtain ⟨q, hq, rfl⟩ := List.mem_map.mp hx
  exact fzR q (h q hq)
theorem fz_rep {x : D} (n : Nat) (h : Fz x) : Fz (.tuple (List.replicate n x)) := .tuple _ fun y hy => by rw [(List.mem_replicate.mp hy).2]; exact h
theorem gqL {qs : List Q} (h : ∀ q ∈ qs, Gd q) (hl : qs.length ≤ 1000) : Gq 2 (.tuple (RL qs)) := .tuple _ _ (by rw [List.length_map]; exact hl) fun x hx => by
  obtain ⟨q, hq, rfl⟩ := List.mem_map.mp hx
  exact (h q hq).gq 0
theorem asgV {P : Ph} {i : Nat} {A : E} {e e1 e2 : En} {x : Sl} (h : (ev P A).val e = some (x, e1)) (h2 : setS i x e1 = some e2) : ex P (.asg (.nm i) A) e = some (.nx e2) := by
  rw [ex_asg, h, Option.bind_some, h2]; rfl
theorem o13 (P : Ph) (bx bx1 bx2 : Sl) (me co cl : D) (m n : Nat) (am pr gi wor mo fi : Sl) (LV b1 b2 : List D) (c9 : (ev P law_fine_c9).val (F bx me co cl m n am pr gi wor mo fi (.l LV)) = some (.l b1, F bx1 me co cl m n am pr gi wor mo fi (.l LV))) (c10 : (ev P law_fine_c10).val (F bx1 me co cl m n am pr gi wor mo fi (.l LV)) = some (.l b2, F bx2 me co cl m n am pr gi wor mo fi (.l LV))) (hl : LV.length + b1.length + b2.length ≤ capL) :
    opsM ((evs P [(.bin .Add (.bin .Add (.var 16) law_fine_c9) law_fine_c10)]).map frO) (F bx me co cl m n am pr gi wor mo fi (.l LV)) = some ([.d (.list (LV ++ b1 ++ b2))], F bx2 me co cl m n am pr gi wor mo fi (.l LV)) := by
  have q1 := bin_catL LV b1 (by omega)
  have q2 := bin_catL (LV ++ b1) b2 (by rw [List.length_append]; omega)
  generalize LV ++ b1 ++ b2 = y2 at q2 ⊢
  generalize LV ++ b1 = y1 at q1 q2
  simp only [F, E_law_fine] at c9 c10
  simp [c9, c10, q1, q2]
theorem f_end (P : Ph) (bx : Sl) (needs : List Q) (ts : List D) (co cl : D) (m n : Nat) (am pr gi wor mo fi ro : Sl) (h11 : retOf P 11 [.v (.tuple (RL needs))] = some (.v (.bool (aboveB needs)))) (s : ∀ a : Bool, retOf P 24 [.v (.bool a), .v (.bool a)] = some (.v (.bool true))) :
    (ev P (.call 24 [(.call 11 [(.idx (.var 1) (.cst (.int 0)))]), (.blt .all [law_fine_c11])])).val (F bx (.tuple [.tuple (RL needs), .tuple ts]) co cl m n am pr gi wor mo fi ro) = some (.v (.bool true), F bx (.tuple [.tuple (RL needs), .tuple ts]) co cl m n am pr gi wor mo fi ro) := by
  have c : (ev P law_fine_c11).val (F bx (.tuple [.tuple (RL needs), .tuple ts]) co cl m n am pr gi wor mo fi ro) = some (.l (needs.map fun q => .bool (decide (0 ≤ q.1))), F bx (.tuple [.tuple (RL needs), .tuple ts]) co cl m n am pr gi wor mo fi ro) := by
    refine lc_ofA (ps := [.d (.tuple (RL needs))]) (ds := [.tuple (RL needs)]) needs _ _ rfl ?_ rfl (items_t (RL needs)) fun q hq => ?_
    · generalize RL needs = ns; simp
    · generalize RL needs = ns
      exact ⟨E_law_fine (box := bx) (menu := .v (.tuple [.tuple ns, .tuple ts])) (costs := .v co) (m := .v (I m)) (columns := .v cl) (n := .v (I n)) (amounts := am) (prices := pr) (given := gi) (worths := wor) (more := mo) (fits := fi) (rows := ro) (part := .v (RD q)), by simp [setS_t], rfl, by simp⟩
  have t := (all_tst (law_fine_c11_o _ _) c (bmap_all _ needs)).2
  have t : (ev P (.blt .all [law_fine_c11])).val (F bx (.tuple [.tuple (RL needs), .tuple ts]) co cl m n am pr gi wor mo fi ro) = some (.v (.bool (aboveB needs)), _) := t
  have u : (ev P (.call 11 [(.idx (.var 1) (.cst (.int 0)))])).val (F bx (.tuple [.tuple (RL needs), .tuple ts]) co cl m n am pr gi wor mo fi ro) = some (.v (.bool (aboveB needs)), F bx (.tuple [.tuple (RL needs), .tuple ts]) co cl m n am pr gi wor mo fi ro) := by
    generalize aboveB needs = k at h11 ⊢
    generalize RL needs = ns at h11 ⊢
    simp [h11]
  have cv : ∀ {A B : E} {e : En} {a b : D} {j : Nat} {x : Sl}, (ev P A).val e = some (.v a, e) → (ev P B).val e = some (.v b, e) → retOf P j [.v a, .v b] = some x → (ev P (.call j [A, B])).val e = some (x, e) := fun ha hb h => by simp [ha, hb, h]
  exact cv u t (s _)
section
variable {needs : List Q} {rows : List (List Q)} {n : Nat} (M : Mn needs rows n) (gN : ∀ q ∈ needs, Gd q)
include M gN
theorem goB_eq {costs qs ps : List Q} (hc : costs.length = n) (hq : qs.length = n) (hp : ps.length = needs.length) : goB needs rows n costs qs ps = (((List.range needs.length).all fun i => decide ((ovQ needs rows qs).getD i (0, 1) = (0, 1)) || decide (ps.getD i (0, 1) = (0, 1))) && (List.range n).all fun j => decide (costs.getD j (0, 1) = (wo rows n ps).getD j (0, 1)) || decide (qs.getD j (0, 1) = (0, 1))) := by
  have ol : (ovQ needs rows qs).length = needs.length := by unfold ovQ; rw [List.length_zipWith, List.length_map, M.len]; omega
  have wl : (wo rows n ps).length = n := by rw [List.length_map, cols_len]
  unfold goB
  have e1 := zip_any (fun x y => nz x && nz y) (ovQ needs rows qs) ps (by omega)
  rw [e1, ol]
  have e2 : (!(List.zip costs (List.zip (wo rows n ps) qs)).any fun p => !decide (p.1 = p.2.1) && nz p.2.2) = (List.range n).all fun j => !(!decide (costs.getD j (0, 1) = (wo rows n ps).getD j (0, 1)) && nz (qs.getD j (0, 1))) := by
    have z : List.zip costs (List.zip (wo rows n ps) qs) = (List.range n).map fun j => (costs.getD j (0, 1), (wo rows n ps).getD j (0, 1), qs.getD j (0, 1)) := by
      apply List.ext_getElem?
      intro i
      rw [List.getElem?_map]
      by_cases hi : i < n
      · rw [List.getElem?_range hi, Option.map_some, List.getElem?_eq_getElem (by rw [List.length_zip, List.length_zip]; omega), List.getElem_zip, List.getElem_zip]
        rw [List.getD_eq_getElem?_getD, List.getD_eq_getElem?_getD, List.getD_eq_getElem?_getD, List.getElem?_eq_getElem (by omega), List.getElem?_eq_getElem (by omega), List.getElem?_eq_getElem (by omega)]; rfl
      · rw [List.getElem?_eq_none (by rw [List.length_zip, List.length_zip]; omega), List.getElem?_eq_none (by simpa using hi)]; rfl
    rw [z, List.any_map, List.not_any_eq_all_not]; rfl
  rw [e2]
  congr 1
  · congr 1; funext i; simp [nz]
  · congr 1; funext i; simp [nz]
theorem fine_r (costs : List Q) (gC : ∀ q ∈ costs, Gd q) (hcl : costs.length = n) (hm : needs.length ≤ 8) (cs : List Int) (a b : Int) : ∃ (c2 : List Int) (a2 b2 : Int), retB (callN (tbOf es) 39) 42 [.bx cs [a, b], .v (MD needs rows), .v (.tuple (RL costs))] = some (.v (.bool true), .bx c2 [a2, b2]) := by
  have n8 := M.n8
  have sA := fun cs a b => some_r (d := 38) (by omega) 0 4 (by omega) (by omega) (by omega) cs a b
  have sP := fun cs a b => some_r (d := 38) (by omega) 0 2 (by omega) (by omega) (by omega) cs a b
  have oC : ∀ q ∈ costs, Ok 100 q := fun q h => (gC q h).ok100
  have clen : (cols rows n).length = n := cols_len
  have h36 := columns_r M (d := 38) (by omega)
  have nl : ((RL needs).length : Int) = (needs.length : Int) := by rw [List.length_map]
  have cl : ((TL (cols rows n)).length : Int) = (n : Int) := by rw [List.length_map, cols_len]
  have itn := items_r2 n (show _ ≤ cap by unfold cap; omega)
  have itm := items_r2 needs.length (show _ ≤ cap by unfold cap; omega)
  obtain ⟨am, c1, a1, b1, k1, k2, k3⟩ := lc_drw (P := P38) (t := .nm 7) (k := .rng) (its := [(.var 5)]) (elt := (.callB 33 0 [(.cst (.int 0)), (.cst (.int 4))])) (own := [7]) (ds := [I n]) (xs := rngL 0 n)
    (fun bx => F bx (MD needs rows) (.tuple (RL costs)) (.list (TL (cols rows n))) needs.length n .no .no .no .no .no .no .no)
    (fun bx x => E_law_fine (box := bx) (menu := .v (MD needs rows)) (costs := .v (.tuple (RL costs))) (m := .v (I needs.length)) (columns := .v (.list (TL (cols rows n)))) (n := .v (I n)) (j := .v x)) RD Gd (fun bx x => by generalize MD needs rows = me; generalize RL costs = c; generalize TL (cols rows n) = t; simp [setS_t]) (fun _ _ => rfl) (fun _ => rfl) (fun _ _ => rfl) itn
    (fun x _ cs a b => by
      obtain ⟨q, c2, a2, b2, h, g⟩ := sA cs a b
      have h : retB P38 33 _ = _ := h
      generalize P38 = P at h ⊢
      generalize MD needs rows = me; generalize RL costs = c; generalize TL (cols rows n) = t
      exact ⟨q, c2, a2, b2, by simp [h], g⟩) (F (.bx cs [a, b]) (MD needs rows) (.tuple (RL costs)) (.list (TL (cols rows n))) needs.length n .no .no .no .no .no .no .no) cs a b rfl rfl
  rw [rngL_len] at k2
  obtain ⟨pr, c2, a2, b2, l1, l2, l3⟩ := lc_drw (P := P38) (t := .nm 9) (k := .rng) (its := [(.var 3)]) (elt := (.callB 33 0 [(.cst (.int 0)), (.cst (.int 2))])) (own := [9]) (ds := [I needs.length]) (xs := rngL 0 needs.length)
    (fun bx => F bx (MD needs rows) (.tuple (RL costs)) (.list (TL (cols rows n))) needs.length n (.v (.tuple (RL am))) .no .no .no .no .no .no)
    (fun bx x => E_law_fine (box := bx) (menu := .v (MD needs rows)) (costs := .v (.tuple (RL costs))) (m := .v (I needs.length)) (columns := .v (.list (TL (cols rows n)))) (n := .v (I n)) (amounts := .v (.tuple (RL am))) (i := .v x)) RD Gd (fun bx x => by generalize MD needs rows = me; generalize RL costs = c; generalize TL (cols rows n) = t; generalize RL am = y; simp [setS_t]) (fun _ _ => rfl) (fun _ => rfl) (fun _ _ => rfl) itm
    (fun x _ cs a b => by
      obtain ⟨q, c2, a2, b2, h, g⟩ := sP cs a b
      have h : retB P38 33 _ = _ := h
      generalize P38 = P at h ⊢
      generalize MD needs rows = me; generalize RL costs = c; generalize TL (cols rows n) = t; generalize RL am = y
      exact ⟨q, c2, a2, b2, by simp [h], g⟩) (F (.bx c1 [a1, b1]) (MD needs rows) (.tuple (RL costs)) (.list (TL (cols rows n))) needs.length n (.v (.tuple (RL am))) .no .no .no .no .no .no) c1 a1 b1 rfl rfl
  rw [rngL_len] at l2
  have oA : ∀ q ∈ am, Ok 100 q := fun q h => (k3 q h).ok100
  have oP : ∀ q ∈ pr, Ok 100 q := fun q h => (l3 q h).ok100
  have t3 := f_c3 P38 (.bx c2 [a2, b2]) (.tuple (RL costs)) needs.length n needs rows (.list (TL (cols rows n))) am (.v (.tuple (RL pr))) fun r hr => ldot_r (by omega) r am (M.okR r hr) oA (by rw [M.wid r hr]; exact n8) (by rw [M.wid r hr, k2]; exact Nat.le_refl _)
  have t4 := f_c4 P38 (.bx c2 [a2, b2]) (.tuple (RL costs)) needs.length n (MD needs rows) (cols rows n) (.v (.tuple (RL am))) (.v (.tuple (RL (gv rows am)))) pr fun c hc => ldot_r (by omega) pr c oP (cols_ok M c hc) (by omega) (by rw [col_len c hc, M.len, l2]; exact Nat.le_refl _)
  have t5 := f_c5 P38 (.bx c2 [a2, b2]) (.tuple (RL costs)) needs.length n needs (TL rows) (.list (TL (cols rows n))) (.v (.tuple (RL am))) (.v (.tuple (RL pr))) (.v (.tuple (RL (wo rows n pr)))) (gv rows am) (fun g w => plusQ g (negQ w)) rfl (by rw [List.length_map, M.len]) (by omega) fun g hg w hw => by
    have e := neg_red (gN w hw)
    have q := lplusD (d := 38) (by omega) (gv_ok M oA g hg) (okm.times (M.okN w hw)) (by omega)
    have e' : RD (negQ w) = R2 (-w.1) w.2 := by rw [e]
    rw [← e']
    exact q
  have ol : (ovQ needs rows am).length = needs.length := by unfold ovQ; rw [List.length_zipWith, List.length_map, M.len]; omega
  have wl : (wo rows n pr).length = n := by rw [List.length_map, cols_len]
  have gl : (gv rows am).length = needs.length := by rw [List.length_map, M.len]
  have t6 := f_c6 P38 (.bx c2 [a2, b2]) (.tuple (RL costs)) needs.length n (MD needs rows) (.list (TL (cols rows n))) (.v (.tuple (RL am))) (.v (.tuple (RL (gv rows am)))) (.v (.tuple (RL (wo rows n pr)))) pr (ovQ needs rows am) l2 ol (by omega)
  have t7 := f_c7 P38 (.bx c2 [a2, b2]) needs.length n (MD needs rows) (.list (TL (cols rows n))) (.v (.tuple (RL pr))) (.v (.tuple (RL (gv rows am)))) (.v (.tuple (RL (ovQ needs rows am)))) costs am (wo rows n pr) hcl k2 wl (by omega)
  have u15 := and2v (all_tst (law_fine_c6_o _ _) t6 (bmap_all _ _)).2 (all_tst (law_fine_c7_o _ _) t7 (bmap_all _ _)).2
  rw [← goB_eq M gN hcl k2 l2] at u15
  have i7 := f_7 P38 (.bx c2 [a2, b2]) (MD needs rows) (.tuple (RL costs)) (.list (TL (cols rows n))) needs.length n (RL am) (RL pr) (.tuple (RL (gv rows am))) (.tuple (RL (wo rows n pr))) (by have := dishes_r (d := 38) (by omega) (.tuple (RL needs)) rows; rw [M.dn] at this; exact this) (given_r M (by omega) am oA) (worth_r M (by omega) pr oP (by omega))
    (same_self sameAt 3 34 _ (.tuple _ _ (by unfold cap; simp) fun x hx => by
      simp only [List.mem_cons, List.not_mem_nil, or_false] at hx
      rcases hx with rfl | rfl | rfl
      · exact .int _ _
      · exact okRL 0 _ (by omega)
      · exact okRL 0 _ (by omega)))
  have i9 := f_9 P38 (.bx c2 [a2, b2]) (MD needs rows) (.tuple (RL costs)) (.list (TL (cols rows n))) needs.length n (.v (.tuple (RL am))) (.v (.tuple (RL pr))) (.v (.tuple (RL (gv rows am)))) (.v (.tuple (RL (wo rows n pr)))) (.tuple (RL (ovQ needs rows am))) (RD (dotQ costs am)) (.tuple (RL am)) rfl (over_r M (by omega) am oA) (dot_r (d := 38) (by omega) false false costs am oC oA (by omega)) (ldot_r (by omega) costs am oC oA (by omega) (by omega))
    (same_self sameAt 3 34 _ (.tuple _ _ (by unfold cap; simp) fun x hx => by
      simp only [List.mem_cons, List.not_mem_nil, or_false] at hx
      rcases hx with rfl | rfl
      · exact okRL 0 _ (by omega)
      · exact okRD 1 _))
  have i11 := f_11 P38 (.bx c2 [a2, b2]) (MD needs rows) (.tuple (RL costs)) (.list (TL (cols rows n))) needs.length n (.v (.tuple (RL am))) (.v (.tuple (RL pr))) (.v (.tuple (RL (gv rows am)))) (.v (.tuple (RL (wo rows n pr)))) (.v (.tuple (RL (ovQ needs rows am)))) _ _ _ rfl rfl (together_r M (by omega) costs am pr oA oP (by omega)) (s1_38 _)
  have hu := bin_cat (RL am) [R2 0 1] (by rw [List.length_map, k2]; unfold capL; simp; omega)
  have i12 := f_12 P38 (.bx c2 [a2, b2]) (MD needs rows) (.tuple (RL costs)) (.list (TL (cols rows n))) needs.length n (RL am) (RL pr) (.v (.tuple (RL (gv rows am)))) (.v (.tuple (RL (wo rows n pr)))) (.v (.tuple (RL (ovQ needs rows am)))) (.v (.bool (goB needs rows n costs am pr))) _ _ _ _ _ _ _ hu (rep_all _ n (by omega)) (rep_all _ n (by omega)) (rep_all _ needs.length (by omega)) (rep_all _ n (by omega)) (rep_all _ n (by omega)) (rep_all _ n (by omega))
  have fA := fzL oA
  have fP := fzL oP
  have f01 : Fz (R2 0 1) := fzR (0, 1) ⟨by decide, by decide, by decide⟩
  obtain ⟨LV, iL, ll, lf⟩ : ∃ LV, (ev P38 lstR).val (F (.bx c2 [a2, b2]) (MD needs rows) (.tuple (RL costs)) (.list (TL (cols rows n))) needs.length n (.v (.tuple (RL am))) (.v (.tuple (RL pr))) (.v (.tuple (RL (gv rows am)))) (.v (.tuple (RL (wo rows n pr)))) (.v (.tuple (RL (ovQ needs rows am)))) (.v (.bool (goB needs rows n costs am pr))) .no) = some (.l LV, F (.bx c2 [a2, b2]) (MD needs rows) (.tuple (RL costs)) (.list (TL (cols rows n))) needs.length n (.v (.tuple (RL am))) (.v (.tuple (RL pr))) (.v (.tuple (RL (gv rows am)))) (.v (.tuple (RL (wo rows n pr)))) (.v (.tuple (RL (ovQ needs rows am)))) (.v (.bool (goB needs rows n costs am pr))) .no) ∧ LV.length ≤ 13 ∧ ∀ v ∈ LV, Fz v := by
    refine ⟨_, i12, by simp, fun v hv => ?_⟩
    simp only [List.mem_cons, List.not_mem_nil, or_false] at hv
    rcases hv with rfl | rfl | rfl | rfl | rfl | rfl | rfl | rfl | rfl | rfl | rfl | rfl | rfl
    · exact .tuple _ fA
    · exact .tuple _ fP
    · exact fz_rep n (.int 0 (by decide))
    · exact fz_rep n f01
    · exact fz_rep needs.length f01
    · exact fz_rep n (fzR (9, 1) ⟨by decide, by decide, by decide⟩)
    · exact .tuple _ fun x h => fA x (cut_mem h)
    · exact fz_app fA fun x h => by rw [List.mem_singleton.mp h]; exact f01
    · exact fz_rep n (fzR (-1, 1) ⟨by decide, by decide, by decide⟩)
    · exact fz_rep n (fzR (2, 2) ⟨by decide, by decide, by decide⟩)
    · exact .none
    · exact .tuple _ (by simp)
    · exact .int 0 (by decide)
  obtain ⟨G, hG⟩ : ∃ G : Sl → En, G = fun bx => F bx (MD needs rows) (.tuple (RL costs)) (.list (TL (cols rows n))) needs.length n (.v (.tuple (RL am))) (.v (.tuple (RL pr))) (.v (.tuple (RL (gv rows am)))) (.v (.tuple (RL (wo rows n pr)))) (.v (.tuple (RL (ovQ needs rows am)))) (.v (.bool (goB needs rows n costs am pr))) (.l LV) := ⟨_, rfl⟩
  have bA := fun cs a b => bent_r 2 _ (gqL k3 (by omega)) 38 (by omega) cs a b
  have bP := fun cs a b => bent_r 2 _ (gqL l3 (by omega)) 38 (by omega) cs a b
  have kb : ∀ (slot : Nat) (who : List Q) (hs : slot = 6 ∧ who = am ∨ slot = 8 ∧ who = pr) (bw : ∀ (cs : List Int) (a b : Int), ∃ (w : D) (cs2 : List Int) (a2 b2 : Int), retB (callN (tbOf es) 38) 25 [.bx cs [a, b], .v (.tuple (RL who))] = some (.v w, .bx cs2 [a2, b2]) ∧ Fz w) (cs : List Int) (a b : Int), ∃ (bs : List D) (c' : List Int) (a' b' : Int), (ev P38 (.lc (.nm 18) .rng [(.cst (.int 5))] [] (.callB 25 0 [(.var slot)]) [18])).val (G (.bx cs [a, b])) = some (.l bs, G (.bx c' [a', b'])) ∧ bs.length = 5 ∧ ∀ v ∈ bs, Fz v := fun slot who hs bw cs a b => by
    subst hG
    obtain ⟨qs, c', a', b', h1, h2, h3⟩ := lc_drw (P := P38) (t := .nm 18) (k := .rng) (its := [(.cst (.int 5))]) (elt := (.callB 25 0 [(.var slot)])) (own := [18]) (ds := [I 5]) (xs := rngL 0 5)
      (fun bx => F bx (MD needs rows) (.tuple (RL costs)) (.list (TL (cols rows n))) needs.length n (.v (.tuple (RL am))) (.v (.tuple (RL pr))) (.v (.tuple (RL (gv rows am)))) (.v (.tuple (RL (wo rows n pr)))) (.v (.tuple (RL (ovQ needs rows am)))) (.v (.bool (goB needs rows n costs am pr))) (.l LV))
      (fun bx x => E_law_fine (box := bx) (menu := .v (MD needs rows)) (costs := .v (.tuple (RL costs))) (m := .v (I needs.length)) (columns := .v (.list (TL (cols rows n)))) (n := .v (I n)) (amounts := .v (.tuple (RL am))) (prices := .v (.tuple (RL pr))) (given := .v (.tuple (RL (gv rows am)))) (worths := .v (.tuple (RL (wo rows n pr)))) (more := .v (.tuple (RL (ovQ needs rows am)))) (fits := .v (.bool (goB needs rows n costs am pr))) (rows := .l LV) (k := .v x))
      (fun x : D => x) Fz (fun bx x => by
        generalize MD needs rows = me; generalize RL costs = c; generalize TL (cols rows n) = t; generalize RL (gv rows am) = g; generalize RL (wo rows n pr) = w; generalize RL (ovQ needs rows am) = o; generalize RL am = y; generalize RL pr = z; generalize goB needs rows n costs am pr = k
        simp [setS_t]) (fun _ _ => rfl) (fun _ => rfl) (fun _ _ => rfl) (items_r2 5 (by decide)) (fun x _ cs a b => by
      obtain ⟨w, c2, a2, b2, h, g⟩ := bw cs a b
      have h : retB P38 25 _ = _ := h
      refine ⟨w, c2, a2, b2, ?_, g⟩
      rcases hs with ⟨rfl, rfl⟩ | ⟨rfl, rfl⟩
      · generalize P38 = P at h ⊢
        generalize MD needs rows = me; generalize RL costs = c; generalize TL (cols rows n) = t; generalize RL (gv rows who) = g; generalize RL (wo rows n pr) = w'; generalize RL (ovQ needs rows who) = o; generalize goB needs rows n costs who pr = k; generalize RL who = y at h ⊢; generalize RL pr = z
        simp [h]
      · generalize P38 = P at h ⊢
        generalize MD needs rows = me; generalize RL costs = c; generalize TL (cols rows n) = t; generalize RL (gv rows am) = g; generalize RL (wo rows n who) = w'; generalize RL (ovQ needs rows am) = o; generalize goB needs rows n costs am who = k; generalize RL who = y at h ⊢; generalize RL am = z
        simp [h]) (F (.bx cs [a, b]) (MD needs rows) (.tuple (RL costs)) (.list (TL (cols rows n))) needs.length n (.v (.tuple (RL am))) (.v (.tuple (RL pr))) (.v (.tuple (RL (gv rows am)))) (.v (.tuple (RL (wo rows n pr)))) (.v (.tuple (RL (ovQ needs rows am)))) (.v (.bool (goB needs rows n costs am pr))) (.l LV)) cs a b rfl rfl
    rw [rngL_len] at h2
    rw [List.map_id'] at h1
    exact ⟨qs, c', a', b', h1, h2, h3⟩
  obtain ⟨bs1, c3, a3, b3, m1, m2, m3⟩ := kb 6 am (.inl ⟨rfl, rfl⟩) bA c2 a2 b2
  obtain ⟨bs2, c4, a4, b4, n1, n2, n3⟩ := kb 8 pr (.inr ⟨rfl, rfl⟩) bP c3 a3 b3
  subst hG
  have oo := o13 P38 (.bx c2 [a2, b2]) (.bx c3 [a3, b3]) (.bx c4 [a4, b4]) (MD needs rows) (.tuple (RL costs)) (.list (TL (cols rows n))) needs.length n _ _ _ _ _ _ LV bs1 bs2 m1 n1 (by unfold capL; omega)
  have lp := GoF.idx0 (P := P38) (t := .nm 17) (b := law_fine_l1) (fun _ => F (.bx c4 [a4, b4]) (MD needs rows) (.tuple (RL costs)) (.list (TL (cols rows n))) needs.length n (.v (.tuple (RL am))) (.v (.tuple (RL pr))) (.v (.tuple (RL (gv rows am)))) (.v (.tuple (RL (wo rows n pr)))) (.v (.tuple (RL (ovQ needs rows am)))) (.v (.bool (goB needs rows n costs am pr))) (.l LV)) (LV ++ bs1 ++ bs2) fun i v hv => by
    have fz : Fz v := by
      rcases List.mem_append.mp (List.mem_of_getElem? hv) with h | h
      · rcases List.mem_append.mp h with h | h
        · exact lf v h
        · exact m3 v h
      · exact n3 v h
    have vb := fz.vb
    have h32 : ∀ xs, v = .tuple xs → ∀ x ∈ xs, retOf P38 32 [.v x] = some (.v (.bool (isR x))) := fun xs e x hx => lis_ratio_r (by omega) x fun a b e2 => by
      obtain ⟨q1, q2⟩ := vb xs e x hx a b e2
      exact ⟨sm_of q1 (by omega), sm_of q2 (by omega)⟩
    have g := val_1 P38 (.bx c4 [a4, b4]) (MD needs rows) (.tuple (RL costs)) (.list (TL (cols rows n))) needs.length n (.v (.tuple (RL am))) (.v (.tuple (RL pr))) (.v (.tuple (RL (gv rows am)))) (.v (.tuple (RL (wo rows n pr)))) (.v (.tuple (RL (ovQ needs rows am)))) (.v (.bool (goB needs rows n costs am pr))) (.l LV) v _ _ _ _
      (lamounts_r M (by omega) v vb) (lbar_r M (by omega) v vb) (lprices_r M (by omega) costs oC hcl v vb) (lsaving_r M (by omega) costs oC hcl v vb)
      (amounts_r M (by omega) v vb) (bar_r M (by omega) v vb) (prices_r M (by omega) costs oC v vb) (saving_r M (by omega) costs oC hcl v vb)
      (ratios_r (by omega) v n) h32 s4_38 s1_38
    refine ⟨_, ?_, .inl g⟩
    generalize MD needs rows = me; generalize RL costs = c; generalize TL (cols rows n) = t; generalize RL (gv rows am) = g'; generalize RL (wo rows n pr) = w; generalize RL (ovQ needs rows am) = o; generalize RL am = y; generalize RL pr = z; generalize goB needs rows n costs am pr = k
    simp [setS_t]
  have en := f_end P38 (.bx c4 [a4, b4]) needs (TL rows) (.tuple (RL costs)) (.list (TL (cols rows n))) needs.length n (.v (.tuple (RL am))) (.v (.tuple (RL pr))) (.v (.tuple (RL (gv rows am)))) (.v (.tuple (RL (wo rows n pr)))) (.v (.tuple (RL (ovQ needs rows am)))) (.v (.bool (goB needs rows n costs am pr))) (.l LV) (above_r (d := 38) (by omega) needs M.okN (by omega)) s1_38
  refine ⟨c4, a4, b4, fn_goB (i := i__law_fine) rfl rfl rfl ?_⟩
  show Go P38 b__law_fine (E_law_fine (box := .bx cs [a, b]) (menu := .v (MD needs rows)) (costs := .v (.tuple (RL costs)))) _
  refine Go.cons (.of (f_1 (h36 := h36) (hm := nl) (nd := .none) ..)) ?_
  refine Go.cons (.of (f_2 (hn := cl) ..)) ?_
  refine Go.cons (.of (asgV (tupOf (law_fine_c1_o _ _) k1) rfl)) ?_
  refine Go.cons (.of (asgV (tupOf (law_fine_c2_o _ _) l1) rfl)) ?_
  refine Go.cons (.of (asgV (tupOf (law_fine_c3_o _ _) t3) rfl)) ?_
  refine Go.cons (.of (asgV (tupOf (law_fine_c4_o _ _) t4) rfl)) ?_
  refine nxF i7 ?_
  refine Go.cons (.of (asgV (tupOf (law_fine_c5_o _ _) t5) rfl)) ?_
  refine nxF i9 ?_
  refine Go.cons (.of (asgV (x := .v (.bool (goB needs rows n costs am pr))) u15 rfl)) ?_
  refine nxF i11 ?_
  refine Go.cons (.of (asgV iL rfl)) ?_
  refine Go.cons (Go1.fr oo rfl (items_l _) lp) ?_
  exact Go.rb ⟨.rt (.v (.bool true)) (F (.bx c4 [a4, b4]) (MD needs rows) (.tuple (RL costs)) (.list (TL (cols rows n))) needs.length n (.v (.tuple (RL am))) (.v (.tuple (RL pr))) (.v (.tuple (RL (gv rows am)))) (.v (.tuple (RL (wo rows n pr)))) (.v (.tuple (RL (ovQ needs rows am)))) (.v (.bool (goB needs rows n costs am pr))) (.l LV)), by rw [ex_ret, en]; rfl, rfl, rfl, rfl⟩
end
end
end Law

namespace Law
open PySem PySem.Spec L2 Mini
section
noncomputable abbrev P39 := callN (tbOf es) 39
abbrev EV (bx me co : Sl) : En := E_law (box := bx) (menu := me) (costs := co)
theorem callBM_tst (P : Ph) (f i : Nat) (es : List M) (env : En) : (callBM P f i es).tst env = trM (callBM P f i es).opd env := (rfl)
section
variable (P : Ph)
theorem l_1 (c0 c1 c2 c3 : List Int) (a0 b0 a1 b1 a2 b2 a3 b3 x y : Int) (me : D) (h1 : retB P 23 [.bx c0 [a0, b0], .v (.int 5)] = some (.v (.int x), .bx c1 [a1, b1])) (h2 : retB P 23 [.bx c1 [a1, b1], .v (.int 5)] = some (.v (.int y), .bx c2 [a2, b2])) (h3 : retB P 35 [.bx c2 [a2, b2], .v (.int x), .v (.int y), .v (.int (-2))] = some (.v me, .bx c3 [a3, b3])) :
    ex P (.asg (.nm 3) (.callB 35 1 [(.callB 23 1 [(.cst (.int 5))]), (.callB 23 1 [(.cst (.int 5))]), (.neg (.cst (.int 2)))])) (E_law (box := .bx c0 [a0, b0])) = some (.nx (EV (.bx c3 [a3, b3]) (.v me) .no)) := by
  simp [h1, h2, h3, setS_t]
theorem l_3 (c0 c1 : List Int) (a0 b0 a1 b1 : Int) (me co : D) (h : retB P 42 [.bx c0 [a0, b0], .v me, .v co] = some (.v (.bool true), .bx c1 [a1, b1])) : (ev P (.not (.callB 42 1 [(.var 3), (.var 4)]))).tst (EV (.bx c0 [a0, b0]) (.v me) (.v co)) = some (false, EV (.bx c1 [a1, b1]) (.v me) (.v co)) := by
  simp [callBM_tst, h]
theorem l_4 (bx : Sl) (me co : D) (w : List D) (h : binD .Mult (.tuple [R2 1 1]) (.int 8) = some (.v (.tuple w))) : ex P (.asg (.nm 6) (.tup [(.tup [(.tup [(.cst (.int 0)), (.cst (.int 1))])]), (.tup [(.bin .Mult (.tup [(.tup [(.cst (.int 1)), (.cst (.int 1))])]) (.cst (.int 8)))])])) (EV bx (.v me) (.v co)) = some (.nx (E_law (box := bx) (menu := .v me) (costs := .v co) (wide := .v (.tuple [.tuple [R2 0 1], .tuple [.tuple w]])))) := by
  simp [h, setS_t, sizeLine]
end
theorem s1_39 (a : Bool) : retOf P39 24 [.v (.bool a), .v (.bool a)] = some (.v (.bool true)) := same_self sameAt 0 38 (.bool a) (.bool _ _)
theorem l_menu (P : Ph) (bx me co wi va : Sl) (v : D) (k : Bool) (h9 : retOf P 9 [.v v] = some (.v (.bool k))) (h41 : retOf P 41 [.v v] = some (.v (.bool k))) (s : retOf P 24 [.v (.bool k), .v (.bool k)] = some (.v (.bool true))) : Go P law_l1 (E_law (box := bx) (menu := me) (costs := co) (wide := wi) (values := va) (value := .v v)) (.nx (E_law (box := bx) (menu := me) (costs := co) (wide := wi) (values := va))) := by
  refine nxF (not_tst (b := true) (callT (by simp [h9]) (by simp [h41]) s)) (.nil (by simp))
theorem l_idx (P : Ph) (bx me co wi va : Sl) (v : D) (h21 : retOf P 21 [.v v, .v (.int 4)] = some (.v (.bool (idxB v)))) (s : ∀ k : Bool, retOf P 24 [.v (.bool k), .v (.bool k)] = some (.v (.bool true))) : Go P law_l2 (E_law (box := bx) (menu := me) (costs := co) (wide := wi) (values := va) (value := .v v)) (.nx (E_law (box := bx) (menu := me) (costs := co) (wide := wi) (values := va))) := by
  have e : (ev P (.bop .And [(.isi (.var 8) .int), (.not (.isi (.var 8) .bool)), (.chn .LtE .Lt (.cst (.int 0)) (.var 8) (.cst (.int 4)))])).val (E_law (box := bx) (menu := me) (costs := co) (wide := wi) (values := va) (value := .v v)) = some (.v (.bool (idxB v)), E_law (box := bx) (menu := me) (costs := co) (wide := wi) (values := va) (value := .v v)) := by
    cases v with
    | int i => by_cases h1 : 0 ≤ i <;> simp [idxB, h1]
    | _ => simp [idxB, isi_dict]
  refine nxF (not_tst (b := true) (callT (by simp [h21]) e (s _))) (.nil (by simp))
end
end Law

namespace Law
open PySem PySem.Spec L2 Mini
section
abbrev EW (bx : Sl) (nd ts : List D) (co wi : D) (va : Sl) : En := E_law (box := bx) (menu := .v (.tuple [.tuple nd, .tuple ts])) (costs := .v co) (wide := .v wi) (values := va)
def lst7 : E := .lst [(.var 3), (.rev (.var 3)), (.tup [(.idx (.var 3) (.cst (.int 0))), (.slc (.idx (.var 3) (.cst (.int 1))) [(.cst (.int 1))] [])]), (.tup [(.bin .Add (.idx (.var 3) (.cst (.int 0))) (.tup [(.tup [(.cst (.int 1)), (.cst (.int 1))])])), (.idx (.var 3) (.cst (.int 1)))]), (.tup [(.bin .Mult (.tup [(.tup [(.cst (.int 0)), (.cst (.int 1))])]) (.cst (.int 8))), (.bin .Mult (.tup [(.tup [])]) (.cst (.int 8)))]), (.tup [(.bin .Mult (.tup [(.tup [(.cst (.int 0)), (.cst (.int 1))])]) (.cst (.int 9))), (.bin .Mult (.tup [(.tup [])]) (.cst (.int 9)))]), (.var 6)]
def lst5 : E := .lst [(.tup [(.tup [(.tup [(.cst (.int 0)), (.cst (.int 1))])]), (.tup [(.bin .Mult (.tup [(.tup [(.cst (.int 1)), (.cst (.int 1))])]) (.cst (.int 9)))])]), (.tup [(.tup []), (.tup [])]), (.cst .none), (.tup []), (.cst (.int 0))]
section
variable (P : Ph) (bx bx2 : Sl) (nd ts : List D) (co wi : D)
theorem l_5 (u r1 r2 r3 r4 : List D) (hu : binD .Add (.tuple nd) (.tuple [R2 1 1]) = some (.v (.tuple u))) (h1 : binD .Mult (.tuple [R2 0 1]) (.int 8) = some (.v (.tuple r1))) (h2 : binD .Mult (.tuple [.tuple []]) (.int 8) = some (.v (.tuple r2))) (h3 : binD .Mult (.tuple [R2 0 1]) (.int 9) = some (.v (.tuple r3))) (h4 : binD .Mult (.tuple [.tuple []]) (.int 9) = some (.v (.tuple r4))) :
    (ev P lst7).val (EW bx nd ts co wi .no) = some (.l [.tuple [.tuple nd, .tuple ts], .tuple [.tuple ts, .tuple nd], .tuple [.tuple nd, .tuple (cutD ts (some 1) none)], .tuple [.tuple u, .tuple ts], .tuple [.tuple r1, .tuple r2], .tuple [.tuple r3, .tuple r4], wi], EW bx nd ts co wi .no) := by
  simp [lst7, hu, h1, h2, h3, h4, sizeLine]
theorem l_55 (va : Sl) (r : List D) (h : binD .Mult (.tuple [R2 1 1]) (.int 9) = some (.v (.tuple r))) : (ev P lst5).val (EW bx nd ts co wi va) = some (.l [.tuple [.tuple [R2 0 1], .tuple [.tuple r]], .tuple [.tuple [], .tuple []], .none, .tuple [], .int 0], EW bx nd ts co wi va) := by
  simp [lst5, h, sizeLine]
theorem l_6 (VL V5 bs : List D) (h5 : (ev P lst5).val (EW bx nd ts co wi (.l VL)) = some (.l V5, EW bx nd ts co wi (.l VL))) (c2 : (ev P law_c2).val (EW bx nd ts co wi (.l VL)) = some (.l bs, EW bx2 nd ts co wi (.l VL))) (hl : VL.length + V5.length + bs.length ≤ capL) :
    opsM ((evs P [(.bin .Add (.bin .Add (.var 7) lst5) law_c2)]).map frO) (EW bx nd ts co wi (.l VL)) = some ([.d (.list (VL ++ V5 ++ bs))], EW bx2 nd ts co wi (.l VL)) := by
  have ho : (ev P lst5).opd (EW bx nd ts co wi (.l VL)) = some (.d (.list V5), EW bx nd ts co wi (.l VL)) := by
    have : (ev P lst5).opd (EW bx nd ts co wi (.l VL)) = (frzM (ev P lst5).val (EW bx nd ts co wi (.l VL))).map fun r => (.d r.1, r.2) := by simp only [lst5, ev_lst, lstM_eq, ofVal_opd, ofVal_val]
    rw [this, frz_of h5 rfl]; rfl
  have q1 := bin_catL VL V5 (by omega)
  have q2 := bin_catL (VL ++ V5) bs (by rw [List.length_append]; omega)
  generalize VL ++ V5 ++ bs = y2 at q2 ⊢
  generalize VL ++ V5 = y1 at q1 q2
  generalize lst5 = A at ho ⊢
  simp only [EW, E_law] at c2 ho
  simp [c2, ho, q1, q2]
end
theorem fz2 {a b : D} (h : Fz a) (g : Fz b) : Fz (.tuple [a, b]) := .tuple _ fun x hx => by
  simp only [List.mem_cons, List.not_mem_nil, or_false] at hx
  rcases hx with rfl | rfl
  · exact h
  · exact g
theorem fz1 {a : D} (h : Fz a) : Fz (.tuple [a]) := .tuple _ fun x hx => by rw [List.mem_singleton.mp hx]; exact h
theorem f00 : Fz (.tuple []) := .tuple _ (by simp)
end
end Law

namespace Law
open PySem PySem.Spec L2 Mini
section
theorem rep8 (x : D) (n : Nat) (h : n ≤ 1000) : binD .Mult (.tuple [x]) (.int (n : Int)) = some (.v (.tuple (List.replicate n x))) := rep_all x n h
theorem turn_w (cs : List Int) (a b : Int) : ∃ (c2 : List Int) (a2 b2 : Int), Go P39 law_l3 (E_law (box := .bx cs [a, b])) (.nx (E_law (box := .bx c2 [a2, b2]))) := by
  obtain ⟨x, c1, a1, b1, d1, d2, d3⟩ := draws (d := 39) (by omega) cs a b 5 (by omega) (by omega)
  obtain ⟨y, c2, a2, b2, e1, e2, e3⟩ := draws (d := 39) (by omega) c1 a1 b1 5 (by omega) (by omega)
  obtain ⟨m, rfl⟩ : ∃ m : Nat, x = (m : Int) := ⟨x.toNat, by omega⟩
  obtain ⟨n, rfl⟩ : ∃ m : Nat, y = (m : Int) := ⟨y.toNat, by omega⟩
  obtain ⟨needs, rows, c3, a3, b3, f1, f2, f3, f4, f5⟩ := lmenu_r (d := 39) (by omega) m n (by omega) (by omega) c2 a2 b2
  obtain ⟨n', h1, h2, h3⟩ : ∃ n' : Nat, n' ≤ 4 ∧ (rows = [] → n' = 0) ∧ ∀ r ∈ rows, r.length = n' := by
    by_cases hr : rows = []
    · exact ⟨0, by omega, fun _ => rfl, fun r h => by rw [hr] at h; cases h⟩
    · exact ⟨n, by omega, fun h => (hr h).elim, fun r h => (f5 r h).1⟩
  have M : Mn needs rows n' := ⟨by omega, by omega, by omega, h3, h2, fun q h => (f4 q h).ok100, fun r hr q hq => ((f5 r hr).2 q hq).ok100⟩
  have h36 := columns_r M (d := 39) (by omega)
  have sC := fun cs a b => some_r (d := 39) (by omega) (-2) 6 (by omega) (by omega) (by omega) cs a b
  obtain ⟨costs, c4, a4, b4, g1, g2, g3⟩ := lc_drw (P := P39) (t := .nm 5) (k := .seq) (its := [(.call 36 [(.var 3)])]) (elt := (.callB 33 1 [(.neg (.cst (.int 2))), (.cst (.int 6))])) (own := [5]) (ds := [.list (TL (cols rows n'))]) (xs := TL (cols rows n'))
    (fun bx => EV bx (.v (MD needs rows)) .no) (fun bx x => E_law (box := bx) (menu := .v (MD needs rows)) (column := .v x)) RD Gd (fun bx x => by generalize MD needs rows = me; simp [setS_t]) (fun _ _ => rfl) (fun _ => rfl) (fun _ _ => rfl) (items_l _)
    (fun x _ cs a b => by
      obtain ⟨q, c2, a2, b2, h, g⟩ := sC cs a b
      have h : retB P39 33 _ = _ := h
      generalize P39 = P at h ⊢
      generalize MD needs rows = me
      exact ⟨q, c2, a2, b2, by simp [h], g⟩) (EV (.bx c3 [a3, b3]) (.v (MD needs rows)) .no) c3 a3 b3 (by
      have h36 : retOf P39 36 _ = _ := h36
      generalize P39 = P at h36 ⊢
      generalize TL (cols rows n') = t at h36 ⊢
      generalize MD needs rows = me at h36 ⊢
      simp [h36]) rfl
  have hcl : costs.length = n' := by rw [g2, List.length_map, cols_len]
  obtain ⟨c5, a5, b5, h42⟩ := fine_r M f4 costs g3 hcl (by omega) c4 a4 b4
  have hu := bin_cat (RL needs) [R2 1 1] (by rw [List.length_map, f2]; unfold capL; simp; omega)
  have i5 := l_5 P39 (.bx c5 [a5, b5]) (RL needs) (TL rows) (.tuple (RL costs)) (.tuple [.tuple [R2 0 1], .tuple [.tuple (List.replicate 8 (R2 1 1))]]) _ _ _ _ _ hu (rep8 _ 8 (by omega)) (rep8 _ 8 (by omega)) (rep8 _ 9 (by omega)) (rep8 _ 9 (by omega))
  have f01 : Fz (R2 0 1) := fzR (0, 1) ⟨by decide, by decide, by decide⟩
  have f11 : Fz (R2 1 1) := fzR (1, 1) ⟨by decide, by decide, by decide⟩
  have fN : Fz (.tuple (RL needs)) := .tuple _ (fzL M.okN)
  have fT0 : ∀ x ∈ TL rows, Fz x := fun x hx => by
    obtain ⟨r, hr, rfl⟩ := List.mem_map.mp hx
    exact .tuple _ (fzL (M.okR r hr))
  have fT : Fz (.tuple (TL rows)) := .tuple _ fT0
  obtain ⟨VL, iV, vl, vf⟩ : ∃ VL, (ev P39 lst7).val (EW (.bx c5 [a5, b5]) (RL needs) (TL rows) (.tuple (RL costs)) (.tuple [.tuple [R2 0 1], .tuple [.tuple (List.replicate 8 (R2 1 1))]]) .no) = some (.l VL, EW (.bx c5 [a5, b5]) (RL needs) (TL rows) (.tuple (RL costs)) (.tuple [.tuple [R2 0 1], .tuple [.tuple (List.replicate 8 (R2 1 1))]]) .no) ∧ VL.length ≤ 7 ∧ ∀ v ∈ VL, Fz v := by
    refine ⟨_, i5, by simp, fun v hv => ?_⟩
    simp only [List.mem_cons, List.not_mem_nil, or_false] at hv
    rcases hv with rfl | rfl | rfl | rfl | rfl | rfl | rfl
    · exact fz2 fN fT
    · exact fz2 fT fN
    · exact fz2 fN (.tuple _ fun x h => fT0 x (cut_mem h))
    · exact fz2 (fz_app (fzL M.okN) fun x h => by rw [List.mem_singleton.mp h]; exact f11) fT
    · exact fz2 (fz_rep 8 f01) (fz_rep 8 f00)
    · exact fz2 (fz_rep 9 f01) (fz_rep 9 f00)
    · exact fz2 (fz1 f01) (fz1 (fz_rep 8 f11))
  obtain ⟨V5, i55, v5l, v5f⟩ : ∃ V5, (ev P39 lst5).val (EW (.bx c5 [a5, b5]) (RL needs) (TL rows) (.tuple (RL costs)) (.tuple [.tuple [R2 0 1], .tuple [.tuple (List.replicate 8 (R2 1 1))]]) (.l VL)) = some (.l V5, EW (.bx c5 [a5, b5]) (RL needs) (TL rows) (.tuple (RL costs)) (.tuple [.tuple [R2 0 1], .tuple [.tuple (List.replicate 8 (R2 1 1))]]) (.l VL)) ∧ V5.length ≤ 5 ∧ ∀ v ∈ V5, Fz v := by
    refine ⟨_, l_55 P39 (.bx c5 [a5, b5]) (RL needs) (TL rows) (.tuple (RL costs)) (.tuple [.tuple [R2 0 1], .tuple [.tuple (List.replicate 8 (R2 1 1))]]) (.l VL) _ (rep8 _ 9 (by omega)), by simp, fun v h => ?_⟩
    simp only [List.mem_cons, List.not_mem_nil, or_false] at h
    rcases h with rfl | rfl | rfl | rfl | rfl
    · exact fz2 (fz1 f01) (fz1 (fz_rep 9 f11))
    · exact fz2 f00 f00
    · exact .none
    · exact f00
    · exact .int 0 (by decide)
  have gM : Gq 4 (MD needs rows) := .tuple 3 _ (by simp) fun x hx => by
    simp only [List.mem_cons, List.not_mem_nil, or_false] at hx
    rcases hx with rfl | rfl
    · exact .tuple 2 _ (by rw [List.length_map]; omega) fun x hx => by
        obtain ⟨q, hq, rfl⟩ := List.mem_map.mp hx
        exact (f4 q hq).gq 1
    · exact .tuple 2 _ (by rw [List.length_map]; omega) fun x hx => by
        obtain ⟨r, hr, rfl⟩ := List.mem_map.mp hx
        exact gqL (f5 r hr).2 (by rw [h3 r hr]; omega)
  have bM := fun cs a b => bent_r 4 _ gM 39 (by omega) cs a b
  obtain ⟨bs, c6, a6, b6, k1, k2, k3⟩ := lc_drw (P := P39) (t := .nm 9) (k := .rng) (its := [(.cst (.int 8))]) (elt := (.callB 25 1 [(.var 3)])) (own := [9]) (ds := [I 8]) (xs := rngL 0 8)
    (fun bx => EW bx (RL needs) (TL rows) (.tuple (RL costs)) (.tuple [.tuple [R2 0 1], .tuple [.tuple (List.replicate 8 (R2 1 1))]]) (.l VL))
    (fun bx x => E_law (box := bx) (menu := .v (MD needs rows)) (costs := .v (.tuple (RL costs))) (wide := .v (.tuple [.tuple [R2 0 1], .tuple [.tuple (List.replicate 8 (R2 1 1))]])) (values := .l VL) (k := .v x)) (fun x : D => x) Fz (fun bx x => by
      simp only [MD]
      generalize RL needs = ns; generalize TL rows = t; generalize RL costs = c; generalize List.replicate 8 (R2 1 1) = r; simp [setS_t]) (fun _ _ => rfl) (fun _ => rfl) (fun _ _ => rfl) (items_r2 8 (by decide))
    (fun x _ cs a b => by
      obtain ⟨w, c2, a2, b2, h, g⟩ := bM cs a b
      have h : retB P39 25 _ = _ := h
      generalize P39 = P at h ⊢
      generalize MD needs rows = me at h ⊢; generalize RL costs = c; generalize List.replicate 8 (R2 1 1) = r
      exact ⟨w, c2, a2, b2, by simp [h], g⟩) (EW (.bx c5 [a5, b5]) (RL needs) (TL rows) (.tuple (RL costs)) (.tuple [.tuple [R2 0 1], .tuple [.tuple (List.replicate 8 (R2 1 1))]]) (.l VL)) c5 a5 b5 rfl rfl
  rw [rngL_len] at k2
  rw [List.map_id'] at k1
  have o6 := l_6 P39 (.bx c5 [a5, b5]) (.bx c6 [a6, b6]) (RL needs) (TL rows) (.tuple (RL costs)) (.tuple [.tuple [R2 0 1], .tuple [.tuple (List.replicate 8 (R2 1 1))]]) VL _ bs i55 k1 (by unfold capL; omega)
  refine ⟨c6, a6, b6, ?_⟩
  refine Go.cons (.of (l_1 P39 _ _ _ _ _ _ _ _ _ _ _ _ _ _ _ d1 e1 f1)) ?_
  refine Go.cons (.of (asgV (tupOf (law_c1_o _ _) g1) (e2 := EV (.bx c4 [a4, b4]) (.v (MD needs rows)) (.v (.tuple (RL costs)))) rfl)) ?_
  refine nxF (l_3 P39 _ _ _ _ _ _ _ _ h42) ?_
  refine Go.cons (.of (l_4 P39 _ _ _ _ (rep8 _ 8 (by omega)))) ?_
  refine Go.cons (.of (asgV iV (e2 := EW (.bx c5 [a5, b5]) (RL needs) (TL rows) (.tuple (RL costs)) (.tuple [.tuple [R2 0 1], .tuple [.tuple (List.replicate 8 (R2 1 1))]]) (.l VL)) rfl)) ?_
  have w1 := GoF.idx0 (P := P39) (t := .nm 8) (b := law_l1) (fun _ => EW (.bx c6 [a6, b6]) (RL needs) (TL rows) (.tuple (RL costs)) (.tuple [.tuple [R2 0 1], .tuple [.tuple (List.replicate 8 (R2 1 1))]]) (.l VL)) (VL ++ V5 ++ bs) fun i v hv => by
    have fz : Fz v := by
      rcases List.mem_append.mp (List.mem_of_getElem? hv) with h | h
      · rcases List.mem_append.mp h with h | h
        · exact vf v h
        · exact v5f v h
      · exact k3 v h
    refine ⟨_, ?_, .inl (l_menu P39 _ _ _ _ _ v (menuB v) (is_menu_r (by omega) v) (lis_menu_r (by omega) v fz.vm) (s1_39 _))⟩
    generalize RL needs = ns; generalize TL rows = t; generalize RL costs = c; generalize List.replicate 8 (R2 1 1) = r; simp [setS_t]
  refine Go.cons (Go1.fr o6 rfl (items_l _) w1) ?_
  have w2 := GoF.idx0 (P := P39) (t := .nm 8) (b := law_l2) (fun _ => EW (.bx c6 [a6, b6]) (RL needs) (TL rows) (.tuple (RL costs)) (.tuple [.tuple [R2 0 1], .tuple [.tuple (List.replicate 8 (R2 1 1))]]) (.l VL)) [.int 0, .int 3, .int 4, .int (-1), .bool true, .none] fun i v hv => by
    refine ⟨_, ?_, .inl (l_idx P39 _ _ _ _ _ v (index_r (by omega) v) s1_39)⟩
    generalize RL needs = ns; generalize TL rows = t; generalize RL costs = c; generalize List.replicate 8 (R2 1 1) = r; simp [setS_t]
  refine Go.cons (Go1.fr (ps := [.d (.tuple [.int 0, .int 3, .int 4, .int (-1), .bool true, .none])]) (e1 := EW (.bx c6 [a6, b6]) (RL needs) (TL rows) (.tuple (RL costs)) (.tuple [.tuple [R2 0 1], .tuple [.tuple (List.replicate 8 (R2 1 1))]]) (.l VL)) ?_ rfl (items_t _) w2) (.nil ?_)
  · generalize P39 = P
    generalize RL needs = ns; generalize TL rows = t; generalize RL costs = c; generalize List.replicate 8 (R2 1 1) = r
    simp [sizeLine]
  · generalize RL needs = ns; generalize TL rows = t; generalize RL costs = c; generalize List.replicate 8 (R2 1 1) = r
    simp
theorem law_true (ns : List Int) (h : ns.length ≤ 63) : retOf (callN (tbOf es) 40) 43 [.sc ns] = some (.v (.bool true)) := by
  have hbox : retOf P39 22 [.sc ns] = some (.bx ns [0, 4711 + ns.length]) := by
    unfold retOf
    rw [P39, call_prim (es := es) (d := 38) (j := 22) (m := 0) (g := primBox) rfl (by omega)]
    simp [primBox, h]
  refine fn_go (i := i_law) rfl rfl rfl ?_
  show Go P39 b_law (E_law (script := .sc ns)) (.rt (.v (.bool true)))
  obtain ⟨e2, ⟨cs, a, b, rfl⟩, g⟩ := GoF.inv (P := P39) (t := .nm 2) (b := law_l3) (fun _ e => ∃ cs a b, e = E_law (box := .bx cs [a, b])) (rngL 0 4) 0 (E_law (box := .bx ns [0, 4711 + ns.length])) (fun i x e hx he => by
    obtain ⟨cs, a, b, rfl⟩ := he
    obtain ⟨cs2, a2, b2, hg⟩ := turn_w cs a b
    exact ⟨E_law (box := .bx cs [a, b]) (turn := .v x), E_law (box := .bx cs2 [a2, b2]), by simp [setS_t], .inl (hg.le (by simp)), cs2, a2, b2, rfl⟩) ⟨_, _, _, rfl⟩
  refine Go.cons (f := E_law (script := .sc ns) (box := .bx ns [0, 4711 + ns.length])) (.of (by generalize P39 = P at hbox ⊢; simp [hbox, setS_t])) ?_
  have ce : cmpD .NotEq (.tuple [.int 8, .int 8]) (.tuple [.int 8, .int 8]) = some (.v (.bool false)) := by rw [cmp_neS rfl rfl]; simp [PyData.eqv, PyData.eqvAll]
  refine nxF (e1 := E_law (script := .sc ns) (box := .bx ns [0, 4711 + ns.length])) (by generalize P39 = P; simp [ce, sizeLine]) ?_
  refine Go.cons (f := E_law (box := .bx cs [a, b])) (Go1.fr (ps := [.d (.int 4)]) (ds := [.int 4]) (xs := rngL 0 4) (e1 := E_law (script := .sc ns) (box := .bx ns [0, 4711 + ns.length])) (by generalize P39 = P; simp) rfl (items_r2 4 (by decide)) (g.le (by simp))) ?_
  exact Go.ret (f := .cst .none) (en2 := E_law (box := .bx cs [a, b])) rfl
end
end Law

namespace Law
open PySem PySem.Spec L2 Mini
abbrev sBox : Stmt := top 32
abbrev sLoad : Stmt := top 33
abbrev sDraw : Stmt := top 34
section
variable {P : Program} {w : World} {K : PySem.W.Frag} {mg : Str → Option Value} {base : Heap}
def ifBody : Stmt → List Stmt
  | .If _ b _ _ => b
  | _ => []
theorem scLo : FnScope ["box", "cells", "cell", "size", "first", "second"] ["box"] (defScope sLoad) := ⟨rfl, rfl, rfl, by decide +kernel, rfl, by decide +kernel, by decide +kernel⟩
theorem ok_load {f : Addr} {fd : FuncData} (F : Fun K "_law_load" "_law_load" sLoad f fd) (ml : mg "len" = none) (mi : mg "int" = none) : FnOk P w K mg base CX0 1 f fd ["box"] spLoad := by
  refine F.ok scLo (fun vs H Q E h => ?_) (fun cdv A outer s H vs Q E hr h => ?_)
  · obtain ⟨a, c, cs, size, seed, rfl, _⟩ := h
    rfl
  obtain ⟨a, c, cs, size, seed, rfl, ha, hc, ne, q⟩ := h
  obtain ⟨tt, htt, hq⟩ : ∃ t, PSs (cxOf CX0 P w K mg base ["box", "cells", "cell", "size", "first", "second"] "_law_load" (defScope sLoad) f cdv A outer s H E).nox ((defBody sLoad).drop 2) t ∧
      ∀ (c1 c2 c3 : Option V) (H1 : Hp) (s1 : Int), H1 a = some (.lst [.ref c, .int size, .int s1]) → (Q (.int (boxMix s1).1) (upd H1 a (.lst [.ref c, .int size, .int (boxMix s1).2]))) → t { nx := fun _ H' => Q .non H', rt := Q } [some (.ref a), c1, c2, c3, none, none] H1 := by
    refine ⟨_, pss_cons (ps_set (i := 4) scLo.nd rfl (Or.inl rfl) (pe_op op_mod (pe_callTy call_int1 (by rfl) mi PyProof.Rows.boot_int (pa_cons (pe_op op_add (pe_op op_mul (pe_ix ix_list (pv 0) pe_int (fun _ _ => rfl)) pe_int) pe_int) pa_nil)) pe_int))
      (pss_cons (ps_set (i := 5) scLo.nd rfl (Or.inl rfl) (pe_op op_mod (pe_callTy call_int1 (by rfl) mi PyProof.Rows.boot_int (pa_cons (pe_op op_add (pe_op op_mul (pv 4) pe_int) pe_int) pa_nil)) pe_int))
      (pss_cons (ps_asg (pe_op op_mod (pe_callTy call_int1 (by rfl) mi PyProof.Rows.boot_int (pa_cons (pe_op op_add (pe_op op_mul (pv 5) pe_int) pe_int) pa_nil)) pe_int) (pg_sub (pv 0) pe_int set_list))
      (pss_one (ps_ret (pe_op op_add (pe_op op_add (pe_op op_mul (pv 4) pe_int) (pe_op op_mul (pv 5) pe_int)) (pe_ix ix_list (pv 0) pe_int (fun _ _ => rfl))))))), fun c1 c2 c3 H1 s1 h1 q1 => ?_⟩
    refine ⟨_, rfl, a, _, 2, _, rfl, rfl, SqL.of h1, rfl, _, _, rfl, rfl, cmulR (by decide), _, _, rfl, rfl, .inl ⟨_, rfl, _, _, rfl, rfl, (by show (0 : Int) < 2147483629; decide), ?_⟩⟩
    refine ⟨_, rfl, _, _, rfl, rfl, cmulR (by decide), _, _, rfl, rfl, .inl ⟨_, rfl, _, _, rfl, rfl, (by show (0 : Int) < 2147483587; decide), ?_⟩⟩
    refine ⟨_, rfl, _, _, rfl, rfl, cmulR (by decide), _, _, rfl, rfl, .inl ⟨_, rfl, _, _, rfl, rfl, (by show (0 : Int) < 2147483563; decide), ?_⟩⟩
    refine ⟨_, rfl, a, _, 2, 2, rfl, rfl, h1, rfl, ?_⟩
    refine ⟨_, rfl, _, _, rfl, rfl, cmulR (by decide), _, rfl, _, _, rfl, rfl, cmulR (by decide), _, _, rfl, rfl, _, rfl, a, _, 2, _, rfl, rfl, SqL.of upd_same, rfl, _, _, rfl, rfl, ?_⟩
    exact q1
  have lm : (cs.map V.int).length = cs.length := List.length_map _
  let D : Ends := { nx := fun _ H' => Q .non H', rt := Q }
  obtain ⟨t2, ht2, hq2⟩ : ∃ t, PSs (cxOf CX0 P w K mg base ["box", "cells", "cell", "size", "first", "second"] "_law_load" (defScope sLoad) f cdv A outer s H E).nox ((ifBody ((defBody sLoad).getD 1 (.Pass ⟨0, 0, 0, 0⟩))).drop 2) t ∧
      ∀ (z : Int) (cs' : List Int), cs = z :: cs' → ∀ (y : Int), y = (if z ≥ 0 then 2 * z else -2 * z - 1) → ∀ (c1 c2 : Option V), t { D with nx := tt D } [some (.ref a), c1, c2, some (.int y), none, none] (upd H c (HO.lst (cs'.map V.int))) := by
    refine ⟨_, pss_cons (ps_if (pt_cmpR op_ge (pv 3) pe_int (nomark _)) (pss_one (ps_ret (pv 3))) pss_nil)
      (pss_one (ps_asg (pe_op op_mod (pe_callTy call_int1 (by rfl) mi PyProof.Rows.boot_int (pa_cons (pe_op op_add (pe_op op_add (pe_op op_mul (pe_ix ix_list (pv 0) pe_int (fun _ _ => rfl)) pe_int) (pe_op op_mul (pv 3) pe_int)) pe_int) pa_nil)) pe_int) (pg_sub (pv 0) pe_int set_list))), fun z cs' hcs y hy c1 c2 => ?_⟩
    subst hcs
    have hc1 : (upd H c (HO.lst (cs'.map V.int))) c = some (.lst (cs'.map V.int)) := upd_same
    have ha1 : (upd H c (HO.lst (cs'.map V.int))) a = some (.lst [.ref c, .int size, .int seed]) := by rw [upd_ne ne]; exact ha
    have e1 : (boxLoad (z :: cs') seed) = (if y ≥ 1000000000000000000 then (y, cs', seed) else ((boxMix ((seed * 69621 + y * 48271 + 11) % 2147483647)).1, cs', (boxMix ((seed * 69621 + y * 48271 + 11) % 2147483647)).2)) := by
      rw [hy]; rfl
    rw [e1] at q
    refine ⟨_, rfl, _, _, rfl, rfl, _, rfl, ?_⟩
    by_cases hb : (1000000000000000000 : Int) ≤ y
    · rw [decide_eq_true hb]
      rw [if_pos hb] at q
      refine iteT ⟨_, rfl, ?_⟩
      exact q _ ha1 hc1 fun b h1 h2 => upd_ne h2
    · rw [decide_eq_false hb]
      rw [if_neg hb] at q
      refine iteF ?_
      refine ⟨_, rfl, a, _, 2, _, rfl, rfl, SqL.of ha1, rfl, _, _, rfl, rfl, cmulR (by decide), _, rfl, _, _, rfl, rfl, cmulR (by decide), _, _, rfl, rfl, _, _, rfl, rfl, .inl ⟨_, rfl, _, _, rfl, rfl, (by show (0 : Int) < 2147483647; decide), ?_⟩⟩
      refine ⟨_, rfl, a, _, 2, 2, rfl, rfl, ha1, rfl, ?_⟩
      refine hq _ _ _ _ _ upd_same ?_
      rw [upd_upd]
      exact q _ upd_same (by rw [upd_ne ne.symm]; exact hc1) fun b h1 h2 => by rw [upd_ne h1, upd_ne h2]
  refine ⟨_, pss_cons (ps_set (i := 1) scLo.nd rfl (Or.inl rfl) (pe_ix ix_list (pv 0) pe_int (fun _ _ => rfl)))
    (pss_cons (ps_if (pt_cmpR op_gt (pe_callB call_len_seq (by rfl) ml PySem.boot_len (pa_cons (pv 1) pa_nil)) pe_int (nomark _))
      (pss_cons (ps_set (i := 2) scLo.nd rfl (Or.inl rfl) (pe_callTy call_int1 (by rfl) mi PyProof.Rows.boot_int (pa_cons (pe_bm PySem.F.plainAttrs_list PySem.F.slot_list_pop PySem.F.type_list_pop mt_popAt (pv 1) (pa_cons pe_int pa_nil)) pa_nil)))
      (pss_cons (ps_set (i := 3) scLo.nd rfl (Or.inl rfl) (pe_ifExp (pt_cmpR op_ge (pv 2) pe_int (nomark _)) (pe_op op_mul pe_int (pv 2)) (pe_op op_sub (pe_op op_mul (pe_un un_neg pe_int) (pv 2)) pe_int)))
      ht2)) pss_nil)
    htt), ?_⟩
  refine ⟨_, rfl, a, _, 0, _, rfl, rfl, SqL.of ha, rfl, ?_⟩
  refine ⟨_, rfl, c, _, rfl, .inl (SqL.of hc), _, _, rfl, rfl, _, rfl, ?_⟩
  cases cs with
  | nil =>
    refine iteF ?_
    exact hq _ _ _ H seed ha (q _ upd_same (by rw [upd_ne ne.symm]; exact hc) fun b h1 h2 => upd_ne h1)
  | cons z cs =>
    have hpos : decide ((0 : Int) < (((List.map V.int (z :: cs)).length : Nat) : Int)) = true := decide_eq_true (by simp)
    rw [hpos]
    refine iteT ?_
    refine ⟨_, rfl, .inl ⟨rfl, _, SqL.of hc⟩, c, _, 0, 0, .int z, rfl, rfl, hc, by decide, by decide, by simp [seqIndex?], rfl, .inl ⟨z, rfl, ?_⟩⟩
    refine ⟨_, rfl, _, _, rfl, rfl, _, rfl, ?_⟩
    by_cases hz : (0 : Int) ≤ z
    · rw [decide_eq_true hz]
      refine iteT ?_
      refine ⟨_, rfl, _, _, rfl, rfl, cmulL (by decide), ?_⟩
      exact hq2 z cs rfl _ (if_pos hz).symm _ _
    · rw [decide_eq_false hz]
      refine iteF ?_
      refine ⟨_, rfl, _, rfl, _, _, rfl, rfl, cmulL (by decide), _, _, rfl, rfl, ?_⟩
      exact hq2 z cs rfl _ (if_neg hz).symm _ _
theorem scD : FnScope ["box", "many", "digit"] ["box", "many"] (defScope sDraw) := ⟨rfl, rfl, rfl, by decide +kernel, rfl, by decide +kernel, by decide +kernel⟩
theorem ok_draw0 {f g : Addr} {fd gd : FuncData} (F : Fun K "_law_draw" "_law_draw" sDraw f fd) (G : FnOk P w K mg base CX0 1 g gd ["box"] spLoad) (bG : Binds K gd ["box"] []) (kG : PySem.W.keepIn K (.ref g) = true) (mG : mg "_law_load" = some (.ref g)) (mi : mg "int" = none) : FnOk P w K mg base CX0 2 f fd ["box", "many"] spDraw := by
  refine F.ok scD (fun vs H Q E h => ?_) (fun cdv A outer s H vs Q E hr h => ?_)
  · obtain ⟨a, c, cs, size, seed, many, rfl, _⟩ := h
    rfl
  obtain ⟨a, c, cs, size, seed, many, rfl, ha, hc, ne, hm, q⟩ := h
  let D : Ends := { nx := fun _ H' => Q .non H', rt := Q }
  obtain ⟨tt, htt, hq⟩ : ∃ t, PSs (cxOf CX0 P w K mg base ["box", "many", "digit"] "_law_draw" (defScope sDraw) f cdv A outer s H E).nox ((defBody sDraw).drop 1) t ∧
      ∀ (H1 : Hp) (sz sd : Int), H1 a = some (.lst [.ref c, .int sz, .int sd]) → Q (.int (sz % many)) (upd H1 a (.lst [.ref c, .int (sz / many), .int sd])) → t D [some (.ref a), some (.int many), none] H1 := by
    refine ⟨_, pss_cons (ps_set (i := 2) scD.nd rfl (Or.inl rfl) (pe_op op_mod (pe_callTy call_int1 (by rfl) mi PyProof.Rows.boot_int (pa_cons (pe_ix ix_list (pv 0) pe_int (fun _ _ => rfl)) pa_nil)) (pv 1)))
      (pss_cons (ps_asg (pe_op op_fdivW (pe_ix ix_list (pv 0) pe_int (fun _ _ => rfl)) (pv 1)) (pg_sub (pv 0) pe_int set_list))
      (pss_one (ps_ret (pv 2)))), fun H1 sz sd h1 q1 => ?_⟩
    refine ⟨_, rfl, a, _, 1, _, rfl, rfl, SqL.of h1, rfl, .inl ⟨_, rfl, _, rfl, _, _, rfl, rfl, hm.1, ?_⟩⟩
    refine ⟨_, rfl, a, _, 1, _, rfl, rfl, SqL.of h1, rfl, _, rfl, _, _, rfl, rfl, hm, ?_⟩
    refine ⟨_, rfl, a, _, 1, 1, rfl, rfl, h1, rfl, ?_⟩
    exact ⟨_, rfl, q1⟩
  refine ⟨_, pss_cons (ps_if (pt_cmpR op_lt (pe_ix ix_list (pv 0) pe_int (fun _ _ => rfl)) (pv 1) (nomark _))
    (pss_one (ps_asg (pe_call G hr rfl mG kG bG .nil pass0 (pa_cons (pv 0) pa_nil)) (pg_sub (pv 0) pe_int set_list))) pss_nil) htt, ?_⟩
  refine ⟨_, rfl, a, _, 1, _, rfl, rfl, SqL.of ha, rfl, _, rfl, _, _, rfl, rfl, _, rfl, ?_⟩
  by_cases hs : size < many
  · rw [decide_eq_true hs]
    have e1 : boxTake cs size seed many = ((boxLoad cs seed).1 % many, (boxLoad cs seed).2.1, (boxLoad cs seed).1 / many, (boxLoad cs seed).2.2) := if_pos hs
    rw [e1] at q
    refine iteT ?_
    refine ⟨_, rfl, a, c, cs, size, seed, rfl, ha, hc, ne, fun H1 h1 h2 h3 => ?_⟩
    refine ⟨_, rfl, a, _, 1, 1, rfl, rfl, h1, rfl, ?_⟩
    refine hq _ _ _ upd_same ?_
    rw [upd_upd]
    exact q _ upd_same (by rw [upd_ne ne.symm]; exact h2) fun b g1 g2 => by rw [upd_ne g1]; exact h3 b g1 g2
  · rw [decide_eq_false hs]
    have e1 : boxTake cs size seed many = (size % many, cs, size / many, seed) := if_neg hs
    rw [e1] at q
    refine iteF ?_
    exact hq H size seed ha (q _ upd_same (by rw [upd_ne ne.symm]; exact hc) fun b g1 g2 => upd_ne g1)
/-- .. as an entry of the table -/
theorem ok_draw {f : Addr} {fd : FuncData} (F : FnOk P w K mg base CX0 2 f fd ["box", "many"] spDraw) : FnOk P w K mg base CX0 2 f fd ["box", "many"] (spF K (fun _ as => primDraw as) 0) := by
  refine F.imp fun vs H Q E h => ?_
  obtain ⟨O, as, r, as', wa, e, q⟩ := h
  dsimp only at e
  unfold primDraw at e
  split at e
  case h_2 => cases e
  rename_i cs size seed many
  split at e
  case isFalse => cases e
  rename_i hm
  have hl := wa.len
  match vs, hl, wa, q with
  | [vb, vm], hl, wa, q =>
    rcases wa.rep 0 _ rfl with z | ⟨u, h1, h2⟩
    · cases z
    rcases wa.rep 1 _ rfl with z | ⟨u2, h3, h4⟩
    · cases z
    simp at h1 h3
    subst h1 h3
    have h4 : vm = .int many := by simpa only [RepS, RepD] using h4
    subst h4
    obtain ⟨a, c, rfl, ha, hc, oa, oc⟩ := h2
    have ne : a ≠ c := fun z => by
      subst z
      rw [ha] at hc
      cases cs with
      | nil => simp at hc
      | cons x xs => simp at hc
    refine ⟨a, c, cs, size, seed, many, rfl, ha, hc, ne, hm, fun H' g1 g2 g3 => ?_⟩
    have e := Option.some.inj e
    injection e with e1 e2
    subst e1 e2
    have st : Mini.Step O H (fun b => b = a ∨ b = c) O H' (fun b => b = a ∨ b = c) := by
      refine ⟨⟨wa.own, fun b o hb nb => ?_, fun b hb => .inl hb, fun b hb => ?_⟩, fun b hb => ?_, fun b hb nf => ⟨hb, g3 b (fun z => nf (.inl z)) fun z => nf (.inr z)⟩, fun b hb => .inl hb⟩
      · rw [g3 b (fun z => nb (z ▸ oa)) fun z => nb (z ▸ oc)]; exact hb
      · by_cases h5 : b = a
        · rw [h5, g1]; exact Option.some_ne_none _
        · by_cases h6 : b = c
          · rw [h6, g2]; exact Option.some_ne_none _
          · rw [g3 b h5 h6]; exact hb
      · by_cases h5 : b = a
        · rw [h5]; exact ⟨_, g1⟩
        · by_cases h6 : b = c
          · rw [h6]; exact ⟨_, g2⟩
          · rw [g3 b h5 h6]; exact wa.own b hb
    have fpa : ∀ b, (b = a ∨ b = c) → FpE H [Sl.bx cs [size, seed], Sl.v (PyData.int many)] ([V.ref a, V.int many].map some) b := fun b hb => ⟨0, _, .ref a, rfl, rfl, hb.elim (fun z => .inl (by rw [z])) fun z => Or.inr ⟨a, [V.int size, V.int seed], rfl, by rw [z]; exact ha⟩⟩
    have at0 : ∀ (x : Sl) (i : Nat) (s : Sl), ([x, Sl.no] : En)[i]? = some s → (i = 0 ∧ s = x) ∨ s = .no := fun x i s z => by
      match i, z with
      | 0, z => exact .inl ⟨rfl, by simpa using z.symm⟩
      | 1, z => exact .inr (by simpa using z.symm)
      | i + 2, z => simp at z
    have w2 : W K O H' [Sl.bx (boxTake cs size seed many).2.1 [(boxTake cs size seed many).2.2.1, (boxTake cs size seed many).2.2.2], Sl.no] ([V.ref a, V.int many].map some) := by
      refine ⟨st.own, rfl, fun i s z => ?_, fun i j s t v u b n z1 z2 z3 z4 f1 f2 => ?_⟩
      · rcases at0 _ i s z with ⟨rfl, rfl⟩ | z
        · exact .inr ⟨.ref a, rfl, a, c, rfl, g1, g2, oa, oc⟩
        · exact .inl z
      · rcases at0 _ i s z1 with ⟨rfl, rfl⟩ | rfl
        · rcases at0 _ j t z2 with ⟨rfl, rfl⟩ | rfl
          · exact n rfl
          · exact f2
        · exact f1
    have fp2 : ∀ b, FpE H' [Sl.bx (boxTake cs size seed many).2.1 [(boxTake cs size seed many).2.2.1, (boxTake cs size seed many).2.2.2], Sl.no] ([V.ref a, V.int many].map some) b → b = a ∨ b = c := fun b ⟨i, s, v, z1, z2, z3⟩ => by
      rcases at0 _ i s z1 with ⟨rfl, rfl⟩ | rfl
      · simp at z2; subst z2
        rcases z3 with z3 | ⟨a', r', z3, z4⟩
        · cases z3; exact .inl rfl
        · cases z3; rw [g1] at z4; cases z4; exact .inr rfl
      · exact z3.elim
    refine q O H' (.int (boxTake cs size seed many).1) ((st.wide fpa).sub fun b f => f.elim (fp2 b) fun z => z.elim) ⟨w2, by simp only [RepS, RepD], fun b f => f.elim⟩
  | [], hl, _, _ => simp at hl
  | [_], hl, _, _ => simp at hl
  | _ :: _ :: _ :: _, hl, _, _ => simp at hl
theorem scB : FnScope ["script"] ["script"] (defScope sBox) := ⟨rfl, rfl, rfl, by decide +kernel, rfl, by decide +kernel, by decide +kernel⟩
/-- the box is made -/
theorem ok_box {f : Addr} {fd : FuncData} (F : Fun K "_law_box" "_law_box" sBox f fd) (ml : mg "len" = none) (mt : mg "list" = none) : FnOk P w K mg base CX0 1 f fd ["script"] (spF K (fun _ as => primBox as) 0) := by
  refine F.ok scB (fun vs H Q E h => ?_) (fun cdv A outer s H vs Q E hr h => ?_)
  · obtain ⟨O, as, r, as', wa, e, _⟩ := h
    dsimp only at e
    unfold primBox at e
    split at e
    case h_2 => cases e
    have := wa.len
    simp at this
    simp [this]
  obtain ⟨O, as, r, as', wa, e, q⟩ := h
  dsimp only at e
  unfold primBox at e
  split at e
  case h_2 => cases e
  rename_i ns
  split at e
  case isFalse => cases e
  rename_i hns
  have e := Option.some.inj e
  injection e with e1 e2
  subst e1 e2
  have hl := wa.len
  match vs, hl, wa, q with
  | [], hl, _, _ => simp at hl
  | _ :: _ :: _, hl, _, _ => simp at hl
  | [vb], hl, wa, q =>
    rcases wa.rep 0 _ rfl with z | ⟨u, h1, h2⟩
    · cases z
    simp at h1
    subst h1
    obtain ⟨a, rfl, hs⟩ := h2
    refine ⟨_, pss_one (ps_ret (L2.pe_lst (pa_cons (pe_callTy call_list_of (by rfl) mt PyProof.Rows.boot_list (pa_cons (pe_slice sl_list (pv 0) po_none (po_some pe_int)) pa_nil)) (pa_cons pe_int (pa_cons (pe_op op_add pe_int (pe_callB call_len_seq (by rfl) ml PySem.boot_len (pa_cons (pv 0) pa_nil))) pa_nil))))), ?_⟩
    have hcut : cutV (ns.map V.int) none (some 63) = ns.map V.int := by
      apply cutV_whole
      have : (ns.map V.int).length ≤ 63 := by simpa using hns
      constructor
      · rfl
      · show HT.sIx (ns.map V.int).length (ns.map V.int).length (some 63) = (ns.map V.int).length
        unfold HT.sIx
        simp
        omega
    refine ⟨_, rfl, _, rfl, a, _, rfl, hs.sq, fun p1 hp1 => ?_⟩
    rw [hcut]
    refine ⟨p1, _, rfl, .inl (SqL.of upd_same), fun c hc => ?_⟩
    have s1 : Same H (upd H p1 (.lst (ns.map V.int))) := fun b o hb => by rw [upd_ne (ne_of_none hb hp1)]; exact hb
    have s2 : Same (upd H p1 (.lst (ns.map V.int))) (upd (upd H p1 (.lst (ns.map V.int))) c (.lst (ns.map V.int))) := fun b o hb => by rw [upd_ne (ne_of_none hb hc)]; exact hb
    refine ⟨_, rfl, a, _, rfl, .inl ((s1.trans s2).seq hs.sq), _, _, rfl, rfl, (by show 3 ≤ sizeLine; decide), fun b hb => ?_⟩
    have s3 : Same (upd (upd H p1 (.lst (ns.map V.int))) c (.lst (ns.map V.int))) (upd (upd (upd H p1 (.lst (ns.map V.int))) c (.lst (ns.map V.int))) b (.lst [.ref c, .int 0, .int (4711 + ((ns.map V.int).length : Nat))])) := fun x o hx => by rw [upd_ne (ne_of_none hx hb)]; exact hx
    have sall := (s1.trans s2).trans s3
    have Hc : H c = none := s1.free hc
    have Hb : H b = none := (s1.trans s2).free hb
    have nbc : b ≠ c := fun z => by subst z; rw [upd_same] at hb; cases hb
    have hcb : (upd (upd (upd H p1 (.lst (ns.map V.int))) c (.lst (ns.map V.int))) b (.lst [.ref c, .int 0, .int (4711 + ((ns.map V.int).length : Nat))])) c = some (.lst (ns.map V.int)) := by rw [upd_ne (Ne.symm nbc), upd_same]
    have hln : ((ns.map V.int).length : Int) = (ns.length : Int) := by simp
    have st : Mini.Step O H F0 (fun x => O x ∨ x = b ∨ x = c) (upd (upd (upd H p1 (.lst (ns.map V.int))) c (.lst (ns.map V.int))) b (.lst [.ref c, .int 0, .int (4711 + ((ns.map V.int).length : Nat))])) (fun x => x = b ∨ x = c) := by
      refine ⟨⟨wa.own, fun x o hx _ => sall x o hx, fun x hx => ?_, fun x hx => ?_⟩, fun x hx => ?_, fun x hx _ => ?_, fun x hx => ?_⟩
      · rcases hx with hx | rfl | rfl
        · exact .inl hx
        · exact .inr Hb
        · exact .inr Hc
      · cases hq : H x with
        | none => exact absurd hq hx
        | some o => rw [sall x o hq]; exact Option.some_ne_none _
      · rcases hx with hx | rfl | rfl
        · obtain ⟨ys, hy⟩ := wa.own x hx
          exact ⟨ys, sall x _ hy⟩
        · exact ⟨_, upd_same⟩
        · exact ⟨_, hcb⟩
      · obtain ⟨ys, hy⟩ := wa.own x hx
        exact ⟨.inl hx, by rw [sall x _ hy, hy]⟩
      · rcases hx with rfl | rfl
        · exact .inr Hb
        · exact .inr Hc
    have nf : ∀ x, ¬ FpE H [Sl.sc ns] ([V.ref a].map some) x := fun x ⟨i, s, v, z1, z2, z3⟩ => by
      match i, z1 with
      | 0, z1 => have e : s = .sc ns := by simpa using z1.symm
                 subst e; exact z3
      | i + 1, z1 => simp at z1
    have at0 : ∀ (i : Nat) (s : Sl), ([Sl.no] : En)[i]? = some s → s = .no := fun i s z => by
      match i, z with
      | 0, z => simpa using z.symm
      | i + 1, z => simp at z
    have w2 : W K (fun x => O x ∨ x = b ∨ x = c) (upd (upd (upd H p1 (.lst (ns.map V.int))) c (.lst (ns.map V.int))) b (.lst [.ref c, .int 0, .int (4711 + ((ns.map V.int).length : Nat))])) [Sl.no] ([V.ref a].map some) :=
      ⟨st.own, rfl, fun i s z => .inl (at0 i s z), fun i j s t v u x n z1 z2 z3 z4 f1 f2 => by rw [at0 i s z1] at f1; exact f1⟩
    have nf2 : ∀ x, ¬ FpE (upd (upd (upd H p1 (.lst (ns.map V.int))) c (.lst (ns.map V.int))) b (.lst [.ref c, .int 0, .int (4711 + ((ns.map V.int).length : Nat))])) [Sl.no] ([V.ref a].map some) x := fun x ⟨i, s, v, z1, z2, z3⟩ => by rw [at0 i s z1] at z3; exact z3
    refine q _ _ (.ref b) ⟨st.evo, st.own, fun x hx _ => st.keepO x hx id, fun x f => ?_⟩ ⟨w2, ⟨b, c, rfl, ?_, hcb, .inr (.inl rfl), .inr (.inr rfl)⟩, fun x f => nf2 x⟩
    · rcases f with f | f
      · exact (nf2 x f).elim
      · rcases f with f | ⟨a', r', f, g⟩
        · cases f; exact .inr Hb
        · cases f; rw [upd_same] at g; cases g; exact .inr Hc
    · rw [upd_same, hln]; rfl
end
section
variable {P : Program} {w : World} {K : PySem.W.Frag} {mg : Str → Option Value} {base : Heap}
set_option maxHeartbeats 0 in
theorem all_mk {l : PySem.W.OpenLaw} {h : Heap} {fa : Addr} (X : K.In h) (G : h.Ns mainGlobals mg) (hfa : mg "law" = some (.ref fa))
    {f0 : Addr} {od0 an0 : Option Addr} {sl0 : Array (Option Value)} {oc0 kV0 dc0 pm0 cd0 ct0 : Value}
    {f1 : Addr} {od1 an1 : Option Addr} {sl1 : Array (Option Value)} {oc1 kV1 dc1 pm1 cd1 ct1 : Value}
    {f2 : Addr} {od2 an2 : Option Addr} {sl2 : Array (Option Value)} {oc2 kV2 dc2 pm2 cd2 ct2 : Value}
    {f3 : Addr} {od3 an3 : Option Addr} {sl3 : Array (Option Value)} {oc3 kV3 dc3 pm3 cd3 ct3 : Value}
    {f4 : Addr} {od4 an4 : Option Addr} {sl4 : Array (Option Value)} {oc4 kV4 dc4 pm4 cd4 ct4 : Value}
    {f5 : Addr} {od5 an5 : Option Addr} {sl5 : Array (Option Value)} {oc5 kV5 dc5 pm5 cd5 ct5 : Value}
    {f6 : Addr} {od6 an6 : Option Addr} {sl6 : Array (Option Value)} {oc6 kV6 dc6 pm6 cd6 ct6 : Value}
    {f7 : Addr} {od7 an7 : Option Addr} {sl7 : Array (Option Value)} {oc7 kV7 dc7 pm7 cd7 ct7 : Value}
    {f8 : Addr} {od8 an8 : Option Addr} {sl8 : Array (Option Value)} {oc8 kV8 dc8 pm8 cd8 ct8 : Value}
    {f9 : Addr} {od9 an9 : Option Addr} {sl9 : Array (Option Value)} {oc9 kV9 dc9 pm9 cd9 ct9 : Value}
    {f10 : Addr} {od10 an10 : Option Addr} {sl10 : Array (Option Value)} {oc10 kV10 dc10 pm10 cd10 ct10 : Value}
    {f11 : Addr} {od11 an11 : Option Addr} {sl11 : Array (Option Value)} {oc11 kV11 dc11 pm11 cd11 ct11 : Value}
    {f12 : Addr} {od12 an12 : Option Addr} {sl12 : Array (Option Value)} {oc12 kV12 dc12 pm12 cd12 ct12 : Value}
    {f13 : Addr} {od13 an13 : Option Addr} {sl13 : Array (Option Value)} {oc13 kV13 dc13 pm13 cd13 ct13 : Value}
    {f14 : Addr} {od14 an14 : Option Addr} {sl14 : Array (Option Value)} {oc14 kV14 dc14 pm14 cd14 ct14 : Value}
    {f15 : Addr} {od15 an15 : Option Addr} {sl15 : Array (Option Value)} {oc15 kV15 dc15 pm15 cd15 ct15 : Value}
    {f16 : Addr} {od16 an16 : Option Addr} {sl16 : Array (Option Value)} {oc16 kV16 dc16 pm16 cd16 ct16 : Value}
    {f17 : Addr} {od17 an17 : Option Addr} {sl17 : Array (Option Value)} {oc17 kV17 dc17 pm17 cd17 ct17 : Value}
    {f18 : Addr} {od18 an18 : Option Addr} {sl18 : Array (Option Value)} {oc18 kV18 dc18 pm18 cd18 ct18 : Value}
    {f19 : Addr} {od19 an19 : Option Addr} {sl19 : Array (Option Value)} {oc19 kV19 dc19 pm19 cd19 ct19 : Value}
    {f20 : Addr} {od20 an20 : Option Addr} {sl20 : Array (Option Value)} {oc20 kV20 dc20 pm20 cd20 ct20 : Value}
    {f21 : Addr} {od21 an21 : Option Addr} {sl21 : Array (Option Value)} {oc21 kV21 dc21 pm21 cd21 ct21 : Value}
    {f22 : Addr} {od22 an22 : Option Addr} {sl22 : Array (Option Value)} {oc22 kV22 dc22 pm22 cd22 ct22 : Value}
    {f23 : Addr} {od23 an23 : Option Addr} {sl23 : Array (Option Value)} {oc23 kV23 dc23 pm23 cd23 ct23 : Value}
    {f24 : Addr} {od24 an24 : Option Addr} {sl24 : Array (Option Value)} {oc24 kV24 dc24 pm24 cd24 ct24 : Value}
    {f25 : Addr} {od25 an25 : Option Addr} {sl25 : Array (Option Value)} {oc25 kV25 dc25 pm25 cd25 ct25 : Value}
    {f26 : Addr} {od26 an26 : Option Addr} {sl26 : Array (Option Value)} {oc26 kV26 dc26 pm26 cd26 ct26 : Value}
    {f27 : Addr} {od27 an27 : Option Addr} {sl27 : Array (Option Value)} {oc27 kV27 dc27 pm27 cd27 ct27 : Value}
    {f28 : Addr} {od28 an28 : Option Addr} {sl28 : Array (Option Value)} {oc28 kV28 dc28 pm28 cd28 ct28 : Value}
    {f29 : Addr} {od29 an29 : Option Addr} {sl29 : Array (Option Value)} {oc29 kV29 dc29 pm29 cd29 ct29 : Value}
    {f30 : Addr} {od30 an30 : Option Addr} {sl30 : Array (Option Value)} {oc30 kV30 dc30 pm30 cd30 ct30 : Value}
    {f31 : Addr} {od31 an31 : Option Addr} {sl31 : Array (Option Value)} {oc31 kV31 dc31 pm31 cd31 ct31 : Value}
    {f32 : Addr} {od32 an32 : Option Addr} {sl32 : Array (Option Value)} {oc32 kV32 dc32 pm32 cd32 ct32 : Value}
    {f33 : Addr} {od33 an33 : Option Addr} {sl33 : Array (Option Value)} {oc33 kV33 dc33 pm33 cd33 ct33 : Value}
    {f34 : Addr} {od34 an34 : Option Addr} {sl34 : Array (Option Value)} {oc34 kV34 dc34 pm34 cd34 ct34 : Value}
    {f35 : Addr} {od35 an35 : Option Addr} {sl35 : Array (Option Value)} {oc35 kV35 dc35 pm35 cd35 ct35 : Value}
    {f36 : Addr} {od36 an36 : Option Addr} {sl36 : Array (Option Value)} {oc36 kV36 dc36 pm36 cd36 ct36 : Value}
    {f37 : Addr} {od37 an37 : Option Addr} {sl37 : Array (Option Value)} {oc37 kV37 dc37 pm37 cd37 ct37 : Value}
    {f38 : Addr} {od38 an38 : Option Addr} {sl38 : Array (Option Value)} {oc38 kV38 dc38 pm38 cd38 ct38 : Value}
    {f39 : Addr} {od39 an39 : Option Addr} {sl39 : Array (Option Value)} {oc39 kV39 dc39 pm39 cd39 ct39 : Value}
    {f40 : Addr} {od40 an40 : Option Addr} {sl40 : Array (Option Value)} {oc40 kV40 dc40 pm40 cd40 ct40 : Value}
    {f41 : Addr} {od41 an41 : Option Addr} {sl41 : Array (Option Value)} {oc41 kV41 dc41 pm41 cd41 ct41 : Value}
    {f42 : Addr} {od42 an42 : Option Addr} {sl42 : Array (Option Value)} {oc42 kV42 dc42 pm42 cd42 ct42 : Value}
    {f43 : Addr} {od43 an43 : Option Addr} {sl43 : Array (Option Value)} {oc43 kV43 dc43 pm43 cd43 ct43 : Value}
    {f44 : Addr} {od44 an44 : Option Addr} {sl44 : Array (Option Value)} {oc44 kV44 dc44 pm44 cd44 ct44 : Value}
    {gz0 : Addr} {gd0 : Option Addr} {gi0 : Array Value} {gn0 : Nat} {gs0 : Array (Option Value)}
    {gz1 : Value}
    {gz2 : Value}
    (a0 : PySem.W.nsIn K mainGlobals "is_whole" = some (some (.ref f0))) (l0 : K.lookup f0 = some ⟨oc0, od0, .func (PySem.W.fnOf "is_whole" "is_whole" (defArgs (top 1)) (defBody (top 1)) (defScope (top 1)) .none kV0 dc0 pm0 an0 cd0 ct0), sl0⟩) (c0 : PySem.W.codeIn K cd0 "is_whole" = true) (k0 : PySem.W.keepIn K (.ref f0) = true)
    (a1 : PySem.W.nsIn K mainGlobals "common_divisor" = some (some (.ref f1))) (l1 : K.lookup f1 = some ⟨oc1, od1, .func (PySem.W.fnOf "common_divisor" "common_divisor" (defArgs (top 7)) (defBody (top 7)) (defScope (top 7)) .none kV1 dc1 pm1 an1 cd1 ct1), sl1⟩) (c1 : PySem.W.codeIn K cd1 "common_divisor" = true) (k1 : PySem.W.keepIn K (.ref f1) = true)
    (a2 : PySem.W.nsIn K mainGlobals "is_ratio" = some (some (.ref f2))) (l2 : K.lookup f2 = some ⟨oc2, od2, .func (PySem.W.fnOf "is_ratio" "is_ratio" (defArgs (top 8)) (defBody (top 8)) (defScope (top 8)) .none kV2 dc2 pm2 an2 cd2 ct2), sl2⟩) (c2 : PySem.W.codeIn K cd2 "is_ratio" = true) (k2 : PySem.W.keepIn K (.ref f2) = true)
    (a3 : PySem.W.nsIn K mainGlobals "ratio" = some (some (.ref f3))) (l3 : K.lookup f3 = some ⟨oc3, od3, .func (PySem.W.fnOf "ratio" "ratio" (defArgs (top 9)) (defBody (top 9)) (defScope (top 9)) .none kV3 dc3 pm3 an3 cd3 ct3), sl3⟩) (c3 : PySem.W.codeIn K cd3 "ratio" = true) (k3 : PySem.W.keepIn K (.ref f3) = true)
    (a4 : PySem.W.nsIn K mainGlobals "plus" = some (some (.ref f4))) (l4 : K.lookup f4 = some ⟨oc4, od4, .func (PySem.W.fnOf "plus" "plus" (defArgs (top 10)) (defBody (top 10)) (defScope (top 10)) .none kV4 dc4 pm4 an4 cd4 ct4), sl4⟩) (c4 : PySem.W.codeIn K cd4 "plus" = true) (k4 : PySem.W.keepIn K (.ref f4) = true)
    (a5 : PySem.W.nsIn K mainGlobals "times" = some (some (.ref f5))) (l5 : K.lookup f5 = some ⟨oc5, od5, .func (PySem.W.fnOf "times" "times" (defArgs (top 11)) (defBody (top 11)) (defScope (top 11)) .none kV5 dc5 pm5 an5 cd5 ct5), sl5⟩) (c5 : PySem.W.codeIn K cd5 "times" = true) (k5 : PySem.W.keepIn K (.ref f5) = true)
    (a6 : PySem.W.nsIn K mainGlobals "less" = some (some (.ref f6))) (l6 : K.lookup f6 = some ⟨oc6, od6, .func (PySem.W.fnOf "less" "less" (defArgs (top 12)) (defBody (top 12)) (defScope (top 12)) .none kV6 dc6 pm6 an6 cd6 ct6), sl6⟩) (c6 : PySem.W.codeIn K cd6 "less" = true) (k6 : PySem.W.keepIn K (.ref f6) = true)
    (a7 : PySem.W.nsIn K mainGlobals "sum_of" = some (some (.ref f7))) (l7 : K.lookup f7 = some ⟨oc7, od7, .func (PySem.W.fnOf "sum_of" "sum_of" (defArgs (top 13)) (defBody (top 13)) (defScope (top 13)) .none kV7 dc7 pm7 an7 cd7 ct7), sl7⟩) (c7 : PySem.W.codeIn K cd7 "sum_of" = true) (k7 : PySem.W.keepIn K (.ref f7) = true)
    (a8 : PySem.W.nsIn K mainGlobals "are_ratios" = some (some (.ref f8))) (l8 : K.lookup f8 = some ⟨oc8, od8, .func (PySem.W.fnOf "are_ratios" "are_ratios" (defArgs (top 17)) (defBody (top 17)) (defScope (top 17)) .none kV8 dc8 pm8 an8 cd8 ct8), sl8⟩) (c8 : PySem.W.codeIn K cd8 "are_ratios" = true) (k8 : PySem.W.keepIn K (.ref f8) = true)
    (a9 : PySem.W.nsIn K mainGlobals "is_menu" = some (some (.ref f9))) (l9 : K.lookup f9 = some ⟨oc9, od9, .func (PySem.W.fnOf "is_menu" "is_menu" (defArgs (top 18)) (defBody (top 18)) (defScope (top 18)) .none kV9 dc9 pm9 an9 cd9 ct9), sl9⟩) (c9 : PySem.W.codeIn K cd9 "is_menu" = true) (k9 : PySem.W.keepIn K (.ref f9) = true)
    (a10 : PySem.W.nsIn K mainGlobals "dishes_of" = some (some (.ref f10))) (l10 : K.lookup f10 = some ⟨oc10, od10, .func (PySem.W.fnOf "dishes_of" "dishes_of" (defArgs (top 19)) (defBody (top 19)) (defScope (top 19)) .none kV10 dc10 pm10 an10 cd10 ct10), sl10⟩) (c10 : PySem.W.codeIn K cd10 "dishes_of" = true) (k10 : PySem.W.keepIn K (.ref f10) = true)
    (a11 : PySem.W.nsIn K mainGlobals "are_above" = some (some (.ref f11))) (l11 : K.lookup f11 = some ⟨oc11, od11, .func (PySem.W.fnOf "are_above" "are_above" (defArgs (top 20)) (defBody (top 20)) (defScope (top 20)) .none kV11 dc11 pm11 an11 cd11 ct11), sl11⟩) (c11 : PySem.W.codeIn K cd11 "are_above" = true) (k11 : PySem.W.keepIn K (.ref f11) = true)
    (a12 : PySem.W.nsIn K mainGlobals "dot" = some (some (.ref f12))) (l12 : K.lookup f12 = some ⟨oc12, od12, .func (PySem.W.fnOf "dot" "dot" (defArgs (top 21)) (defBody (top 21)) (defScope (top 21)) .none kV12 dc12 pm12 an12 cd12 ct12), sl12⟩) (c12 : PySem.W.codeIn K cd12 "dot" = true) (k12 : PySem.W.keepIn K (.ref f12) = true)
    (a13 : PySem.W.nsIn K mainGlobals "given_by" = some (some (.ref f13))) (l13 : K.lookup f13 = some ⟨oc13, od13, .func (PySem.W.fnOf "given_by" "given_by" (defArgs (top 22)) (defBody (top 22)) (defScope (top 22)) .none kV13 dc13 pm13 an13 cd13 ct13), sl13⟩) (c13 : PySem.W.codeIn K cd13 "given_by" = true) (k13 : PySem.W.keepIn K (.ref f13) = true)
    (a14 : PySem.W.nsIn K mainGlobals "worth_of_dishes" = some (some (.ref f14))) (l14 : K.lookup f14 = some ⟨oc14, od14, .func (PySem.W.fnOf "worth_of_dishes" "worth_of_dishes" (defArgs (top 23)) (defBody (top 23)) (defScope (top 23)) .none kV14 dc14 pm14 an14 cd14 ct14), sl14⟩) (c14 : PySem.W.codeIn K cd14 "worth_of_dishes" = true) (k14 : PySem.W.keepIn K (.ref f14) = true)
    (a15 : PySem.W.nsIn K mainGlobals "are_amounts" = some (some (.ref f15))) (l15 : K.lookup f15 = some ⟨oc15, od15, .func (PySem.W.fnOf "are_amounts" "are_amounts" (defArgs (top 24)) (defBody (top 24)) (defScope (top 24)) .none kV15 dc15 pm15 an15 cd15 ct15), sl15⟩) (c15 : PySem.W.codeIn K cd15 "are_amounts" = true) (k15 : PySem.W.keepIn K (.ref f15) = true)
    (a16 : PySem.W.nsIn K mainGlobals "is_bar" = some (some (.ref f16))) (l16 : K.lookup f16 = some ⟨oc16, od16, .func (PySem.W.fnOf "is_bar" "is_bar" (defArgs (top 25)) (defBody (top 25)) (defScope (top 25)) .none kV16 dc16 pm16 an16 cd16 ct16), sl16⟩) (c16 : PySem.W.codeIn K cd16 "is_bar" = true) (k16 : PySem.W.keepIn K (.ref f16) = true)
    (a17 : PySem.W.nsIn K mainGlobals "are_prices" = some (some (.ref f17))) (l17 : K.lookup f17 = some ⟨oc17, od17, .func (PySem.W.fnOf "are_prices" "are_prices" (defArgs (top 26)) (defBody (top 26)) (defScope (top 26)) .none kV17 dc17 pm17 an17 cd17 ct17), sl17⟩) (c17 : PySem.W.codeIn K cd17 "are_prices" = true) (k17 : PySem.W.keepIn K (.ref f17) = true)
    (a18 : PySem.W.nsIn K mainGlobals "is_saving" = some (some (.ref f18))) (l18 : K.lookup f18 = some ⟨oc18, od18, .func (PySem.W.fnOf "is_saving" "is_saving" (defArgs (top 27)) (defBody (top 27)) (defScope (top 27)) .none kV18 dc18 pm18 an18 cd18 ct18), sl18⟩) (c18 : PySem.W.codeIn K cd18 "is_saving" = true) (k18 : PySem.W.keepIn K (.ref f18) = true)
    (a19 : PySem.W.nsIn K mainGlobals "over_needs" = some (some (.ref f19))) (l19 : K.lookup f19 = some ⟨oc19, od19, .func (PySem.W.fnOf "over_needs" "over_needs" (defArgs (top 28)) (defBody (top 28)) (defScope (top 28)) .none kV19 dc19 pm19 an19 cd19 ct19), sl19⟩) (c19 : PySem.W.codeIn K cd19 "over_needs" = true) (k19 : PySem.W.keepIn K (.ref f19) = true)
    (a20 : PySem.W.nsIn K mainGlobals "go_together" = some (some (.ref f20))) (l20 : K.lookup f20 = some ⟨oc20, od20, .func (PySem.W.fnOf "go_together" "go_together" (defArgs (top 29)) (defBody (top 29)) (defScope (top 29)) .none kV20 dc20 pm20 an20 cd20 ct20), sl20⟩) (c20 : PySem.W.codeIn K cd20 "go_together" = true) (k20 : PySem.W.keepIn K (.ref f20) = true)
    (a21 : PySem.W.nsIn K mainGlobals "is_index" = some (some (.ref f21))) (l21 : K.lookup f21 = some ⟨oc21, od21, .func (PySem.W.fnOf "is_index" "is_index" (defArgs (top 30)) (defBody (top 30)) (defScope (top 30)) .none kV21 dc21 pm21 an21 cd21 ct21), sl21⟩) (c21 : PySem.W.codeIn K cd21 "is_index" = true) (k21 : PySem.W.keepIn K (.ref f21) = true)
    (a22 : PySem.W.nsIn K mainGlobals "_law_box" = some (some (.ref f22))) (l22 : K.lookup f22 = some ⟨oc22, od22, .func (PySem.W.fnOf "_law_box" "_law_box" (defArgs (top 32)) (defBody (top 32)) (defScope (top 32)) .none kV22 dc22 pm22 an22 cd22 ct22), sl22⟩) (c22 : PySem.W.codeIn K cd22 "_law_box" = true) (k22 : PySem.W.keepIn K (.ref f22) = true)
    (a23 : PySem.W.nsIn K mainGlobals "_law_draw" = some (some (.ref f23))) (l23 : K.lookup f23 = some ⟨oc23, od23, .func (PySem.W.fnOf "_law_draw" "_law_draw" (defArgs (top 34)) (defBody (top 34)) (defScope (top 34)) .none kV23 dc23 pm23 an23 cd23 ct23), sl23⟩) (c23 : PySem.W.codeIn K cd23 "_law_draw" = true) (k23 : PySem.W.keepIn K (.ref f23) = true)
    (a24 : PySem.W.nsIn K mainGlobals "_law_same" = some (some (.ref f24))) (l24 : K.lookup f24 = some ⟨oc24, od24, .func (PySem.W.fnOf "_law_same" "_law_same" (defArgs (top 35)) (defBody (top 35)) (defScope (top 35)) .none kV24 dc24 pm24 an24 cd24 ct24), sl24⟩) (c24 : PySem.W.codeIn K cd24 "_law_same" = true) (k24 : PySem.W.keepIn K (.ref f24) = true)
    (a25 : PySem.W.nsIn K mainGlobals "_law_bent" = some (some (.ref f25))) (l25 : K.lookup f25 = some ⟨oc25, od25, .func (PySem.W.fnOf "_law_bent" "_law_bent" (defArgs (top 36)) (defBody (top 36)) (defScope (top 36)) .none kV25 dc25 pm25 an25 cd25 ct25), sl25⟩) (c25 : PySem.W.codeIn K cd25 "_law_bent" = true) (k25 : PySem.W.keepIn K (.ref f25) = true)
    (a26 : PySem.W.nsIn K mainGlobals "_law_divisor" = some (some (.ref f26))) (l26 : K.lookup f26 = some ⟨oc26, od26, .func (PySem.W.fnOf "_law_divisor" "_law_divisor" (defArgs (top 37)) (defBody (top 37)) (defScope (top 37)) .none kV26 dc26 pm26 an26 cd26 ct26), sl26⟩) (c26 : PySem.W.codeIn K cd26 "_law_divisor" = true) (k26 : PySem.W.keepIn K (.ref f26) = true)
    (a27 : PySem.W.nsIn K mainGlobals "_law_ratio" = some (some (.ref f27))) (l27 : K.lookup f27 = some ⟨oc27, od27, .func (PySem.W.fnOf "_law_ratio" "_law_ratio" (defArgs (top 38)) (defBody (top 38)) (defScope (top 38)) .none kV27 dc27 pm27 an27 cd27 ct27), sl27⟩) (c27 : PySem.W.codeIn K cd27 "_law_ratio" = true) (k27 : PySem.W.keepIn K (.ref f27) = true)
    (a28 : PySem.W.nsIn K mainGlobals "_law_plus" = some (some (.ref f28))) (l28 : K.lookup f28 = some ⟨oc28, od28, .func (PySem.W.fnOf "_law_plus" "_law_plus" (defArgs (top 39)) (defBody (top 39)) (defScope (top 39)) .none kV28 dc28 pm28 an28 cd28 ct28), sl28⟩) (c28 : PySem.W.codeIn K cd28 "_law_plus" = true) (k28 : PySem.W.keepIn K (.ref f28) = true)
    (a29 : PySem.W.nsIn K mainGlobals "_law_times" = some (some (.ref f29))) (l29 : K.lookup f29 = some ⟨oc29, od29, .func (PySem.W.fnOf "_law_times" "_law_times" (defArgs (top 40)) (defBody (top 40)) (defScope (top 40)) .none kV29 dc29 pm29 an29 cd29 ct29), sl29⟩) (c29 : PySem.W.codeIn K cd29 "_law_times" = true) (k29 : PySem.W.keepIn K (.ref f29) = true)
    (a30 : PySem.W.nsIn K mainGlobals "_law_less" = some (some (.ref f30))) (l30 : K.lookup f30 = some ⟨oc30, od30, .func (PySem.W.fnOf "_law_less" "_law_less" (defArgs (top 41)) (defBody (top 41)) (defScope (top 41)) .none kV30 dc30 pm30 an30 cd30 ct30), sl30⟩) (c30 : PySem.W.codeIn K cd30 "_law_less" = true) (k30 : PySem.W.keepIn K (.ref f30) = true)
    (a31 : PySem.W.nsIn K mainGlobals "_law_dot" = some (some (.ref f31))) (l31 : K.lookup f31 = some ⟨oc31, od31, .func (PySem.W.fnOf "_law_dot" "_law_dot" (defArgs (top 42)) (defBody (top 42)) (defScope (top 42)) .none kV31 dc31 pm31 an31 cd31 ct31), sl31⟩) (c31 : PySem.W.codeIn K cd31 "_law_dot" = true) (k31 : PySem.W.keepIn K (.ref f31) = true)
    (a32 : PySem.W.nsIn K mainGlobals "_law_is_ratio" = some (some (.ref f32))) (l32 : K.lookup f32 = some ⟨oc32, od32, .func (PySem.W.fnOf "_law_is_ratio" "_law_is_ratio" (defArgs (top 43)) (defBody (top 43)) (defScope (top 43)) .none kV32 dc32 pm32 an32 cd32 ct32), sl32⟩) (c32 : PySem.W.codeIn K cd32 "_law_is_ratio" = true) (k32 : PySem.W.keepIn K (.ref f32) = true)
    (a33 : PySem.W.nsIn K mainGlobals "_law_some" = some (some (.ref f33))) (l33 : K.lookup f33 = some ⟨oc33, od33, .func (PySem.W.fnOf "_law_some" "_law_some" (defArgs (top 44)) (defBody (top 44)) (defScope (top 44)) .none kV33 dc33 pm33 an33 cd33 ct33), sl33⟩) (c33 : PySem.W.codeIn K cd33 "_law_some" = true) (k33 : PySem.W.keepIn K (.ref f33) = true)
    (a34 : PySem.W.nsIn K mainGlobals "_law_row" = some (some (.ref f34))) (l34 : K.lookup f34 = some ⟨oc34, od34, .func (PySem.W.fnOf "_law_row" "_law_row" (defArgs (top 45)) (defBody (top 45)) (defScope (top 45)) .none kV34 dc34 pm34 an34 cd34 ct34), sl34⟩) (c34 : PySem.W.codeIn K cd34 "_law_row" = true) (k34 : PySem.W.keepIn K (.ref f34) = true)
    (a35 : PySem.W.nsIn K mainGlobals "_law_menu" = some (some (.ref f35))) (l35 : K.lookup f35 = some ⟨oc35, od35, .func (PySem.W.fnOf "_law_menu" "_law_menu" (defArgs (top 46)) (defBody (top 46)) (defScope (top 46)) .none kV35 dc35 pm35 an35 cd35 ct35), sl35⟩) (c35 : PySem.W.codeIn K cd35 "_law_menu" = true) (k35 : PySem.W.keepIn K (.ref f35) = true)
    (a36 : PySem.W.nsIn K mainGlobals "_law_columns" = some (some (.ref f36))) (l36 : K.lookup f36 = some ⟨oc36, od36, .func (PySem.W.fnOf "_law_columns" "_law_columns" (defArgs (top 47)) (defBody (top 47)) (defScope (top 47)) .none kV36 dc36 pm36 an36 cd36 ct36), sl36⟩) (c36 : PySem.W.codeIn K cd36 "_law_columns" = true) (k36 : PySem.W.keepIn K (.ref f36) = true)
    (a37 : PySem.W.nsIn K mainGlobals "_law_are_amounts" = some (some (.ref f37))) (l37 : K.lookup f37 = some ⟨oc37, od37, .func (PySem.W.fnOf "_law_are_amounts" "_law_are_amounts" (defArgs (top 48)) (defBody (top 48)) (defScope (top 48)) .none kV37 dc37 pm37 an37 cd37 ct37), sl37⟩) (c37 : PySem.W.codeIn K cd37 "_law_are_amounts" = true) (k37 : PySem.W.keepIn K (.ref f37) = true)
    (a38 : PySem.W.nsIn K mainGlobals "_law_is_bar" = some (some (.ref f38))) (l38 : K.lookup f38 = some ⟨oc38, od38, .func (PySem.W.fnOf "_law_is_bar" "_law_is_bar" (defArgs (top 49)) (defBody (top 49)) (defScope (top 49)) .none kV38 dc38 pm38 an38 cd38 ct38), sl38⟩) (c38 : PySem.W.codeIn K cd38 "_law_is_bar" = true) (k38 : PySem.W.keepIn K (.ref f38) = true)
    (a39 : PySem.W.nsIn K mainGlobals "_law_are_prices" = some (some (.ref f39))) (l39 : K.lookup f39 = some ⟨oc39, od39, .func (PySem.W.fnOf "_law_are_prices" "_law_are_prices" (defArgs (top 50)) (defBody (top 50)) (defScope (top 50)) .none kV39 dc39 pm39 an39 cd39 ct39), sl39⟩) (c39 : PySem.W.codeIn K cd39 "_law_are_prices" = true) (k39 : PySem.W.keepIn K (.ref f39) = true)
    (a40 : PySem.W.nsIn K mainGlobals "_law_is_saving" = some (some (.ref f40))) (l40 : K.lookup f40 = some ⟨oc40, od40, .func (PySem.W.fnOf "_law_is_saving" "_law_is_saving" (defArgs (top 51)) (defBody (top 51)) (defScope (top 51)) .none kV40 dc40 pm40 an40 cd40 ct40), sl40⟩) (c40 : PySem.W.codeIn K cd40 "_law_is_saving" = true) (k40 : PySem.W.keepIn K (.ref f40) = true)
    (a41 : PySem.W.nsIn K mainGlobals "_law_is_menu" = some (some (.ref f41))) (l41 : K.lookup f41 = some ⟨oc41, od41, .func (PySem.W.fnOf "_law_is_menu" "_law_is_menu" (defArgs (top 52)) (defBody (top 52)) (defScope (top 52)) .none kV41 dc41 pm41 an41 cd41 ct41), sl41⟩) (c41 : PySem.W.codeIn K cd41 "_law_is_menu" = true) (k41 : PySem.W.keepIn K (.ref f41) = true)
    (a42 : PySem.W.nsIn K mainGlobals "_law_fine" = some (some (.ref f42))) (l42 : K.lookup f42 = some ⟨oc42, od42, .func (PySem.W.fnOf "_law_fine" "_law_fine" (defArgs (top 53)) (defBody (top 53)) (defScope (top 53)) .none kV42 dc42 pm42 an42 cd42 ct42), sl42⟩) (c42 : PySem.W.codeIn K cd42 "_law_fine" = true) (k42 : PySem.W.keepIn K (.ref f42) = true)
    (a43 : PySem.W.nsIn K mainGlobals "law" = some (some (.ref f43))) (l43 : K.lookup f43 = some ⟨oc43, od43, .func (PySem.W.fnOf "law" "law" (defArgs (top 54)) (defBody (top 54)) (defScope (top 54)) .none kV43 dc43 pm43 an43 cd43 ct43), sl43⟩) (c43 : PySem.W.codeIn K cd43 "law" = true) (k43 : PySem.W.keepIn K (.ref f43) = true)
    (a44 : PySem.W.nsIn K mainGlobals "_law_load" = some (some (.ref f44))) (l44 : K.lookup f44 = some ⟨oc44, od44, .func (PySem.W.fnOf "_law_load" "_law_load" (defArgs (top 33)) (defBody (top 33)) (defScope (top 33)) .none kV44 dc44 pm44 an44 cd44 ct44), sl44⟩) (c44 : PySem.W.codeIn K cd44 "_law_load" = true) (k44 : PySem.W.keepIn K (.ref f44) = true)
    (z_len : PySem.W.nsIn K mainGlobals "len" = some none)
    (z_all : PySem.W.nsIn K mainGlobals "all" = some none)
    (z_any : PySem.W.nsIn K mainGlobals "any" = some none)
    (z_sum : PySem.W.nsIn K mainGlobals "sum" = some none)
    (z_min : PySem.W.nsIn K mainGlobals "min" = some none)
    (z_max : PySem.W.nsIn K mainGlobals "max" = some none)
    (z_abs : PySem.W.nsIn K mainGlobals "abs" = some none)
    (z_tuple : PySem.W.nsIn K mainGlobals "tuple" = some none)
    (z_list : PySem.W.nsIn K mainGlobals "list" = some none)
    (z_int : PySem.W.nsIn K mainGlobals "int" = some none)
    (z_sorted : PySem.W.nsIn K mainGlobals "sorted" = some none)
    (z_str : PySem.W.nsIn K mainGlobals "str" = some none)
    (z_bool : PySem.W.nsIn K mainGlobals "bool" = some none)
    (z_isinstance : PySem.W.nsIn K mainGlobals "isinstance" = some none)
    (z_range : PySem.W.nsIn K mainGlobals "range" = some none)
    (z_enumerate : PySem.W.nsIn K mainGlobals "enumerate" = some none)
    (z_zip : PySem.W.nsIn K mainGlobals "zip" = some none)
    (z_reversed : PySem.W.nsIn K mainGlobals "reversed" = some none)
    (z_set : PySem.W.nsIn K mainGlobals "set" = some none)
    (ga0 : PySem.W.nsIn K mainGlobals "ZERO" = some (some (.ref gz0))) (gl0 : K.lookup gz0 = some ⟨.type "tuple", gd0, .seq gi0 gn0, gs0⟩) (gv0 : GTup K (.tuple [(.int 0), (.int 1)]) gi0.toList)
    (ga1 : PySem.W.nsIn K mainGlobals "MAX_THINGS" = some (some gz1)) (gv1 : GVal (.int 8) gz1)
    (ga2 : PySem.W.nsIn K mainGlobals "MAX_DISHES" = some (some gz2)) (gv2 : GVal (.int 8) gz2) :
    ∃ fd : FuncData, (∀ (s : Shared) (v : Value), BindsTo s fd ⟨[v], []⟩ [("script", v)]) ∧ ∀ base : Heap, K.In base → base.Ns mainGlobals mg → FnOk l.prog w K mg base CX0 40 fa fd ["script"] (spLaw K) := by
  have e := hfa.symm.trans (PySem.W.mg_of X G a43)
  cases e
  have F0 := fun_mk (st := top 1) l0 c0 k0
  have b0 := F0.binds (ps := ["value"]) fun _ _ _ _ _ _ us hl => match us, hl with | [_], _ => rfl
  have m0 := PySem.W.mg_of X G a0
  have F1 := fun_mk (st := top 7) l1 c1 k1
  have b1 := F1.binds (ps := ["a", "b"]) fun _ _ _ _ _ _ us hl => match us, hl with | [_, _], _ => rfl
  have m1 := PySem.W.mg_of X G a1
  have F2 := fun_mk (st := top 8) l2 c2 k2
  have b2 := F2.binds (ps := ["value"]) fun _ _ _ _ _ _ us hl => match us, hl with | [_], _ => rfl
  have m2 := PySem.W.mg_of X G a2
  have F3 := fun_mk (st := top 9) l3 c3 k3
  have b3 := F3.binds (ps := ["p", "q"]) fun _ _ _ _ _ _ us hl => match us, hl with | [_, _], _ => rfl
  have m3 := PySem.W.mg_of X G a3
  have F4 := fun_mk (st := top 10) l4 c4 k4
  have b4 := F4.binds (ps := ["one", "other"]) fun _ _ _ _ _ _ us hl => match us, hl with | [_, _], _ => rfl
  have m4 := PySem.W.mg_of X G a4
  have F5 := fun_mk (st := top 11) l5 c5 k5
  have b5 := F5.binds (ps := ["one", "other"]) fun _ _ _ _ _ _ us hl => match us, hl with | [_, _], _ => rfl
  have m5 := PySem.W.mg_of X G a5
  have F6 := fun_mk (st := top 12) l6 c6 k6
  have b6 := F6.binds (ps := ["one", "other"]) fun _ _ _ _ _ _ us hl => match us, hl with | [_, _], _ => rfl
  have m6 := PySem.W.mg_of X G a6
  have F7 := fun_mk (st := top 13) l7 c7 k7
  have b7 := F7.binds (ps := ["ratios"]) fun _ _ _ _ _ _ us hl => match us, hl with | [_], _ => rfl
  have m7 := PySem.W.mg_of X G a7
  have F8 := fun_mk (st := top 17) l8 c8 k8
  have b8 := F8.binds (ps := ["value", "size"]) fun _ _ _ _ _ _ us hl => match us, hl with | [_, _], _ => rfl
  have m8 := PySem.W.mg_of X G a8
  have F9 := fun_mk (st := top 18) l9 c9 k9
  have b9 := F9.binds (ps := ["value"]) fun _ _ _ _ _ _ us hl => match us, hl with | [_], _ => rfl
  have m9 := PySem.W.mg_of X G a9
  have F10 := fun_mk (st := top 19) l10 c10 k10
  have b10 := F10.binds (ps := ["menu"]) fun _ _ _ _ _ _ us hl => match us, hl with | [_], _ => rfl
  have m10 := PySem.W.mg_of X G a10
  have F11 := fun_mk (st := top 20) l11 c11 k11
  have b11 := F11.binds (ps := ["row"]) fun _ _ _ _ _ _ us hl => match us, hl with | [_], _ => rfl
  have m11 := PySem.W.mg_of X G a11
  have F12 := fun_mk (st := top 21) l12 c12 k12
  have b12 := F12.binds (ps := ["one", "other"]) fun _ _ _ _ _ _ us hl => match us, hl with | [_, _], _ => rfl
  have m12 := PySem.W.mg_of X G a12
  have F13 := fun_mk (st := top 22) l13 c13 k13
  have b13 := F13.binds (ps := ["menu", "amounts"]) fun _ _ _ _ _ _ us hl => match us, hl with | [_, _], _ => rfl
  have m13 := PySem.W.mg_of X G a13
  have F14 := fun_mk (st := top 23) l14 c14 k14
  have b14 := F14.binds (ps := ["menu", "prices"]) fun _ _ _ _ _ _ us hl => match us, hl with | [_, _], _ => rfl
  have m14 := PySem.W.mg_of X G a14
  have F15 := fun_mk (st := top 24) l15 c15 k15
  have b15 := F15.binds (ps := ["menu", "value"]) fun _ _ _ _ _ _ us hl => match us, hl with | [_, _], _ => rfl
  have m15 := PySem.W.mg_of X G a15
  have F16 := fun_mk (st := top 25) l16 c16 k16
  have b16 := F16.binds (ps := ["menu", "value"]) fun _ _ _ _ _ _ us hl => match us, hl with | [_, _], _ => rfl
  have m16 := PySem.W.mg_of X G a16
  have F17 := fun_mk (st := top 26) l17 c17 k17
  have b17 := F17.binds (ps := ["menu", "costs", "value"]) fun _ _ _ _ _ _ us hl => match us, hl with | [_, _, _], _ => rfl
  have m17 := PySem.W.mg_of X G a17
  have F18 := fun_mk (st := top 27) l18 c18 k18
  have b18 := F18.binds (ps := ["menu", "costs", "value"]) fun _ _ _ _ _ _ us hl => match us, hl with | [_, _, _], _ => rfl
  have m18 := PySem.W.mg_of X G a18
  have F19 := fun_mk (st := top 28) l19 c19 k19
  have b19 := F19.binds (ps := ["menu", "amounts"]) fun _ _ _ _ _ _ us hl => match us, hl with | [_, _], _ => rfl
  have m19 := PySem.W.mg_of X G a19
  have F20 := fun_mk (st := top 29) l20 c20 k20
  have b20 := F20.binds (ps := ["menu", "costs", "amounts", "prices"]) fun _ _ _ _ _ _ us hl => match us, hl with | [_, _, _, _], _ => rfl
  have m20 := PySem.W.mg_of X G a20
  have F21 := fun_mk (st := top 30) l21 c21 k21
  have b21 := F21.binds (ps := ["value", "size"]) fun _ _ _ _ _ _ us hl => match us, hl with | [_, _], _ => rfl
  have m21 := PySem.W.mg_of X G a21
  have F22 := fun_mk (st := top 32) l22 c22 k22
  have b22 := F22.binds (ps := ["script"]) fun _ _ _ _ _ _ us hl => match us, hl with | [_], _ => rfl
  have m22 := PySem.W.mg_of X G a22
  have F23 := fun_mk (st := top 34) l23 c23 k23
  have b23 := F23.binds (ps := ["box", "many"]) fun _ _ _ _ _ _ us hl => match us, hl with | [_, _], _ => rfl
  have m23 := PySem.W.mg_of X G a23
  have F24 := fun_mk (st := top 35) l24 c24 k24
  have b24 := F24.binds (ps := ["a", "b"]) fun _ _ _ _ _ _ us hl => match us, hl with | [_, _], _ => rfl
  have m24 := PySem.W.mg_of X G a24
  have F25 := fun_mk (st := top 36) l25 c25 k25
  have b25 := F25.binds (ps := ["box", "value"]) fun _ _ _ _ _ _ us hl => match us, hl with | [_, _], _ => rfl
  have m25 := PySem.W.mg_of X G a25
  have F26 := fun_mk (st := top 37) l26 c26 k26
  have b26 := F26.binds (ps := ["a", "b"]) fun _ _ _ _ _ _ us hl => match us, hl with | [_, _], _ => rfl
  have m26 := PySem.W.mg_of X G a26
  have F27 := fun_mk (st := top 38) l27 c27 k27
  have b27 := F27.binds (ps := ["p", "q"]) fun _ _ _ _ _ _ us hl => match us, hl with | [_, _], _ => rfl
  have m27 := PySem.W.mg_of X G a27
  have F28 := fun_mk (st := top 39) l28 c28 k28
  have b28 := F28.binds (ps := ["one", "other"]) fun _ _ _ _ _ _ us hl => match us, hl with | [_, _], _ => rfl
  have m28 := PySem.W.mg_of X G a28
  have F29 := fun_mk (st := top 40) l29 c29 k29
  have b29 := F29.binds (ps := ["one", "other"]) fun _ _ _ _ _ _ us hl => match us, hl with | [_, _], _ => rfl
  have m29 := PySem.W.mg_of X G a29
  have F30 := fun_mk (st := top 41) l30 c30 k30
  have b30 := F30.binds (ps := ["one", "other"]) fun _ _ _ _ _ _ us hl => match us, hl with | [_, _], _ => rfl
  have m30 := PySem.W.mg_of X G a30
  have F31 := fun_mk (st := top 42) l31 c31 k31
  have b31 := F31.binds (ps := ["one", "other"]) fun _ _ _ _ _ _ us hl => match us, hl with | [_, _], _ => rfl
  have m31 := PySem.W.mg_of X G a31
  have F32 := fun_mk (st := top 43) l32 c32 k32
  have b32 := F32.binds (ps := ["value"]) fun _ _ _ _ _ _ us hl => match us, hl with | [_], _ => rfl
  have m32 := PySem.W.mg_of X G a32
  have F33 := fun_mk (st := top 44) l33 c33 k33
  have b33 := F33.binds (ps := ["box", "low", "high"]) fun _ _ _ _ _ _ us hl => match us, hl with | [_, _, _], _ => rfl
  have m33 := PySem.W.mg_of X G a33
  have F34 := fun_mk (st := top 45) l34 c34 k34
  have b34 := F34.binds (ps := ["value", "size"]) fun _ _ _ _ _ _ us hl => match us, hl with | [_, _], _ => rfl
  have m34 := PySem.W.mg_of X G a34
  have F35 := fun_mk (st := top 46) l35 c35 k35
  have b35 := F35.binds (ps := ["box", "m", "n", "low"]) fun _ _ _ _ _ _ us hl => match us, hl with | [_, _, _, _], _ => rfl
  have m35 := PySem.W.mg_of X G a35
  have F36 := fun_mk (st := top 47) l36 c36 k36
  have b36 := F36.binds (ps := ["menu"]) fun _ _ _ _ _ _ us hl => match us, hl with | [_], _ => rfl
  have m36 := PySem.W.mg_of X G a36
  have F37 := fun_mk (st := top 48) l37 c37 k37
  have b37 := F37.binds (ps := ["menu", "value"]) fun _ _ _ _ _ _ us hl => match us, hl with | [_, _], _ => rfl
  have m37 := PySem.W.mg_of X G a37
  have F38 := fun_mk (st := top 49) l38 c38 k38
  have b38 := F38.binds (ps := ["menu", "value"]) fun _ _ _ _ _ _ us hl => match us, hl with | [_, _], _ => rfl
  have m38 := PySem.W.mg_of X G a38
  have F39 := fun_mk (st := top 50) l39 c39 k39
  have b39 := F39.binds (ps := ["menu", "costs", "value"]) fun _ _ _ _ _ _ us hl => match us, hl with | [_, _, _], _ => rfl
  have m39 := PySem.W.mg_of X G a39
  have F40 := fun_mk (st := top 51) l40 c40 k40
  have b40 := F40.binds (ps := ["menu", "costs", "value"]) fun _ _ _ _ _ _ us hl => match us, hl with | [_, _, _], _ => rfl
  have m40 := PySem.W.mg_of X G a40
  have F41 := fun_mk (st := top 52) l41 c41 k41
  have b41 := F41.binds (ps := ["value"]) fun _ _ _ _ _ _ us hl => match us, hl with | [_], _ => rfl
  have m41 := PySem.W.mg_of X G a41
  have F42 := fun_mk (st := top 53) l42 c42 k42
  have b42 := F42.binds (ps := ["box", "menu", "costs"]) fun _ _ _ _ _ _ us hl => match us, hl with | [_, _, _], _ => rfl
  have m42 := PySem.W.mg_of X G a42
  have F43 := fun_mk (st := top 54) l43 c43 k43
  have b43 := F43.binds (ps := ["script"]) fun _ _ _ _ _ _ us hl => match us, hl with | [_], _ => rfl
  have m43 := PySem.W.mg_of X G a43
  have F44 := fun_mk (st := top 33) l44 c44 k44
  have b44 := F44.binds (ps := ["box"]) fun _ _ _ _ _ _ us hl => match us, hl with | [_], _ => rfl
  have m44 := PySem.W.mg_of X G a44
  have n_len := PySem.W.mg_none_of X G z_len
  have n_all := PySem.W.mg_none_of X G z_all
  have n_any := PySem.W.mg_none_of X G z_any
  have n_sum := PySem.W.mg_none_of X G z_sum
  have n_min := PySem.W.mg_none_of X G z_min
  have n_max := PySem.W.mg_none_of X G z_max
  have n_abs := PySem.W.mg_none_of X G z_abs
  have n_tuple := PySem.W.mg_none_of X G z_tuple
  have n_list := PySem.W.mg_none_of X G z_list
  have n_int := PySem.W.mg_none_of X G z_int
  have n_sorted := PySem.W.mg_none_of X G z_sorted
  have n_str := PySem.W.mg_none_of X G z_str
  have n_bool := PySem.W.mg_none_of X G z_bool
  have n_isinstance := PySem.W.mg_none_of X G z_isinstance
  have n_range := PySem.W.mg_none_of X G z_range
  have n_enumerate := PySem.W.mg_none_of X G z_enumerate
  have n_zip := PySem.W.mg_none_of X G z_zip
  have n_reversed := PySem.W.mg_none_of X G z_reversed
  have n_set := PySem.W.mg_none_of X G z_set
  have T : Top gls K mg := by
    refine ⟨gls_of fun p hp => ?_, fun b => by cases b <;> assumption, fun t => by cases t <;> assumption, n_isinstance, n_range, n_enumerate, n_zip, n_reversed, n_set⟩
    simp only [gls, List.mem_cons, List.not_mem_nil, or_false] at hp
    rcases hp with rfl | rfl | rfl
    · exact gl_tuple (PySem.W.mg_of X G ga0) gl0 gv0
    · exact gl_val (PySem.W.mg_of X G ga1) gv1
    · exact gl_val (PySem.W.mg_of X G ga2) gv2
  refine ⟨PySem.W.fnOf "law" "law" (defArgs (top 54)) (defBody (top 54)) (defScope (top 54)) .none kV43 dc43 pm43 an43 cd43 ct43, fun s v => .of_eq rfl, fun base _ _ => ?_⟩
  have all : Lvl l.prog w K mg base fns (callN (tbOf es) 39) 39 := all_ok (gl := gls) T rfl (fun j x e hx he => by
    match j, hx, he with
    | 0, hx, he => cases hx; cases he; exact ⟨_, _, rfl, F0, k_is_whole, m0, b0⟩
    | 1, hx, he => cases hx; cases he; exact ⟨_, _, rfl, F1, k_common_divisor, m1, b1⟩
    | 2, hx, he => cases hx; cases he; exact ⟨_, _, rfl, F2, k_is_ratio, m2, b2⟩
    | 3, hx, he => cases hx; cases he; exact ⟨_, _, rfl, F3, k_ratio, m3, b3⟩
    | 4, hx, he => cases hx; cases he; exact ⟨_, _, rfl, F4, k_plus, m4, b4⟩
    | 5, hx, he => cases hx; cases he; exact ⟨_, _, rfl, F5, k_times, m5, b5⟩
    | 6, hx, he => cases hx; cases he; exact ⟨_, _, rfl, F6, k_less, m6, b6⟩
    | 7, hx, he => cases hx; cases he; exact ⟨_, _, rfl, F7, k_sum_of, m7, b7⟩
    | 8, hx, he => cases hx; cases he; exact ⟨_, _, rfl, F8, k_are_ratios, m8, b8⟩
    | 9, hx, he => cases hx; cases he; exact ⟨_, _, rfl, F9, k_is_menu, m9, b9⟩
    | 10, hx, he => cases hx; cases he; exact ⟨_, _, rfl, F10, k_dishes_of, m10, b10⟩
    | 11, hx, he => cases hx; cases he; exact ⟨_, _, rfl, F11, k_are_above, m11, b11⟩
    | 12, hx, he => cases hx; cases he; exact ⟨_, _, rfl, F12, k_dot, m12, b12⟩
    | 13, hx, he => cases hx; cases he; exact ⟨_, _, rfl, F13, k_given_by, m13, b13⟩
    | 14, hx, he => cases hx; cases he; exact ⟨_, _, rfl, F14, k_worth_of_dishes, m14, b14⟩
    | 15, hx, he => cases hx; cases he; exact ⟨_, _, rfl, F15, k_are_amounts, m15, b15⟩
    | 16, hx, he => cases hx; cases he; exact ⟨_, _, rfl, F16, k_is_bar, m16, b16⟩
    | 17, hx, he => cases hx; cases he; exact ⟨_, _, rfl, F17, k_are_prices, m17, b17⟩
    | 18, hx, he => cases hx; cases he; exact ⟨_, _, rfl, F18, k_is_saving, m18, b18⟩
    | 19, hx, he => cases hx; cases he; exact ⟨_, _, rfl, F19, k_over_needs, m19, b19⟩
    | 20, hx, he => cases hx; cases he; exact ⟨_, _, rfl, F20, k_go_together, m20, b20⟩
    | 21, hx, he => cases hx; cases he; exact ⟨_, _, rfl, F21, k_is_index, m21, b21⟩
    | 22, hx, he => cases hx; cases he; exact ⟨f22, _, ["script"], ok_box F22 n_len n_list, m22, F22.kp, b22⟩
    | 23, hx, he => cases hx; cases he; exact ⟨f23, _, ["box", "many"], ok_draw (ok_draw0 F23 (ok_load F44 n_len n_int) b44 F44.kp m44 n_int), m23, F23.kp, b23⟩
    | 24, hx, he => cases hx; cases he; exact ⟨_, _, rfl, F24, k__law_same, m24, b24⟩
    | 25, hx, he => cases hx; cases he; exact ⟨_, _, rfl, F25, k__law_bent, m25, b25⟩
    | 26, hx, he => cases hx; cases he; exact ⟨_, _, rfl, F26, k__law_divisor, m26, b26⟩
    | 27, hx, he => cases hx; cases he; exact ⟨_, _, rfl, F27, k__law_ratio, m27, b27⟩
    | 28, hx, he => cases hx; cases he; exact ⟨_, _, rfl, F28, k__law_plus, m28, b28⟩
    | 29, hx, he => cases hx; cases he; exact ⟨_, _, rfl, F29, k__law_times, m29, b29⟩
    | 30, hx, he => cases hx; cases he; exact ⟨_, _, rfl, F30, k__law_less, m30, b30⟩
    | 31, hx, he => cases hx; cases he; exact ⟨_, _, rfl, F31, k__law_dot, m31, b31⟩
    | 32, hx, he => cases hx; cases he; exact ⟨_, _, rfl, F32, k__law_is_ratio, m32, b32⟩
    | 33, hx, he => cases hx; cases he; exact ⟨_, _, rfl, F33, k__law_some, m33, b33⟩
    | 34, hx, he => cases hx; cases he; exact ⟨_, _, rfl, F34, k__law_row, m34, b34⟩
    | 35, hx, he => cases hx; cases he; exact ⟨_, _, rfl, F35, k__law_menu, m35, b35⟩
    | 36, hx, he => cases hx; cases he; exact ⟨_, _, rfl, F36, k__law_columns, m36, b36⟩
    | 37, hx, he => cases hx; cases he; exact ⟨_, _, rfl, F37, k__law_are_amounts, m37, b37⟩
    | 38, hx, he => cases hx; cases he; exact ⟨_, _, rfl, F38, k__law_is_bar, m38, b38⟩
    | 39, hx, he => cases hx; cases he; exact ⟨_, _, rfl, F39, k__law_are_prices, m39, b39⟩
    | 40, hx, he => cases hx; cases he; exact ⟨_, _, rfl, F40, k__law_is_saving, m40, b40⟩
    | 41, hx, he => cases hx; cases he; exact ⟨_, _, rfl, F41, k__law_is_menu, m41, b41⟩
    | 42, hx, he => cases hx; cases he; exact ⟨_, _, rfl, F42, k__law_fine, m42, b42⟩
    | 43, hx, he => cases hx; cases he; exact ⟨_, _, rfl, F43, k_law, m43, b43⟩
    | j + 44, hx, he => simp [fns] at hx) 39
  exact law_imp (j := 43) (P := callN (tbOf es) 40) (fn_body F43 k_law T all (fun as => call_user rfl as)) law_true
end
theorem walk {l : PySem.W.OpenLaw} {q : Program} {loose : List Str} {XP : (Str → Option Value) → Heap → Prop} {YP : World → Heap → Prop} {d : DefRec} {K : Params → PySem.W.Frag} (hn : l.most = some 63) (hdf : d.params.defaults = [])
    (hY : ∀ (w : World) (h : Heap), YP w h → (K w.params).In h)
    (F : ∀ (w : World) (mg : Str → Option Value) (fa : Addr) (h : Heap), (K w.params).In h → h.Ns mainGlobals mg → mg d.name = some (.ref fa) →
      ∃ fd : FuncData, (∀ (s : Shared) (u : Value), BindsTo s fd ⟨[u], []⟩ [("script", u)]) ∧ ∀ base : Heap, (K w.params).In base → base.Ns mainGlobals mg → FnOk l.prog w (K w.params) mg base CX0 40 fa fd ["script"] (spLaw (K w.params))) :
    PySem.W.WalkO q loose XP YP l.row.toRowW d [] (fun f vs => PySem.call f vs) :=
  L2.walk_of (n := 63) (k := 40) (x := "script") (CX := fun _ => CX0) (sp := fun w => spLaw (K w.params)) hn (by decide) hdf ⟨rfl, by decide, by decide⟩ hY F (fun _ _ a ns hl o hS => spLaw_of hl o hS) fun _ _ _ _ _ z => z
end Law
open PySem PySem.W PyProof.Rows
set_option maxHeartbeats 0 in
theorem PySem.Challenge.cw_pantrykept_k18_whole_menus_judged_holds : PySem.Challenge.rw_pantrykept_k18_whole_menus_judged.Holds := by
  w_on; o_law; k_head; (case hw => w_witness2)
  k_fill
  refine Law.walk (l := PySem.Challenge.rw_pantrykept_k18_whole_menus_judged) rfl rfl (fun w h Y => PySem.W.kIn_of Y) ?F
  case F =>
    intro w mg fa h KX G hmg
    refine' Law.all_mk KX G hmg ?a0 ?l0 ?c0 ?k0 ?a1 ?l1 ?c1 ?k1 ?a2 ?l2 ?c2 ?k2 ?a3 ?l3 ?c3 ?k3 ?a4 ?l4 ?c4 ?k4 ?a5 ?l5 ?c5 ?k5 ?a6 ?l6 ?c6 ?k6 ?a7 ?l7 ?c7 ?k7 ?a8 ?l8 ?c8 ?k8 ?a9 ?l9 ?c9 ?k9 ?a10 ?l10 ?c10 ?k10 ?a11 ?l11 ?c11 ?k11 ?a12 ?l12 ?c12 ?k12 ?a13 ?l13 ?c13 ?k13 ?a14 ?l14 ?c14 ?k14 ?a15 ?l15 ?c15 ?k15 ?a16 ?l16 ?c16 ?k16 ?a17 ?l17 ?c17 ?k17 ?a18 ?l18 ?c18 ?k18 ?a19 ?l19 ?c19 ?k19 ?a20 ?l20 ?c20 ?k20 ?a21 ?l21 ?c21 ?k21 ?a22 ?l22 ?c22 ?k22 ?a23 ?l23 ?c23 ?k23 ?a24 ?l24 ?c24 ?k24 ?a25 ?l25 ?c25 ?k25 ?a26 ?l26 ?c26 ?k26 ?a27 ?l27 ?c27 ?k27 ?a28 ?l28 ?c28 ?k28 ?a29 ?l29 ?c29 ?k29 ?a30 ?l30 ?c30 ?k30 ?a31 ?l31 ?c31 ?k31 ?a32 ?l32 ?c32 ?k32 ?a33 ?l33 ?c33 ?k33 ?a34 ?l34 ?c34 ?k34 ?a35 ?l35 ?c35 ?k35 ?a36 ?l36 ?c36 ?k36 ?a37 ?l37 ?c37 ?k37 ?a38 ?l38 ?c38 ?k38 ?a39 ?l39 ?c39 ?k39 ?a40 ?l40 ?c40 ?k40 ?a41 ?l41 ?c41 ?k41 ?a42 ?l42 ?c42 ?k42 ?a43 ?l43 ?c43 ?k43 ?a44 ?l44 ?c44 ?k44 ?z_len ?z_all ?z_any ?z_sum ?z_min ?z_max ?z_abs ?z_tuple ?z_list ?z_int ?z_sorted ?z_str ?z_bool ?z_isinstance ?z_range ?z_enumerate ?z_zip ?z_reversed ?z_set ?ga0 ?gl0 ?gv0 ?ga1 ?gv1 ?ga2 ?gv2
    (case a0 => k_is)
    (case l0 => k_is)
    (case c0 => k_is)
    (case k0 => k_is)
    (case a1 => k_is)
    (case l1 => k_is)
    (case c1 => k_is)
    (case k1 => k_is)
    (case a2 => k_is)
    (case l2 => k_is)
    (case c2 => k_is)
    (case k2 => k_is)
    (case a3 => k_is)
    (case l3 => k_is)
    (case c3 => k_is)
    (case k3 => k_is)
    (case a4 => k_is)
    (case l4 => k_is)
    (case c4 => k_is)
    (case k4 => k_is)
    (case a5 => k_is)
    (case l5 => k_is)
    (case c5 => k_is)
    (case k5 => k_is)
    (case a6 => k_is)
    (case l6 => k_is)
    (case c6 => k_is)
    (case k6 => k_is)
    (case a7 => k_is)
    (case l7 => k_is)
    (case c7 => k_is)
    (case k7 => k_is)
    (case a8 => k_is)
    (case l8 => k_is)
    (case c8 => k_is)
    (case k8 => k_is)
    (case a9 => k_is)
    (case l9 => k_is)
    (case c9 => k_is)
    (case k9 => k_is)
    (case a10 => k_is)
    (case l10 => k_is)
    (case c10 => k_is)
    (case k10 => k_is)
    (case a11 => k_is)
    (case l11 => k_is)
    (case c11 => k_is)
    (case k11 => k_is)
    (case a12 => k_is)
    (case l12 => k_is)
    (case c12 => k_is)
    (case k12 => k_is)
    (case a13 => k_is)
    (case l13 => k_is)
    (case c13 => k_is)
    (case k13 => k_is)
    (case a14 => k_is)
    (case l14 => k_is)
    (case c14 => k_is)
    (case k14 => k_is)
    (case a15 => k_is)
    (case l15 => k_is)
    (case c15 => k_is)
    (case k15 => k_is)
    (case a16 => k_is)
    (case l16 => k_is)
    (case c16 => k_is)
    (case k16 => k_is)
    (case a17 => k_is)
    (case l17 => k_is)
    (case c17 => k_is)
    (case k17 => k_is)
    (case a18 => k_is)
    (case l18 => k_is)
    (case c18 => k_is)
    (case k18 => k_is)
    (case a19 => k_is)
    (case l19 => k_is)
    (case c19 => k_is)
    (case k19 => k_is)
    (case a20 => k_is)
    (case l20 => k_is)
    (case c20 => k_is)
    (case k20 => k_is)
    (case a21 => k_is)
    (case l21 => k_is)
    (case c21 => k_is)
    (case k21 => k_is)
    (case a22 => k_is)
    (case l22 => k_is)
    (case c22 => k_is)
    (case k22 => k_is)
    (case a23 => k_is)
    (case l23 => k_is)
    (case c23 => k_is)
    (case k23 => k_is)
    (case a24 => k_is)
    (case l24 => k_is)
    (case c24 => k_is)
    (case k24 => k_is)
    (case a25 => k_is)
    (case l25 => k_is)
    (case c25 => k_is)
    (case k25 => k_is)
    (case a26 => k_is)
    (case l26 => k_is)
    (case c26 => k_is)
    (case k26 => k_is)
    (case a27 => k_is)
    (case l27 => k_is)
    (case c27 => k_is)
    (case k27 => k_is)
    (case a28 => k_is)
    (case l28 => k_is)
    (case c28 => k_is)
    (case k28 => k_is)
    (case a29 => k_is)
    (case l29 => k_is)
    (case c29 => k_is)
    (case k29 => k_is)
    (case a30 => k_is)
    (case l30 => k_is)
    (case c30 => k_is)
    (case k30 => k_is)
    (case a31 => k_is)
    (case l31 => k_is)
    (case c31 => k_is)
    (case k31 => k_is)
    (case a32 => k_is)
    (case l32 => k_is)
    (case c32 => k_is)
    (case k32 => k_is)
    (case a33 => k_is)
    (case l33 => k_is)
    (case c33 => k_is)
    (case k33 => k_is)
    (case a34 => k_is)
    (case l34 => k_is)
    (case c34 => k_is)
    (case k34 => k_is)
    (case a35 => k_is)
    (case l35 => k_is)
    (case c35 => k_is)
    (case k35 => k_is)
    (case a36 => k_is)
    (case l36 => k_is)
    (case c36 => k_is)
    (case k36 => k_is)
    (case a37 => k_is)
    (case l37 => k_is)
    (case c37 => k_is)
    (case k37 => k_is)
    (case a38 => k_is)
    (case l38 => k_is)
    (case c38 => k_is)
    (case k38 => k_is)
    (case a39 => k_is)
    (case l39 => k_is)
    (case c39 => k_is)
    (case k39 => k_is)
    (case a40 => k_is)
    (case l40 => k_is)
    (case c40 => k_is)
    (case k40 => k_is)
    (case a41 => k_is)
    (case l41 => k_is)
    (case c41 => k_is)
    (case k41 => k_is)
    (case a42 => k_is)
    (case l42 => k_is)
    (case c42 => k_is)
    (case k42 => k_is)
    (case a43 => k_is)
    (case l43 => k_is)
    (case c43 => k_is)
    (case k43 => k_is)
    (case a44 => k_is)
    (case l44 => k_is)
    (case c44 => k_is)
    (case k44 => k_is)
    (case z_len => k_is)
    (case z_all => k_is)
    (case z_any => k_is)
    (case z_sum => k_is)
    (case z_min => k_is)
    (case z_max => k_is)
    (case z_abs => k_is)
    (case z_tuple => k_is)
    (case z_list => k_is)
    (case z_int => k_is)
    (case z_sorted => k_is)
    (case z_str => k_is)
    (case z_bool => k_is)
    (case z_isinstance => k_is)
    (case z_range => k_is)
    (case z_enumerate => k_is)
    (case z_zip => k_is)
    (case z_reversed => k_is)
    (case z_set => k_is)
    (case ga0 => k_is)
    (case gl0 => k_is)
    (case gv0 => first | exact ⟨by decide, _, _, rfl, ⟨_, rfl⟩, _, _, rfl, ⟨_, rfl⟩, rfl⟩ | exact ⟨by decide, _, _, rfl, ⟨_, rfl⟩, _, _, rfl, ⟨_, rfl⟩, _, _, rfl, ⟨_, rfl⟩, rfl⟩ | exact ⟨_, rfl⟩ | rfl)
    (case ga1 => k_is)
    (case gv1 => first | exact ⟨by decide, _, _, rfl, ⟨_, rfl⟩, _, _, rfl, ⟨_, rfl⟩, rfl⟩ | exact ⟨by decide, _, _, rfl, ⟨_, rfl⟩, _, _, rfl, ⟨_, rfl⟩, _, _, rfl, ⟨_, rfl⟩, rfl⟩ | exact ⟨_, rfl⟩ | rfl)
    (case ga2 => k_is)
    (case gv2 => first | exact ⟨by decide, _, _, rfl, ⟨_, rfl⟩, _, _, rfl, ⟨_, rfl⟩, rfl⟩ | exact ⟨by decide, _, _, rfl, ⟨_, rfl⟩, _, _, rfl, ⟨_, rfl⟩, _, _, rfl, ⟨_, rfl⟩, rfl⟩ | exact ⟨_, rfl⟩ | rfl)
