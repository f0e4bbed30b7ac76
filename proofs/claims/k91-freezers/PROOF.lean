import PyProof.Rows.All
import Wide.All
import OpenK.AllK
import Wide.FinOn
import HandS.ForMost
import HandS.Wide
import HandS.IsInst
import HandS.Flow
import HandS.TupAny
import HandS.Deep
import HandS.TupMul
import HandS.TupLe
import HandS.SortOrd
import HandS.Style
import KE.GoesEnum
import HandS.Iter
import HandS.Zip
import HandS.Ends
import PySem.Challenge.RW_pantrykept_k91_whole_freezers
set_option Elab.async false
set_option linter.all false
set_option maxRecDepth 100000
set_option autoImplicit false
namespace Mini
open PySem L2
/-! A small evaluator over plain data: values by value, owned lists in slots. -/
abbrev D := PyData
inductive Sl where
  | no | v (d : D) | l (xs : List D) | bx (cs rs : List Int) | sc (ns : List Int)
abbrev En := List Sl
inductive Opd where
  | d (x : D) | s (i : Nat)
def Sl.frz : Sl → Option D
  | .v d => some d
  | .l xs => some (.list xs)
  | _ => none
def Sl.rd : Sl → Option D
  | .v d => some d
  | .l xs => some (.list xs)
  | _ => none
def Sl.isBx : Sl → Bool
  | .bx _ _ => true
  | _ => false
def Opd.get (env : En) : Opd → Option D
  | .d x => some x
  | .s i => (env[i]?).bind Sl.rd
inductive T where
  | nm (i : Nat) | tp (ts : List T)
inductive IK where
  | seq | rng | enum | zip | rev
inductive Ty where
  | int | bool | tuple | list | str
inductive Bl where
  | len | all | any | sum | min | max | abs | tuple | list | int | sorted | str
inductive Mt where
  | index
inductive E where
  | var (i : Nat) | cst (d : D)
  | bin (op : Operator) (a b : E) | neg (a : E)
  | cmp (op : CmpOp) (a b : E) | chn (op op2 : CmpOp) (a b c : E)
  | isn (ng : Bool) (a : E)
  | bop (o : BoolOp) (es : List E)
  | not (a : E)
  | ite (c a b : E)
  | tup (es : List E) | lst (es : List E)
  | idx (a i : E) | slc (a : E) (lo hi : List E)
  | call (f : Nat) (es : List E) | callB (f : Nat) (i : Nat) (es : List E) | callS (f : Nat) (i : Nat)
  | blt (b : Bl) (es : List E)
  | isi (a : E) (t : Ty)
  | lc (t : T) (k : IK) (its : List E) (cond : List E) (elt : E) (own : List Nat)
  | pop (i : Nat)
  | mth (m : Mt) (a e : E)
inductive C where
  | asg (t : T) (e : E)
  | seti (x : Nat) (i e : E)
  | aug (i : Nat) (op : Operator) (e : E)
  | augi (x : Nat) (i : E) (op : Operator) (e : E)
  | app (x : Nat) (e : E) | ext (x : Nat) (e : E)
  | expr (e : E)
  | ret (e : E)
  | ife (c : E) (a b : List C)
  | wh (c : E) (b : List C)
  | fr (t : T) (k : IK) (its : List E) (b : List C)
  | brk | cont | pass | never
inductive Out where
  | nx (e : En) | rt (s : Sl) (e : En) | bk (e : En) | ct (e : En)
structure M where
  val : En → Option (Sl × En)
  opd : En → Option (Opd × En)
  tst : En → Option (Bool × En)
/-! data -/
def truth : D → Option Bool
  | .none => some false
  | .bool b => some b
  | .int i => some (i != 0)
  | .str s => if s.length ≤ sizeLine then some ((s.length : Int) != 0) else none
  | .list xs => some !xs.isEmpty
  | .tuple xs => some !xs.isEmpty
  | .dict _ => none
def mulOk (i j : Int) : Prop := i.natAbs.log2 + j.natAbs.log2 < 1000000 ∨ CMul i j
instance (i j : Int) : Decidable (CMul i j) := by unfold CMul; infer_instance
instance (i j : Int) : Decidable (mulOk i j) := by unfold mulOk; infer_instance
def divOk (j : Int) : Prop := 0 < j ∧ j.natAbs.log2 < 9000
instance (j : Int) : Decidable (divOk j) := by unfold divOk; infer_instance
def powOk (i j : Int) : Prop := 0 ≤ j ∧ j ≤ 1000000 ∧ i.natAbs < 2 ^ 64
instance (i j : Int) : Decidable (powOk i j) := by unfold powOk; infer_instance
def binD : Operator → D → D → Option Sl
  | .Add, .int i, .int j => some (.v (.int (i + j)))
  | .Add, .str i, .str j => if i.length + j.length ≤ sizeLine then some (.v (.str (i ++ j))) else none
  | .Add, .tuple xs, .tuple ys => if xs.length + ys.length ≤ sizeLine then some (.v (.tuple (xs ++ ys))) else none
  | .Add, .list xs, .list ys => if xs.length + ys.length ≤ sizeLine then some (.l (xs ++ ys)) else none
  | .Sub, .int i, .int j => some (.v (.int (i - j)))
  | .Mult, .int i, .int j => if mulOk i j then some (.v (.int (i * j))) else none
  | .Mult, .list xs, .int k => if -(2 ^ 63) ≤ k ∧ k < 2 ^ 63 ∧ xs.length * k.toNat ≤ sizeLine then some (.l (List.replicate k.toNat xs).flatten) else none
  | .Mult, .tuple xs, .int k => if xs ≠ [] ∧ 2 ≤ k ∧ k ≤ 1000 ∧ xs.length ≤ 1000 then some (.v (.tuple (List.replicate k.toNat xs).flatten)) else none
  | .FloorDiv, .int i, .int j => if divOk j then some (.v (.int (i / j))) else none
  | .Mod, .int i, .int j => if 0 < j then some (.v (.int (i % j))) else none
  | .Pow, .int i, .int j => if powOk i j then some (.v (.int (i ^ j.toNat))) else none
  | _, _, _ => none
def augD : Operator → D → D → Option Sl
  | .Add, .int i, .int j => some (.v (.int (i + j)))
  | .Sub, .int i, .int j => some (.v (.int (i - j)))
  | .Mult, .int i, .int j => if CMul i j then some (.v (.int (i * j))) else none
  | _, _, _ => none
def negD : D → Option Sl
  | .int i => some (.v (.int (-i)))
  | _ => none
def b2s (b : Bool) : Option Sl := some (.v (.bool b))
def cmpD : CmpOp → D → D → Option Sl
  | .Eq, a, b => if SeqAt.shaped a = true ∧ SeqAt.shaped b = true then b2s (PyData.eqv a b) else none
  | .NotEq, a, b => if SeqAt.shaped a = true ∧ SeqAt.shaped b = true then b2s (!PyData.eqv a b) else none
  | .Lt, .int i, .int j => b2s (decide (i < j))
  | .LtE, .int i, .int j => b2s (decide (i ≤ j))
  | .Gt, .int i, .int j => b2s (decide (j < i))
  | .GtE, .int i, .int j => b2s (decide (j ≤ i))
  | .In, a, .list ds => if SeqAt.shaped a = true ∧ SeqAt.shaped (.list ds) = true then b2s (ds.any fun z => PyData.eqv z a) else none
  | .NotIn, a, .list ds => if SeqAt.shaped a = true ∧ SeqAt.shaped (.list ds) = true then b2s (!ds.any fun z => PyData.eqv z a) else none
  | _, _, _ => none
def isnD (ng : Bool) : D → Option Sl
  | .none => b2s (!ng)
  | _ => b2s ng
def idxD : D → D → Option Sl
  | .list xs, .int i => (atI xs i).map .v
  | .tuple xs, .int i => (atI xs i).map .v
  | _, _ => none
def cutD (xs : List D) (lo hi : Option Int) : List D := (xs.drop (HT.sIx xs.length 0 lo)).take (HT.sIx xs.length xs.length hi - HT.sIx xs.length 0 lo)
def slcD : D → Option Int → Option Int → Option Sl
  | .list xs, lo, hi => some (.l (cutD xs lo hi))
  | .tuple xs, lo, hi => some (.v (.tuple (cutD xs lo hi)))
  | _, _, _ => none
def isiD : D → Ty → Bool
  | .int _, .int => true
  | .bool _, .int => true
  | .bool _, .bool => true
  | .tuple _, .tuple => true
  | .list _, .list => true
  | .str _, .str => true
  | _, _ => false
def intsL : List D → Option (List Int)
  | [] => some []
  | .int i :: r => (intsL r).map (i :: ·)
  | _ => none
def boolsL : List D → Option (List Bool)
  | [] => some []
  | .bool i :: r => (boolsL r).map (i :: ·)
  | _ => none
def maxL : List Int → Option Int
  | [] => none
  | x :: r => some (r.foldl max x)
def minL : List Int → Option Int
  | [] => none
  | x :: r => some (r.foldl min x)
def bltD : Bl → List D → Option Sl
  | .len, [.list xs] => some (.v (.int xs.length))
  | .len, [.tuple xs] => some (.v (.int xs.length))
  | .len, [.str s] => if s.length ≤ sizeLine then some (.v (.int s.length)) else none
  | .all, [.list xs] => (boolsL xs).map fun bs => .v (.bool (bs.all id))
  | .any, [.list xs] => (boolsL xs).map fun bs => .v (.bool (bs.any id))
  | .sum, [.list xs] => (intsL xs).map fun is => .v (.int is.sum)
  | .max, [.list xs] => (intsL xs).bind fun is => (maxL is).map fun m => .v (.int m)
  | .min, [.list xs] => (intsL xs).bind fun is => (minL is).map fun m => .v (.int m)
  | .max, [.int i, .int j] => some (.v (.int (if j > i then j else i)))
  | .min, [.int i, .int j] => some (.v (.int (if j < i then j else i)))
  | .abs, [.int i] => some (.v (.int (if i < 0 then -i else i)))
  | .int, [.int i] => some (.v (.int i))
  | .tuple, [.list xs] => some (.v (.tuple xs))
  | .tuple, [.tuple xs] => some (.v (.tuple xs))
  | .list, [.list xs] => some (.l xs)
  | .list, [.tuple xs] => some (.l xs)
  | _, _ => none
def rngOk (i : Int) : Prop := -(2 ^ 62) ≤ i ∧ i < 2 ^ 62
instance (j : Int) : Decidable (rngOk j) := by unfold rngOk; infer_instance
def rngL (lo : Int) (n : Nat) : List D := (List.range n).map fun (i : Nat) => .int (lo + i)
def enumL (xs : List D) (k : Nat) : List D := match xs with
  | [] => []
  | x :: r => .tuple [.int k, x] :: enumL r (k + 1)
def zipL : List D → List D → List D
  | x :: xs, y :: ys => .tuple [x, y] :: zipL xs ys
  | _, _ => []
def itemsOf : IK → List D → Option (List D)
  | .seq, [.list xs] => some xs
  | .seq, [.tuple xs] => some xs
  | .rng, [.int n] => if rngOk n ∧ n ≤ sizeLine then some (rngL 0 n.toNat) else none
  | .rng, [.int a, .int b] => if rngOk a ∧ rngOk b ∧ b - a ≤ sizeLine then some (rngL a (b - a).toNat) else none
  | .enum, [.list xs] => some (enumL xs 0)
  | .enum, [.tuple xs] => some (enumL xs 0)
  | .zip, [.list xs, .list ys] => some (zipL xs ys)
  | .zip, [.tuple xs, .tuple ys] => some (zipL xs ys)
  | .rev, [.list xs] => some xs.reverse
  | _, _ => none
/-! environments -/
def setS (i : Nat) (s : Sl) (env : En) : Option En := match env[i]? with
  | none => none
  | some (.bx _ _) => none
  | some _ => some (env.set i s)
mutual
def asgT : T → D → En → Option En
  | .nm i, d, env => setS i (.v d) env
  | .tp ts, .tuple ds, env => asgTs ts ds env
  | .tp _, _, _ => none
def asgTs : List T → List D → En → Option En
  | [], [], env => some env
  | t :: ts, d :: ds, env => (asgT t d env).bind (asgTs ts ds)
  | _, _, _ => none
end
def wipeE (env : En) : List Nat → En
  | [] => env
  | v :: vs => (wipeE env vs).set v .no
def frzM (f : En → Option (Sl × En)) (env : En) : Option (D × En) := (f env).bind fun (s, e1) => s.frz.map fun d => (d, e1)
def trM (g : En → Option (Opd × En)) (env : En) : Option (Bool × En) := (g env).bind fun (p, e1) => (p.get e1).bind fun d => (truth d).map fun b => (b, e1)
def M.ofVal (f : En → Option (Sl × En)) : M :=
  { val := f
    opd := fun env => (frzM f env).map fun (d, e1) => (.d d, e1)
    tst := trM fun env => (frzM f env).map fun (d, e1) => (.d d, e1) }
def varM (i : Nat) : M :=
  let o : En → Option (Opd × En) := fun env => match env[i]? with
    | some (.v d) => some (.d d, env)
    | some (.l _) => some (.s i, env)
    | _ => none
  { val := fun env => match env[i]? with
      | some (.v d) => some (.v d, env)
      | some (.l xs) => some (.v (.list xs), env.set i (.v (.list xs)))
      | _ => none
    opd := o
    tst := trM o }
def op1 (f : D → Option Sl) (a : M) : M := .ofVal fun env => (a.opd env).bind fun (p, e1) => (p.get e1).bind fun x => (f x).map fun r => (r, e1)
def op2 (f : D → D → Option Sl) (a b : M) : M := .ofVal fun env => (a.opd env).bind fun (p, e1) => (b.opd e1).bind fun (q, e2) => (p.get e2).bind fun x => (q.get e2).bind fun y => (f x y).map fun r => (r, e2)
def bOf : Sl → Option Bool
  | .v (.bool b) => some b
  | _ => none
/-- a comparison as a test -/
def M.cmp (f : En → Option (Sl × En)) : M := { M.ofVal f with tst := fun env => (f env).bind fun (s, e1) => (bOf s).map fun b => (b, e1) }
def cmpM (op : CmpOp) (a b : M) : M := .cmp (op2 (cmpD op) a b).val
def chnM (op op2 : CmpOp) (a b c : M) : M := .cmp fun env => (a.opd env).bind fun (p, e1) => (b.opd e1).bind fun (q, e2) => (p.get e2).bind fun x => (q.get e2).bind fun y =>
  (cmpD op x y).bind fun r => (bOf r).bind fun k => if k then (c.opd e2).bind fun (t, e3) => (q.get e3).bind fun y2 => (t.get e3).bind fun z => (cmpD op2 y2 z).map fun r2 => (r2, e3) else some (.v (.bool false), e2)
def isnM (ng : Bool) (a : M) : M := .cmp (op1 (isnD ng) a).val
def notM (a : M) : M :=
  { M.ofVal (fun env => (trM a.opd env).map fun (b, e1) => (.v (.bool !b), e1)) with tst := fun env => (a.tst env).map fun (b, e1) => (!b, e1) }
def isAnd : BoolOp → Bool
  | .And => true
  | .Or => false
def bopV (o : BoolOp) : List M → En → Option (D × En)
  | [], _ => none
  | [a], env => frzM a.val env
  | a :: r, env => (frzM a.val env).bind fun (d, e1) => (truth d).bind fun k => if k == isAnd o then bopV o r e1 else some (d, e1)
def bopT (o : BoolOp) : List M → En → Option (Bool × En)
  | [], _ => none
  | [a], env => a.tst env
  | a :: r, env => (a.tst env).bind fun (k, e1) => if k == isAnd o then bopT o r e1 else some (k, e1)
def bopM (o : BoolOp) (es : List M) : M := { M.ofVal (fun env => (bopV o es env).map fun (d, e1) => (.v d, e1)) with tst := bopT o es }
def iteM (c a b : M) : M := { M.ofVal (fun env => (c.tst env).bind fun (k, e1) => if k then a.val e1 else b.val e1) with tst := fun env => (c.tst env).bind fun (k, e1) => if k then a.tst e1 else b.tst e1 }
/-- arguments, frozen, from the left -/
def argsM : List M → En → Option (List D × En)
  | [], env => some ([], env)
  | a :: r, env => (frzM a.val env).bind fun (d, e1) => (argsM r e1).map fun (ds, e2) => (d :: ds, e2)
/-- operands, looked at -/
def opsM : List M → En → Option (List Opd × En)
  | [], env => some ([], env)
  | a :: r, env => (a.opd env).bind fun (p, e1) => (opsM r e1).map fun (ps, e2) => (p :: ps, e2)
def gets (env : En) : List Opd → Option (List D)
  | [] => some []
  | p :: r => (p.get env).bind fun d => (gets env r).map (d :: ·)
def tupM (es : List M) : M := .ofVal fun env => (argsM es env).bind fun (ds, e1) => if ds.length ≤ sizeLine then some (.v (.tuple ds), e1) else none
def lstM (es : List M) : M := .ofVal fun env => (argsM es env).bind fun (ds, e1) => if ds.length ≤ sizeLine then some (.l ds, e1) else none
def bltM (b : Bl) (es : List M) : M := .ofVal fun env => (opsM es env).bind fun (ps, e1) => (gets e1 ps).bind fun ds => (bltD b ds).map fun r => (r, e1)
def partM : List M → En → Option (Option Int × En)
  | [], env => some (none, env)
  | [a], env => (a.opd env).bind fun (p, e1) => (p.get e1).bind fun d => match d with
    | .int i => some (some i, e1)
    | _ => none
  | _, _ => none
def slcM (a : M) (lo hi : List M) : M := .ofVal fun env => (a.opd env).bind fun (p, e1) => (partM lo e1).bind fun (l, e2) => (partM hi e2).bind fun (h, e3) => (p.get e3).bind fun x => (slcD x l h).map fun r => (r, e3)
abbrev Ph := Nat → List Sl → Option (Sl × List Sl)
def retOf (P : Ph) (f : Nat) (as : List Sl) : Option Sl := (P f as).map fun r => r.1
def retB (P : Ph) (f : Nat) (as : List Sl) : Option (Sl × Sl) := (P f as).bind fun r => match r.2 with
  | b :: _ => some (r.1, b)
  | [] => none
def callM (P : Ph) (f : Nat) (es : List M) : M := .ofVal fun env => (argsM es env).bind fun (ds, e1) => (retOf P f (ds.map .v)).map fun r => (r, e1)
def callSM (P : Ph) (f : Nat) (i : Nat) : M := .ofVal fun env => match env[i]? with
  | some (.sc ns) => (retOf P f [.sc ns]).map fun r => (r, env)
  | _ => none
def isB : Option Sl → Bool
  | some (.bx _ _) => true
  | _ => false
def callBM (P : Ph) (f : Nat) (i : Nat) (es : List M) : M := .ofVal fun env => if isB env[i]? then (argsM es env).bind fun (ds, e1) => match e1[i]? with
  | some (.bx cs rs) => (retB P f (.bx cs rs :: ds.map .v)).bind fun (r, b) => match b with
    | .bx cs2 rs2 => some (r, e1.set i (.bx cs2 rs2))
    | _ => none
  | _ => none else none
def stillB (e0 : En) (e1 : En) : List Opd → Prop
  | [] => True
  | .d _ :: r => stillB e0 e1 r
  | .s i :: r => e1[i]? = e0[i]? ∧ stillB e0 e1 r
def condM : List M → En → Option (Bool × En)
  | [], env => some (true, env)
  | [c], env => c.tst env
  | _, _ => none
open Classical in
noncomputable def lcLoop (t : T) (cond : List M) (elt : M) (own : List Nat) (ps : List Opd) (e0 : En) : List D → En → Option (List D × En)
  | [], env => some ([], env)
  | x :: xs, env => (asgT t x env).bind fun e1 => (condM cond e1).bind fun (b, e2) =>
      if b then (frzM elt.val e2).bind fun (d, e3) => if stillB e0 (wipeE e3 own) ps then (lcLoop t cond elt own ps e0 xs (wipeE e3 own)).map fun (r, e4) => (d :: r, e4) else none
      else if stillB e0 (wipeE e2 own) ps then lcLoop t cond elt own ps e0 xs (wipeE e2 own) else none
/-- the outer names that a comprehension's own hid -/
def restE (e1 e2 : En) : List Nat → En
  | [] => e2
  | i :: r => match e1[i]? with
    | some (.v d) => (restE e1 e2 r).set i (.v d)
    | _ => restE e1 e2 r
open Classical in
noncomputable def lcM (t : T) (k : IK) (its cond : List M) (elt : M) (own : List Nat) : M := .ofVal fun env => (opsM its env).bind fun (ps, e1) => (gets e1 ps).bind fun ds => (itemsOf k ds).bind fun xs =>
  if stillB e1 (wipeE e1 own) ps then (lcLoop t cond elt own ps e1 xs (wipeE e1 own)).map fun (r, e2) => (.l r, restE e1 e2 own) else none
def popM (i : Nat) : M := .ofVal fun env => match env[i]? with
  | some (.l xs) => match xs.getLast? with
    | some d => some (.v d, env.set i (.l xs.dropLast))
    | none => none
  | _ => none
def idxOf (d : D) : List D → Nat → Option Nat
  | [], _ => none
  | x :: xs, k => if PyData.eqv x d then some k else idxOf d xs (k + 1)
def mthD : Mt → D → D → Option Sl
  | .index, .list xs, d => if SeqAt.shaped (.list xs) = true ∧ SeqAt.shaped d = true then (idxOf d xs 0).map fun (k : Nat) => .v (.int k) else none
  | _, _, _ => none
def isLst : D → Bool
  | .list _ => true
  | _ => false
def mthM (m : Mt) (a b : M) : M := .ofVal fun env => (a.opd env).bind fun (p, e1) => (p.get e1).bind fun x0 => if isLst x0 then (b.opd e1).bind fun (q, e2) => (p.get e2).bind fun x => (q.get e2).bind fun y => (mthD m x y).map fun r => (r, e2) else none
mutual
noncomputable def ev (P : Ph) : E → M
  | .var i => varM i
  | .cst d => .ofVal fun env => some (.v d, env)
  | .bin op a b => op2 (binD op) (ev P a) (ev P b)
  | .neg a => op1 negD (ev P a)
  | .cmp op a b => cmpM op (ev P a) (ev P b)
  | .chn op op2 a b c => chnM op op2 (ev P a) (ev P b) (ev P c)
  | .isn ng a => isnM ng (ev P a)
  | .bop o es => bopM o (evs P es)
  | .not a => notM (ev P a)
  | .ite c a b => iteM (ev P c) (ev P a) (ev P b)
  | .tup es => tupM (evs P es)
  | .lst es => lstM (evs P es)
  | .idx a i => op2 idxD (ev P a) (ev P i)
  | .slc a lo hi => slcM (ev P a) (evs P lo) (evs P hi)
  | .call f es => callM P f (evs P es)
  | .callB f i es => callBM P f i (evs P es)
  | .callS f i => callSM P f i
  | .blt b es => bltM b (evs P es)
  | .isi a t => .cmp (op1 (fun d => some (.v (.bool (isiD d t)))) (ev P a)).val
  | .lc t k its cond elt own => lcM t k (evs P its) (evs P cond) (ev P elt) own
  | .pop i => popM i
  | .mth m a e => mthM m (ev P a) (ev P e)
noncomputable def evs (P : Ph) : List E → List M
  | [] => []
  | e :: es => ev P e :: evs P es
end
/-! statements -/
def Out.bind (o : Option Out) (f : En → Option Out) : Option Out := o.bind fun r => match r with
  | .nx e => f e
  | r => some r
/-- while, in at most n turns -/
def whN (c : En → Option (Bool × En)) (b : En → Option Out) : Nat → En → Option Out
  | 0, _ => none
  | n + 1, env => (c env).bind fun (k, e1) => if k then (b e1).bind fun r => match r with
      | .nx e2 => whN c b n e2
      | .ct e2 => whN c b n e2
      | .bk e2 => some (.nx e2)
      | .rt s e2 => some (.rt s e2)
    else some (.nx e1)
open Classical in
noncomputable def whC (c : En → Option (Bool × En)) (b : En → Option Out) (env : En) : Option Out :=
  if h : ∃ n r, whN c b n env = some r then some h.choose_spec.choose else none
def frL (t : T) (b : En → Option Out) : List D → En → Option Out
  | [], env => some (.nx env)
  | x :: xs, env => (asgT t x env).bind fun e1 => (b e1).bind fun r => match r with
      | .nx e2 => frL t b xs e2
      | .ct e2 => frL t b xs e2
      | .bk e2 => some (.nx e2)
      | .rt s e2 => some (.rt s e2)
/-- an operand frozen -/
def frO (m : M) : M := { m with opd := fun env => (frzM m.val env).map fun (d, e1) => (.d d, e1) }
def appS (x : Nat) (d : D) (env : En) : Option Out := match env[x]? with
  | some (.l xs) => if xs.length < sizeLine then some (.nx (env.set x (.l (xs ++ [d])))) else none
  | _ => none
def extS (x : Nat) (d : D) (env : En) : Option Out := match env[x]?, d with
  | some (.l xs), .list ys => if xs.length + ys.length ≤ sizeLine then some (.nx (env.set x (.l (xs ++ ys)))) else none
  | _, _ => none
def setiS (x : Nat) (i : D) (d : D) (env : En) : Option Out := match env[x]?, i with
  | some (.l xs), .int k => (ixN xs.length k).map fun j => .nx (env.set x (.l (xs.set j d)))
  | _, _ => none
def isL : Option Sl → Bool
  | some (.l _) => true
  | _ => false
mutual
noncomputable def ex (P : Ph) : C → En → Option Out
  | .asg (.nm i) e, env => ((ev P e).val env).bind fun (s, e1) => (setS i s e1).map .nx
  | .asg t e, env => (frzM (ev P e).val env).bind fun (d, e1) => (asgT t d e1).map .nx
  | .seti x i e, env => (frzM (ev P e).val env).bind fun (d, e1) => if isL e1[x]? then ((ev P i).opd e1).bind fun (p, e2) => (p.get e2).bind fun k => setiS x k d e2 else none
  | .aug i op e, env => match env[i]? with
    | some (.v a) => (frzM (ev P e).val env).bind fun (d, e1) => (augD op a d).bind fun r => (setS i r e1).map .nx
    | _ => none
  | .augi x i op e, env => if isL env[x]? then ((ev P i).opd env).bind fun (p, e1) => (p.get e1).bind fun k => match e1[x]?, k with
    | some (.l xs), .int n => (atI xs n).bind fun old => (frzM (ev P e).val e1).bind fun (d, e2) => (augD op old d).bind fun r => r.frz.bind fun z => setiS x k z e2
    | _, _ => none else none
  | .app x e, env => if isL env[x]? then (frzM (ev P e).val env).bind fun (d, e1) => appS x d e1 else none
  | .ext x e, env => if isL env[x]? then (frzM (ev P e).val env).bind fun (d, e1) => extS x d e1 else none
  | .expr e, env => ((ev P e).val env).map fun (_, e1) => .nx e1
  | .ret e, env => ((ev P e).val env).map fun (s, e1) => .rt s e1
  | .ife c a b, env => ((ev P c).tst env).bind fun (k, e1) => if k then exs P a e1 else exs P b e1
  | .wh c b, env => whC (ev P c).tst (exs P b) env
  | .fr t k its b, env => (opsM ((evs P its).map frO) env).bind fun (ps, e1) => (gets e1 ps).bind fun ds => (itemsOf k ds).bind fun xs => frL t (exs P b) xs e1
  | .brk, env => some (.bk env)
  | .cont, env => some (.ct env)
  | .pass, env => some (.nx env)
  | .never, _ => none
noncomputable def exs (P : Ph) : List C → En → Option Out
  | [], env => some (.nx env)
  | c :: cs, env => (ex P c env).bind fun r => match r with
    | .nx e1 => exs P cs e1
    | .rt s e1 => some (.rt s e1)
    | .bk e1 => some (.bk e1)
    | .ct e1 => some (.ct e1)
end
inductive Fn where
  | user (b : Bool) (p n : Nat) (body : List C)
  | prim (m : Nat) (g : List Sl → Option (Sl × List Sl))
def hasBx : List Sl → Bool
  | .bx _ _ :: _ => true
  | _ => false
noncomputable def runB (P : Ph) (b : Bool) (p n : Nat) (body : List C) (as : List Sl) : Option (Sl × List Sl) :=
  if as.length = p ∧ hasBx as = b then (exs P body (as ++ List.replicate (n - p) .no)).bind fun r => match r with
    | .nx e => some (.v .none, e)
    | .rt s e => some (s, e)
    | _ => none
  else none
noncomputable def callN (tb : Nat → Option Fn) : Nat → Ph
  | 0 => fun _ _ => none
  | d + 1 => fun f as => match tb f with
    | some (.user b p n body) => runB (callN tb d) b p n body as
    | some (.prim m g) => if m ≤ d then g as else none
    | none => none
end Mini

namespace Mini
open PySem L2
abbrev Own := Addr → Prop
mutual
def RepD (K : PySem.W.Frag) (O : Own) (H : Hp) : D → V → Prop
  | .none, v => v = .non
  | .bool b, v => v = .bl b
  | .int i, v => v = .int i
  | .str s, v => v = .str s
  | .tuple ds, v => ∃ a vs, v = .ref a ∧ SqT K H a vs ∧ RepDs K O H ds vs
  | .list ds, v => ∃ a vs, v = .ref a ∧ H a = some (.lst vs) ∧ ¬ O a ∧ RepDs K O H ds vs
  | .dict _, _ => False
def RepDs (K : PySem.W.Frag) (O : Own) (H : Hp) : List D → List V → Prop
  | [], vs => vs = []
  | d :: ds, vs => ∃ v r, vs = v :: r ∧ RepD K O H d v ∧ RepDs K O H ds r
end
def OwnOk (O : Own) (H : Hp) : Prop := ∀ b, O b → ∃ xs, H b = some (.lst xs)
/-- what stays as it is -/
structure Evo (O : Own) (H : Hp) (O' : Own) (H' : Hp) : Prop where
  own : OwnOk O H
  keepH : ∀ b o, H b = some o → ¬ O b → H' b = some o
  newO : ∀ b, O' b → O b ∨ H b = none
  there : ∀ b, H b ≠ none → H' b ≠ none
theorem Rd.evo {O O' : Own} {H H' : Hp} (e : Evo O H O' H') {a : Addr} {u : HO} (r : Rd H a u) (hn : ¬ O a) : Rd H' a u := by
  rcases r with r | ⟨o, r⟩
  · exact .inl (e.keepH a _ r hn)
  · exact .inr ⟨o, e.keepH a _ r hn⟩
theorem SqT.evo {K : PySem.W.Frag} {O O' : Own} {H H' : Hp} (e : Evo O H O' H') {a : Addr} {xs : List V} (r : SqT K H a xs) : SqT K H' a xs := by
  rcases r with r | r
  · refine .inl (Rd.evo e r fun ho => ?_)
    obtain ⟨ys, h⟩ := e.own a ho
    rcases r with r | ⟨o, r⟩ <;> (rw [h] at r; cases r)
  · exact .inr r
mutual
theorem RepD.evo {K : PySem.W.Frag} {O O' : Own} {H H' : Hp} (e : Evo O H O' H') : ∀ (d : D) (v : V), RepD K O H d v → RepD K O' H' d v
  | .none, v, h => h
  | .bool _, v, h => h
  | .int _, v, h => h
  | .str _, v, h => h
  | .tuple ds, v, h => by
    simp only [RepD] at h ⊢
    obtain ⟨a, vs, rfl, h1, h2⟩ := h
    exact ⟨a, vs, rfl, SqT.evo e h1, RepDs.evo e ds vs h2⟩
  | .list ds, v, h => by
    simp only [RepD] at h ⊢
    obtain ⟨a, vs, rfl, h1, h3, h2⟩ := h
    refine ⟨a, vs, rfl, e.keepH _ _ h1 h3, fun ho => ?_, RepDs.evo e ds vs h2⟩
    rcases e.newO a ho with z | z
    · exact h3 z
    · rw [z] at h1; cases h1
  | .dict _, v, h => h
theorem RepDs.evo {K : PySem.W.Frag} {O O' : Own} {H H' : Hp} (e : Evo O H O' H') : ∀ (ds : List D) (vs : List V), RepDs K O H ds vs → RepDs K O' H' ds vs
  | [], vs, h => h
  | d :: ds, vs, h => by
    simp only [RepDs] at h ⊢
    obtain ⟨v, r, rfl, h1, h2⟩ := h
    exact ⟨v, r, rfl, RepD.evo e d v h1, RepDs.evo e ds r h2⟩
end
section
variable {K : PySem.W.Frag} {O O' : Own} {H H' : Hp}
theorem RepDs.length : ∀ {ds : List D} {vs : List V}, RepDs K O H ds vs → ds.length = vs.length
  | [], vs, h => by simp only [RepDs] at h; rw [h]; rfl
  | d :: ds, vs, h => by
    simp only [RepDs] at h
    obtain ⟨v, r, rfl, h1, h2⟩ := h
    simp [RepDs.length h2]
theorem RepDs.get : ∀ {ds : List D} {vs : List V} {i : Nat} {d : D}, RepDs K O H ds vs → ds[i]? = some d → ∃ v, vs[i]? = some v ∧ RepD K O H d v
  | [], _, i, d, _, e => by simp at e
  | x :: ds, vs, i, d, h, e => by
    simp only [RepDs] at h
    obtain ⟨v, r, rfl, h1, h2⟩ := h
    cases i with
    | zero => simp at e; subst e; exact ⟨v, by simp, h1⟩
    | succ i => simpa using RepDs.get (i := i) h2 (by simpa using e)
theorem RepDs.append : ∀ {ds es : List D} {vs us : List V}, RepDs K O H ds vs → RepDs K O H es us → RepDs K O H (ds ++ es) (vs ++ us)
  | [], es, vs, us, h, g => by simp only [RepDs] at h; subst h; exact g
  | d :: ds, es, vs, us, h, g => by
    simp only [RepDs, List.cons_append] at h ⊢
    obtain ⟨v, r, rfl, h1, h2⟩ := h
    exact ⟨v, r ++ us, rfl, h1, RepDs.append h2 g⟩
theorem RepDs.set : ∀ {ds : List D} {vs : List V} {d : D} {v : V} (j : Nat), RepDs K O H ds vs → RepD K O H d v → RepDs K O H (ds.set j d) (vs.set j v)
  | [], vs, d, v, j, h, g => by simp only [RepDs] at h; subst h; simp [RepDs]
  | x :: ds, vs, d, v, j, h, g => by
    simp only [RepDs] at h
    obtain ⟨y, r, rfl, h1, h2⟩ := h
    cases j with
    | zero => exact ⟨v, r, rfl, g, h2⟩
    | succ j => exact ⟨y, r.set j v, rfl, h1, RepDs.set j h2 g⟩
theorem RepDs.drop : ∀ {ds : List D} {vs : List V} (n : Nat), RepDs K O H ds vs → RepDs K O H (ds.drop n) (vs.drop n)
  | ds, vs, 0, h => by simpa using h
  | [], vs, n + 1, h => by simp only [RepDs] at h; subst h; simp [RepDs]
  | d :: ds, vs, n + 1, h => by
    simp only [RepDs] at h
    obtain ⟨y, r, rfl, h1, h2⟩ := h
    simpa using RepDs.drop n h2
theorem RepDs.take : ∀ {ds : List D} {vs : List V} (n : Nat), RepDs K O H ds vs → RepDs K O H (ds.take n) (vs.take n)
  | ds, vs, 0, h => by simp [RepDs]
  | [], vs, n + 1, h => by simp only [RepDs] at h; subst h; simp [RepDs]
  | d :: ds, vs, n + 1, h => by
    simp only [RepDs] at h
    obtain ⟨y, r, rfl, h1, h2⟩ := h
    exact ⟨y, r.take n, rfl, h1, RepDs.take n h2⟩
theorem RepDs.flat : ∀ {ds : List D} {vs : List V} (n : Nat), RepDs K O H ds vs → RepDs K O H (List.replicate n ds).flatten (List.replicate n vs).flatten
  | ds, vs, 0, h => by simp [RepDs]
  | ds, vs, n + 1, h => by
    simp only [List.replicate_succ, List.flatten_cons]
    exact RepDs.append h (RepDs.flat n h)
theorem RepDs.ints : ∀ (ns : List Int), RepDs K O H (ns.map PyData.int) (ns.map V.int)
  | [] => by simp [RepDs]
  | n :: ns => ⟨.int n, _, rfl, rfl, RepDs.ints ns⟩
theorem RepDs.intsOf : ∀ {ds : List D} {vs : List V} {ns : List Int}, RepDs K O H ds vs → intsL ds = some ns → vs = ns.map V.int
  | [], vs, ns, h, e => by simp only [RepDs] at h; subst h; simp [intsL] at e; subst e; rfl
  | d :: ds, vs, ns, h, e => by
    simp only [RepDs] at h
    obtain ⟨v, r, rfl, h1, h2⟩ := h
    cases d with
    | int i =>
      simp only [intsL, Option.map_eq_some_iff] at e
      obtain ⟨m, e1, rfl⟩ := e
      simp only [RepD] at h1
      subst h1
      rw [RepDs.intsOf h2 e1]; rfl
    | _ => simp [intsL] at e
theorem RepDs.boolsOf : ∀ {ds : List D} {vs : List V} {ns : List Bool}, RepDs K O H ds vs → boolsL ds = some ns → vs = ns.map V.bl
  | [], vs, ns, h, e => by simp only [RepDs] at h; subst h; simp [boolsL] at e; subst e; rfl
  | d :: ds, vs, ns, h, e => by
    simp only [RepDs] at h
    obtain ⟨v, r, rfl, h1, h2⟩ := h
    cases d with
    | bool i =>
      simp only [boolsL, Option.map_eq_some_iff] at e
      obtain ⟨m, e1, rfl⟩ := e
      simp only [RepD] at h1
      subst h1
      rw [RepDs.boolsOf h2 e1]; rfl
    | _ => simp [boolsL] at e
end
/-- the script's list -/
def ScL (K : PySem.W.Frag) (H : Hp) (a : Addr) (xs : List V) : Prop := (∃ o, H a = some (.frz o (.lst xs))) ∨
    ∃ (o : Obj) (its : Array Value) (n : Nat), K.lookup a = some o ∧ o.cls = .type "list" ∧ o.dict = none ∧ o.data = .seq its n ∧ its.size ≤ sizeLine ∧ Vals xs its.toList
theorem ScL.evo {K : PySem.W.Frag} {O O' : Own} {H H' : Hp} (e : Evo O H O' H') {a : Addr} {xs : List V} (r : ScL K H a xs) : ScL K H' a xs := by
  rcases r with ⟨o, r⟩ | r
  · refine .inl ⟨o, e.keepH _ _ r fun ho => ?_⟩
    obtain ⟨ys, h⟩ := e.own a ho
    rw [h] at r; cases r
  · exact .inr r
theorem ScL.sq {K : PySem.W.Frag} {H : Hp} {a : Addr} {xs : List V} (r : ScL K H a xs) : SqL K H a xs := by
  rcases r with ⟨o, r⟩ | r
  · exact .inl (.inr ⟨o, r⟩)
  · exact .inr r
/-- a slot's (or a result's) content -/
def RepS (K : PySem.W.Frag) (O : Own) (H : Hp) : Sl → V → Prop
  | .no, _ => True
  | .v d, v => RepD K O H d v
  | .l xs, v => ∃ a vs, v = .ref a ∧ H a = some (.lst vs) ∧ O a ∧ RepDs K O H xs vs
  | .sc ns, v => ∃ a, v = .ref a ∧ ScL K H a (ns.map V.int)
  | .bx cs rs, v => ∃ a c, v = .ref a ∧ H a = some (.lst (.ref c :: rs.map V.int)) ∧ H c = some (.lst (cs.map V.int)) ∧ O a ∧ O c
/-- the addresses it owns -/
def Fp (H : Hp) : Sl → V → Addr → Prop
  | .l _, v, b => v = .ref b
  | .bx _ _, v, b => v = .ref b ∨ ∃ a r, v = .ref a ∧ H a = some (.lst (.ref b :: r))
  | _, _, _ => False
theorem Fp.own {K : PySem.W.Frag} {O : Own} {H : Hp} {s : Sl} {v : V} {b : Addr} (r : RepS K O H s v) (f : Fp H s v b) : O b := by
  cases s with
  | no => cases f
  | v d => cases f
  | sc ns => cases f
  | l xs => obtain ⟨a, vs, rfl, h1, h2, _⟩ := r; cases f; exact h2
  | bx cs rs =>
    obtain ⟨a, c, rfl, h1, h2, h3, h4⟩ := r
    rcases f with f | ⟨a', r', f, g⟩
    · cases f; exact h3
    · cases f; rw [h1] at g; cases g; exact h4
/-- the environment over the frame's slots -/
structure W (K : PySem.W.Frag) (O : Own) (H : Hp) (env : En) (σ : St) : Prop where
  own : OwnOk O H
  len : env.length = σ.length
  rep : ∀ (i : Nat) (s : Sl), env[i]? = some s → s = .no ∨ ∃ v, σ[i]? = some (some v) ∧ RepS K O H s v
  sep : ∀ (i j : Nat) (s t : Sl) (v u : V) (b : Addr), i ≠ j → env[i]? = some s → env[j]? = some t → σ[i]? = some (some v) → σ[j]? = some (some u) → Fp H s v b → Fp H t u b → False
def FpE (H : Hp) (env : En) (σ : St) (b : Addr) : Prop := ∃ (i : Nat) (s : Sl) (v : V), env[i]? = some s ∧ σ[i]? = some (some v) ∧ Fp H s v b
theorem W.fpOwn {K : PySem.W.Frag} {O : Own} {H : Hp} {env : En} {σ : St} (w : W K O H env σ) {b : Addr} (f : FpE H env σ b) : O b := by
  obtain ⟨i, s, v, h1, h2, h3⟩ := f
  rcases w.rep i s h1 with rfl | ⟨u, h4, h5⟩
  · cases h3
  · rw [h2] at h4; cases h4; exact Fp.own h5 h3
/-- from (O, H) to (O', H'): what is owned out of F stays; F' is of F or new -/
structure Step (O : Own) (H : Hp) (F : Own) (O' : Own) (H' : Hp) (F' : Own) : Prop where
  evo : Evo O H O' H'
  own : OwnOk O' H'
  keepO : ∀ b, O b → ¬ F b → O' b ∧ H' b = H b
  fps : ∀ b, F' b → F b ∨ H b = none
theorem Step.refl {O : Own} {H : Hp} {F : Own} (h : OwnOk O H) : Step O H F O H F :=
  ⟨⟨h, fun _ _ e _ => e, fun _ e => .inl e, fun _ e => e⟩, h, fun _ e _ => ⟨e, rfl⟩, fun _ e => .inl e⟩
theorem Step.trans {O O1 O2 : Own} {H H1 H2 : Hp} {F F1 G1 F2 : Own} (a : Step O H F O1 H1 F1) (b : Step O1 H1 G1 O2 H2 F2) (s : ∀ x, G1 x → F1 x) : Step O H F O2 H2 F2 := by
  refine ⟨⟨a.evo.own, fun x o e n => ?_, fun x e => ?_, fun x e => b.evo.there x (a.evo.there x e)⟩, b.own, fun x e n => ?_, fun x e => ?_⟩
  · refine b.evo.keepH x o (a.evo.keepH x o e n) fun z => ?_
    rcases a.evo.newO x z with z | z
    · exact n z
    · rw [z] at e; cases e
  · rcases b.evo.newO x e with z | z
    · exact a.evo.newO x z
    · refine .inr ?_
      cases q : H x with
      | none => rfl
      | some u => exact absurd z (a.evo.there x (by rw [q]; exact Option.some_ne_none _))
  · obtain ⟨h1, h2⟩ := a.keepO x e n
    have nf : ¬ G1 x := fun z => by
      rcases a.fps x (s x z) with z | z
      · exact n z
      · obtain ⟨xs, q⟩ := a.evo.own x e
        rw [q] at z; cases z
    obtain ⟨h3, h4⟩ := b.keepO x h1 nf
    exact ⟨h3, h4.trans h2⟩
  · rcases b.fps x e with z | z
    · exact a.fps x (s x z)
    · refine .inr ?_
      cases q : H x with
      | none => rfl
      | some u => exact absurd z (a.evo.there x (by rw [q]; exact Option.some_ne_none _))
theorem Step.sub {O O' : Own} {H H' : Hp} {F F' G : Own} (a : Step O H F O' H' F') (s : ∀ x, G x → F' x) : Step O H F O' H' G := ⟨a.evo, a.own, a.keepO, fun x e => a.fps x (s x e)⟩
theorem Step.wide {O O' : Own} {H H' : Hp} {F F' G : Own} (a : Step O H F O' H' F') (s : ∀ x, F x → G x) : Step O H G O' H' F' :=
  ⟨a.evo, a.own, fun x e n => a.keepO x e fun z => n (s x z), fun x e => (a.fps x e).imp (s x) id⟩
/-- nothing owned is touched -/
def F0 : Own := fun _ => False
section
variable {K : PySem.W.Frag} {O O' : Own} {H H' : Hp} {env : En} {σ : St} {F' : Own}
/-- a slot out of the touched part -/
theorem RepS.keep {F : Own} (st : Step O H F O' H' F') {s : Sl} {v : V} (r : RepS K O H s v) (n : ∀ b, Fp H s v b → ¬ F b) : RepS K O' H' s v ∧ ∀ b, Fp H' s v b → Fp H s v b := by
  cases s with
  | no => exact ⟨trivial, fun b f => f.elim⟩
  | v d => exact ⟨RepD.evo st.evo d v r, fun b f => f.elim⟩
  | sc ns => obtain ⟨a, rfl, h⟩ := r; exact ⟨⟨a, rfl, ScL.evo st.evo h⟩, fun b f => f.elim⟩
  | l xs =>
    obtain ⟨a, vs, rfl, h1, h2, h3⟩ := r
    obtain ⟨k1, k2⟩ := st.keepO a h2 (n a rfl)
    exact ⟨⟨a, vs, rfl, k2.trans h1, k1, RepDs.evo st.evo _ _ h3⟩, fun b f => f⟩
  | bx cs rs =>
    obtain ⟨a, c, rfl, h1, h2, h3, h4⟩ := r
    obtain ⟨k1, k2⟩ := st.keepO a h3 (n a (.inl rfl))
    obtain ⟨m1, m2⟩ := st.keepO c h4 (n c (.inr ⟨a, _, rfl, h1⟩))
    refine ⟨⟨a, c, rfl, k2.trans h1, m2.trans h2, k1, m1⟩, fun b f => ?_⟩
    rcases f with f | ⟨a', r', f, g⟩
    · exact .inl f
    · cases f
      rw [k2.trans h1] at g; cases g
      exact .inr ⟨a, _, rfl, h1⟩
theorem W.keep (w : W K O H env σ) (st : Step O H F0 O' H' F') : W K O' H' env σ ∧ ∀ b, FpE H' env σ b → FpE H env σ b := by
  have kp : ∀ (i : Nat) (s : Sl) (v : V), env[i]? = some s → σ[i]? = some (some v) → s = .no ∨ (RepS K O' H' s v ∧ ∀ b, Fp H' s v b → Fp H s v b) := fun i s v e1 e2 => by
    rcases w.rep i s e1 with z | ⟨u, h1, h2⟩
    · exact .inl z
    · rw [e2] at h1; cases h1
      exact .inr (RepS.keep st h2 fun _ _ z => z)
  have fb : ∀ (i : Nat) (s : Sl) (v : V) (b : Addr), env[i]? = some s → σ[i]? = some (some v) → Fp H' s v b → Fp H s v b := fun i s v b e1 e2 f => by
    rcases kp i s v e1 e2 with rfl | h
    · exact f.elim
    · exact h.2 b f
  refine ⟨⟨st.own, w.len, fun i s e => ?_, fun i j s t v u b n e1 e2 e3 e4 f1 f2 => w.sep i j s t v u b n e1 e2 e3 e4 (fb i s v b e1 e3 f1) (fb j t u b e2 e4 f2)⟩, fun b ⟨i, s, v, e1, e2, f⟩ => ⟨i, s, v, e1, e2, fb i s v b e1 e2 f⟩⟩
  rcases w.rep i s e with z | ⟨v, h1, h2⟩
  · exact .inl z
  · rcases kp i s v e h1 with z | z
    · exact .inl z
    · exact .inr ⟨v, h1, z.1⟩
/-- a result r at v beside the environment -/
structure WR (K : PySem.W.Frag) (O : Own) (H : Hp) (env : En) (σ : St) (r : Sl) (v : V) : Prop where
  w : W K O H env σ
  val : RepS K O H r v
  sep : ∀ b, Fp H r v b → ¬ FpE H env σ b
def FpR (H : Hp) (env : En) (σ : St) (r : Sl) (v : V) : Own := fun b => FpE H env σ b ∨ Fp H r v b
end
/-! readings -/
section
variable (K : PySem.W.Frag)
def tE (f : En → Option (Sl × En)) : TE := fun σ H Q => ∃ O env r env', W K O H env σ ∧ f env = some (r, env') ∧
  ∀ O' H' v, Step O H (FpE H env σ) O' H' (FpR H' env' σ r v) → WR K O' H' env' σ r v → Q v H'
def tD (f : En → Option (D × En)) : TE := fun σ H Q => ∃ O env d env', W K O H env σ ∧ f env = some (d, env') ∧
  ∀ O' H' v, Step O H (FpE H env σ) O' H' (FpE H' env' σ) → W K O' H' env' σ → RepD K O' H' d v → Q v H'
def RepO (O : Own) (H : Hp) (σ : St) : Opd → V → Prop
  | .d d, v => RepD K O H d v
  | .s i, v => σ[i]? = some (some v)
def tO (f : En → Option (Opd × En)) : TE := fun σ H Q => ∃ O env p env', W K O H env σ ∧ f env = some (p, env') ∧
  ∀ O' H' v, Step O H (FpE H env σ) O' H' (FpE H' env' σ) → W K O' H' env' σ → RepO K O' H' σ p v → Q v H'
def tT (f : En → Option (Bool × En)) : TT := fun σ H Q => ∃ O env b env', W K O H env σ ∧ f env = some (b, env') ∧
  ∀ O' H', Step O H (FpE H env σ) O' H' (FpE H' env' σ) → W K O' H' env' σ → Q b H'
def tAr (f : En → Option (List D × En)) : TA := fun σ H Q => ∃ O env ds env', W K O H env σ ∧ f env = some (ds, env') ∧
  ∀ O' H' vs, Step O H (FpE H env σ) O' H' (FpE H' env' σ) → W K O' H' env' σ → RepDs K O' H' ds vs → Q vs H'
def RepOs (O : Own) (H : Hp) (σ : St) : List Opd → List V → Prop
  | [], vs => vs = []
  | p :: ps, vs => ∃ v r, vs = v :: r ∧ RepO K O H σ p v ∧ RepOs O H σ ps r
def tOs (f : En → Option (List Opd × En)) : TA := fun σ H Q => ∃ O env ps env', W K O H env σ ∧ f env = some (ps, env') ∧
  ∀ O' H' vs, Step O H (FpE H env σ) O' H' (FpE H' env' σ) → W K O' H' env' σ → RepOs K O' H' σ ps vs → Q vs H'
/-- a data value that may be looked at: frozen, or owned by a slot -/
def RepP (O : Own) (H : Hp) (d : D) (v : V) : Prop := RepD K O H d v ∨ ∃ xs a vs, d = .list xs ∧ v = .ref a ∧ H a = some (.lst vs) ∧ RepDs K O H xs vs
/-- what an operation may hand back -/
def RP (O : Own) (H : Hp) (r : Sl) (Q : VK) : Prop := ∀ O' H' v, Step O H F0 O' H' (fun b => Fp H' r v b) → RepS K O' H' r v → Q v H'
end
section
variable {K : PySem.W.Frag} {O O' : Own} {H H' : Hp} {env : En} {σ : St} {Q : VK}
theorem RepO.evo (e : Evo O H O' H') : ∀ {p : Opd} {v : V}, RepO K O H σ p v → RepO K O' H' σ p v
  | .d d, v, h => RepD.evo e d v h
  | .s i, v, h => h
theorem RepOs.evo (e : Evo O H O' H') : ∀ {ps : List Opd} {vs : List V}, RepOs K O H σ ps vs → RepOs K O' H' σ ps vs
  | [], vs, h => h
  | p :: ps, vs, ⟨v, r, e1, h1, h2⟩ => ⟨v, r, e1, RepO.evo e h1, RepOs.evo e h2⟩
theorem RepS.rd {s : Sl} {v : V} {d : D} (r : RepS K O H s v) (e : s.rd = some d) : RepP K O H d v := by
  cases s with
  | no => cases e
  | v d' => cases e; exact .inl r
  | l xs => cases e; obtain ⟨a, vs, rfl, h1, h2, h3⟩ := r; exact .inr ⟨xs, a, vs, rfl, rfl, h1, h3⟩
  | bx _ _ => cases e
  | sc _ => cases e
theorem RepO.get (w : W K O H env σ) {p : Opd} {v : V} {d : D} (r : RepO K O H σ p v) (e : p.get env = some d) : RepP K O H d v := by
  cases p with
  | d x => cases e; exact .inl r
  | s i =>
    simp only [Opd.get, Option.bind_eq_some_iff] at e
    obtain ⟨s, e1, e2⟩ := e
    rcases w.rep i s e1 with rfl | ⟨u, h1, h2⟩
    · cases e2
    · have r' : σ[i]? = some (some v) := r
      rw [h1] at r'; cases r'
      exact RepS.rd h2 e2
def RepPs (K : PySem.W.Frag) (O : Own) (H : Hp) : List D → List V → Prop
  | [], vs => vs = []
  | d :: ds, vs => ∃ v r, vs = v :: r ∧ RepP K O H d v ∧ RepPs K O H ds r
theorem RepOs.gets (w : W K O H env σ) : ∀ {ps : List Opd} {vs : List V} {ds : List D}, RepOs K O H σ ps vs → gets env ps = some ds → RepPs K O H ds vs
  | [], vs, ds, h, e => by
    have e' : ([] : List D) = ds := Option.some.inj e
    subst e'; exact h
  | p :: ps, vs, ds, h, e => by
    obtain ⟨v, r, rfl, h1, h2⟩ := h
    have e' : ((p.get env).bind fun d => (Mini.gets env ps).map (d :: ·)) = some ds := e
    simp only [Option.bind_eq_some_iff, Option.map_eq_some_iff] at e'
    obtain ⟨d, e1, es, e2, rfl⟩ := e'
    exact ⟨v, r, rfl, RepO.get w h1 e1, RepOs.gets w h2 e2⟩
/-! results -/
theorem RP.same {d : D} {v : V} (h : OwnOk O H) (q : RP K O H (.v d) Q) (r : RepD K O H d v) : Q v H :=
  q O H v ⟨⟨h, fun _ _ e _ => e, fun _ e => .inl e, fun _ e => e⟩, h, fun _ e _ => ⟨e, rfl⟩, fun _ e => e.elim⟩ r
theorem OwnOk.new {p : Addr} {o : HO} (h : OwnOk O H) (hp : H p = none) : Step O H F0 O (upd H p o) F0 := by
  have ne : ∀ b u, H b = some u → b ≠ p := fun b u e z => by rw [z, hp] at e; cases e
  refine ⟨⟨h, fun b u e _ => by rw [upd_ne (ne b u e)]; exact e, fun b e => .inl e, fun b e => ?_⟩, fun b e => ?_, fun b e _ => ?_, fun _ e => e.elim⟩
  · cases q : H b with
    | none => exact absurd q e
    | some u => rw [upd_ne (ne b u q), q]; exact Option.some_ne_none _
  · obtain ⟨xs, q⟩ := h b e
    exact ⟨xs, by rw [upd_ne (ne b _ q)]; exact q⟩
  · obtain ⟨xs, q⟩ := h b e
    exact ⟨e, upd_ne (ne b _ q)⟩
theorem RP.tup {ds : List D} {vs : List V} (h : OwnOk O H) (q : RP K O H (.v (.tuple ds)) Q) (r : RepDs K O H ds vs) (p : Addr) (hp : H p = none) : Q (.ref p) (upd H p (.tup vs)) :=
  q O _ _ ((OwnOk.new h hp).sub fun _ e => e.elim) (by
    show RepD K O _ _ _
    simp only [RepD]
    exact ⟨p, vs, rfl, SqT.of upd_same, RepDs.evo (OwnOk.new h hp).evo _ _ r⟩)
theorem RP.lst {ds : List D} {vs : List V} (h : OwnOk O H) (q : RP K O H (.l ds) Q) (r : RepDs K O H ds vs) (p : Addr) (hp : H p = none) : Q (.ref p) (upd H p (.lst vs)) := by
  have n := OwnOk.new (o := .lst vs) h hp
  have st : Step O H F0 (fun b => O b ∨ b = p) (upd H p (.lst vs)) (fun b => Fp (upd H p (.lst vs)) (.l ds) (.ref p) b) := by
    refine ⟨⟨h, n.evo.keepH, fun b e => ?_, n.evo.there⟩, fun b e => ?_, fun b e f => ⟨.inl e, (n.keepO b e f).2⟩, fun b e => ?_⟩
    · rcases e with e | rfl
      · exact .inl e
      · exact .inr hp
    · rcases e with e | rfl
      · exact n.own b e
      · exact ⟨vs, upd_same⟩
    · cases e; exact .inr hp
  exact q _ _ _ st ⟨p, vs, rfl, upd_same, .inr rfl, RepDs.evo st.evo _ _ r⟩
/-- an operation's end, beside an environment -/
theorem RP.end_ {env : En} {r : Sl} (w : W K O H env σ) (q : ∀ O' H' v, Step O H (FpE H env σ) O' H' (FpR H' env σ r v) → WR K O' H' env σ r v → Q v H') : RP K O H r Q := by
  intro O' H' v st rv
  obtain ⟨w', k⟩ := w.keep st
  have dis : ∀ b, Fp H' r v b → ¬ FpE H' env σ b := fun b f g => by
    rcases st.fps b f with z | z
    · exact z
    · obtain ⟨xs, e⟩ := w.own b (w.fpOwn (k b g))
      rw [z] at e; cases e
  refine q O' H' v ⟨st.evo, st.own, fun b e _ => st.keepO b e id, fun b f => ?_⟩ ⟨w', rv, dis⟩
  rcases f with f | f
  · exact .inl (k b f)
  · rcases st.fps b f with z | z
    · exact z.elim
    · exact .inr z
theorem tE.of {f : En → Option (Sl × En)} {r : Sl} {env' : En} (w : W K O H env σ) (e : f env = some (r, env')) (q : ∀ O' H' v, Step O H (FpE H env σ) O' H' (FpR H' env' σ r v) → WR K O' H' env' σ r v → Q v H') : tE K f σ H Q := ⟨O, env, r, env', w, e, q⟩
end
end Mini

namespace Mini
open PySem PySem.Spec L2
/-! rules over readings -/
theorem _root_.L2.PE.imp {X : Cx} {e : Expr} {t t' : TE} (h : PE X e t) (i : ∀ σ H Q, t' σ H Q → t σ H Q) : PE X e t' := ⟨fun pins s σ H Q I q => h.run pins s σ H Q I (i σ H Q q)⟩
theorem _root_.L2.PT.imp {X : Cx} {e : Expr} {t t' : TT} (h : PT X e t) (i : ∀ σ H Q, t' σ H Q → t σ H Q) : PT X e t' := ⟨fun pins s σ H Q I q => h.run pins s σ H Q I (i σ H Q q)⟩
theorem _root_.L2.PW.imp {X : Cx} {e : Expr} {t t' : TT} (h : PW X e t) (i : ∀ σ H Q, t' σ H Q → t σ H Q) : PW X e t' := ⟨fun wh pins s σ H Q I q => h.run wh pins s σ H Q I (i σ H Q q)⟩
theorem _root_.L2.PA.imp {X : Cx} {es : List Expr} {t t' : TA} (h : PA X es t) (i : ∀ σ H Q, t' σ H Q → t σ H Q) : PA X es t' := ⟨fun pos pins s σ H Q I q => h.run pos pins s σ H Q I (i σ H Q q)⟩
theorem _root_.L2.PS.imp {X : Cx} {e : Stmt} {t t' : TS} (h : PS X e t) (i : ∀ D σ H, t' D σ H → t D σ H) : PS X e t' := ⟨fun pins s σ H D I q => h.run pins s σ H D I (i D σ H q)⟩
theorem _root_.L2.PSs.imp {X : Cx} {e : List Stmt} {t t' : TS} (h : PSs X e t) (i : ∀ D σ H, t' D σ H → t D σ H) : PSs X e t' := ⟨fun pins s σ H D I q => h.run pins s σ H D I (i D σ H q)⟩
section
variable {K : PySem.W.Frag} {O O' : Own} {H H' : Hp} {env : En} {σ : St} {Q : VK}
/-- what is owned only shrinks: frozen stays frozen -/
theorem evo_less {O1 : Own} (h : OwnOk O H) (l : ∀ b, O1 b → O b) : Evo O H O1 H := ⟨h, fun _ _ e _ => e, fun b e => .inl (l b e), fun _ e => e⟩
/-- a result, frozen -/
theorem WR.freeze {r : Sl} {v : V} {d : D} (w : WR K O H env σ r v) (e : r.frz = some d) : ∃ O1 : Own, (∀ b, O1 b → O b) ∧ (∀ b, O b → ¬ Fp H r v b → O1 b) ∧ W K O1 H env σ ∧ RepD K O1 H d v := by
  cases r with
  | no => cases e
  | bx _ _ => cases e
  | sc _ => cases e
  | v d' => cases e; exact ⟨O, fun _ e => e, fun _ e _ => e, w.w, w.val⟩
  | l xs =>
    cases e
    obtain ⟨a, vs, rfl, h1, h2, h3⟩ := w.val
    have ev : Evo O H (fun b => O b ∧ b ≠ a) H := evo_less w.w.own fun b e => e.1
    refine ⟨fun b => O b ∧ b ≠ a, fun b e => e.1, fun b e f => ⟨e, fun z => f (by rw [z]; rfl)⟩, ⟨fun b e => w.w.own b e.1, w.w.len, fun i s e => ?_, w.w.sep⟩, ?_⟩
    · rcases w.w.rep i s e with z | ⟨u, e1, e2⟩
      · exact .inl z
      · refine .inr ⟨u, e1, ?_⟩
        have na : ∀ b, Fp H s u b → b ≠ a := fun b f z => w.sep a rfl ⟨i, s, u, e, e1, z ▸ f⟩
        cases s with
        | no => trivial
        | v d => exact RepD.evo ev _ _ e2
        | sc ns => obtain ⟨c, rfl, g⟩ := e2; exact ⟨c, rfl, ScL.evo ev g⟩
        | l ys =>
          obtain ⟨c, us, rfl, g1, g2, g3⟩ := e2
          exact ⟨c, us, rfl, g1, ⟨g2, na c rfl⟩, RepDs.evo ev _ _ g3⟩
        | bx cs rs =>
          obtain ⟨c, d, rfl, g1, g2, g3, g4⟩ := e2
          exact ⟨c, d, rfl, g1, g2, ⟨g3, na c (.inl rfl)⟩, ⟨g4, na d (.inr ⟨c, _, rfl, g1⟩)⟩⟩
    · show RepD K _ H (.list xs) (.ref a)
      simp only [RepD]
      exact ⟨a, vs, rfl, h1, fun z => z.2 rfl, RepDs.evo ev _ _ h3⟩
theorem Step.less {F F' G : Own} {O1 : Own} (st : Step O H F O' H' F') (l : ∀ b, O1 b → O' b) (k : ∀ b, O' b → (F' b → G b) → O1 b) (hg : ∀ b, F' b → ¬ G b → F b ∨ H b = none) : Step O H F O1 H' G → Step O H F O1 H' G := id
/-- a step whose result is frozen -/
theorem frz_step {r : Sl} {v : V} {env' : En} {O1 : Own} (own : OwnOk O H) (st : Step O H (FpE H env σ) O' H' (FpR H' env' σ r v)) (l : ∀ b, O1 b → O' b) (k : ∀ b, O' b → ¬ Fp H' r v b → O1 b) : Step O H (FpE H env σ) O1 H' (FpE H' env' σ) := by
  refine ⟨⟨own, st.evo.keepH, fun b e => st.evo.newO b (l b e), st.evo.there⟩, fun b e => st.own b (l b e), fun b e n => ?_, fun b f => st.fps b (.inl f)⟩
  obtain ⟨h1, h2⟩ := st.keepO b e n
  refine ⟨k b h1 fun f => ?_, h2⟩
  rcases st.fps b (.inr f) with z | z
  · exact n z
  · obtain ⟨xs, q⟩ := own b e
    rw [z] at q; cases q
theorem te_frz {f : En → Option (Sl × En)} (h : tD K (frzM f) σ H Q) : tE K f σ H Q := by
  obtain ⟨O, env, d, env', w, e, q⟩ := h
  simp only [frzM, Option.bind_eq_some_iff, Option.map_eq_some_iff] at e
  obtain ⟨⟨r, e1⟩, h1, d', h2, h3⟩ := e
  cases h3
  refine ⟨O, env, r, e1, w, h1, fun O' H' v st wr => ?_⟩
  obtain ⟨O1, l, k, w1, rd⟩ := wr.freeze h2
  exact q O1 H' v (frz_step w.own st l k) w1 rd
end
section
variable {X : Cx} {e a b : Expr} {pos : Pos}
theorem pe_frz {f : En → Option (Sl × En)} (h : PE X e (tE X.K f)) : PE X e (tD X.K (frzM f)) := h.imp fun _ _ _ q => te_frz q
theorem pe_opd {f : En → Option (D × En)} (h : PE X e (tD X.K f)) : PE X e (tO X.K fun env => (f env).map fun (d, e1) => (.d d, e1)) := h.imp fun σ H Q q => by
  obtain ⟨O, env, p, env', w, e, q⟩ := q
  simp only [Option.map_eq_some_iff] at e
  obtain ⟨⟨d, e1⟩, h1, h2⟩ := e
  cases h2
  exact ⟨O, env, d, e1, w, h1, q⟩
/-- truth -/
theorem truth_tru {K : PySem.W.Frag} {O : Own} {H : Hp} {d : D} {v : V} {k : Bool} (r : RepP K O H d v) (e : truth d = some k) : TruV K v H k := by
  rcases r with r | ⟨xs, a, vs, rfl, rfl, h1, h2⟩
  · cases d with
    | none => simp only [RepD] at r; subst r; cases e; rfl
    | bool b => simp only [RepD] at r; subst r; cases e; rfl
    | int i => simp only [RepD] at r; subst r; cases e; rfl
    | str s =>
      simp only [RepD] at r; subst r
      simp only [truth] at e
      split at e
      · rename_i h; cases e; exact ⟨h, rfl⟩
      · cases e
    | list xs =>
      simp only [RepD] at r
      obtain ⟨a, vs, rfl, h1, h2, h3⟩ := r
      cases e
      refine .inl ⟨vs, SqL.of h1, ?_⟩
      have := h3.length
      cases xs <;> cases vs <;> simp_all
    | tuple xs =>
      simp only [RepD] at r
      obtain ⟨a, vs, rfl, h1, h3⟩ := r
      cases e
      refine .inr (.inl ⟨vs, h1, ?_⟩)
      have := h3.length
      cases xs <;> cases vs <;> simp_all
    | dict _ => cases e
  · cases e
    refine .inl ⟨vs, SqL.of h1, ?_⟩
    have := h2.length
    cases xs <;> cases vs <;> simp_all
def PlainT (e : Expr) : Bool := match e with
  | .BoolOp _ _ _ => false
  | .UnaryOp .Not _ _ => false
  | .Compare _ _ _ _ => false
  | .NamedExpr _ _ _ => false
  | .IfExp _ _ _ _ => false
  | _ => true
theorem plainT {e : Expr} {env : PySem.Env} (h : PlainT e = true) (whole : Sem Value) : isTrue e env whole = (do let v ← whole; standAt e.pos; holding [v] (truthy v)) := by
  cases e with
  | UnaryOp op a p => cases op <;> first | rfl | cases h
  | _ => first | rfl | cases h
theorem pt_tr {X : Cx} {e : Expr} {g : En → Option (Opd × En)} (p : PlainT e = true) (h : PE X e (tO X.K g)) : PT X e (tT X.K (trM g)) := (pt_truth h (plainT p)).imp fun σ H Q q => by
  obtain ⟨O, env, b, env', w, e, q⟩ := q
  simp only [trM, Option.bind_eq_some_iff, Option.map_eq_some_iff] at e
  obtain ⟨⟨p, e1⟩, h1, d, h2, k, h3, h4⟩ := e
  cases h4
  refine ⟨O, env, p, e1, w, h1, fun O' H' v st w' r => ⟨_, truth_tru (RepO.get w' r h2) h3, ?_⟩⟩
  exact q O' H' st w'
/-- an expression of a plain kind -/
structure SE (X : Cx) (e : Expr) (m : M) : Prop where
  val : PE X e (tE X.K m.val)
  opd : PE X e (tO X.K m.opd)
  tst : PT X e (tT X.K m.tst)
theorem SE.ofVal {X : Cx} {e : Expr} {f : En → Option (Sl × En)} (p : PlainT e = true) (h : PE X e (tE X.K f)) : SE X e (.ofVal f) :=
  ⟨h, pe_opd (pe_frz h), pt_tr p (pe_opd (pe_frz h))⟩
theorem SE.d {X : Cx} {e : Expr} {m : M} (h : SE X e m) : PE X e (tD X.K (frzM m.val)) := pe_frz h.val
end
/-! operations of one and two operands -/
section
variable {X : Cx} {e a b : Expr} {ma mb : M} {K : PySem.W.Frag}
theorem te_op1 {f : D → Option Sl} {r : V → Hp → VK → Prop} (hop : ∀ (O : Own) (H : Hp) (d : D) (x : V) (res : Sl) (Q : VK), OwnOk O H → RepP K O H d x → f d = some res → RP K O H res Q → r x H Q) {σ : St} {H : Hp} {Q : VK} (q : tE K (op1 f ma).val σ H Q) : tO K ma.opd σ H fun x H1 => r x H1 Q := by
  obtain ⟨O, env, s, env', w, e, q⟩ := q
  simp only [op1, M.ofVal, Option.bind_eq_some_iff, Option.map_eq_some_iff] at e
  obtain ⟨⟨p, e1⟩, h1, d, h2, res, h3, h4⟩ := e
  cases h4
  refine ⟨O, env, p, e1, w, h1, fun O' H' v st w' rp => hop O' H' d v _ _ w'.own (RepO.get w' rp h2) h3 (RP.end_ w' fun O2 H2 v2 st2 wr => q O2 H2 v2 (st.trans st2 fun _ z => z) wr)⟩
theorem te_op2 {f : D → D → Option Sl} {r : R2} (hop : ∀ (O : Own) (H : Hp) (d1 d2 : D) (x y : V) (res : Sl) (Q : VK), OwnOk O H → RepP K O H d1 x → RepP K O H d2 y → f d1 d2 = some res → RP K O H res Q → r x y H Q) {σ : St} {H : Hp} {Q : VK} (q : tE K (op2 f ma mb).val σ H Q) : tOp r (tO K ma.opd) (tO K mb.opd) σ H Q := by
  obtain ⟨O, env, s, env', w, e, q⟩ := q
  simp only [op2, M.ofVal, Option.bind_eq_some_iff, Option.map_eq_some_iff] at e
  obtain ⟨⟨p, e1⟩, h1, ⟨p2, e2⟩, h2, d, h3, d2, h4, res, h5, h6⟩ := e
  cases h6
  refine ⟨O, env, p, e1, w, h1, fun O1 H1 v1 st1 w1 rp1 => ⟨O1, e1, p2, e2, w1, h2, fun O2 H2 v2 st2 w2 rp2 => ?_⟩⟩
  exact hop O2 H2 d d2 v1 v2 _ _ w2.own (RepO.get w2 (RepO.evo st2.evo rp1) h3) (RepO.get w2 rp2 h4) h5 (RP.end_ w2 fun O3 H3 v3 st3 wr => q O3 H3 v3 ((st1.trans st2 fun _ z => z).trans st3 fun _ z => z) wr)
end
end Mini

namespace Mini
open PySem PySem.Spec L2
section
variable {K : PySem.W.Frag} {O : Own} {H : Hp}
theorem RepP.none {v : V} (r : RepP K O H .none v) : v = .non := by
  rcases r with r | ⟨_, _, _, e, _⟩
  · simpa only [RepD] using r
  · cases e
theorem RepP.bool {v : V} {b : Bool} (r : RepP K O H (.bool b) v) : v = .bl b := by
  rcases r with r | ⟨_, _, _, e, _⟩
  · simpa only [RepD] using r
  · cases e
theorem RepP.int {v : V} {i : Int} (r : RepP K O H (.int i) v) : v = .int i := by
  rcases r with r | ⟨_, _, _, e, _⟩
  · simpa only [RepD] using r
  · cases e
theorem RepP.str {v : V} {i : Str} (r : RepP K O H (.str i) v) : v = .str i := by
  rcases r with r | ⟨_, _, _, e, _⟩
  · simpa only [RepD] using r
  · cases e
theorem RepP.tuple {v : V} {ds : List D} (r : RepP K O H (.tuple ds) v) : ∃ a vs, v = .ref a ∧ SqT K H a vs ∧ RepDs K O H ds vs := by
  rcases r with r | ⟨_, _, _, e, _⟩
  · simpa only [RepD] using r
  · cases e
theorem RepP.list {v : V} {ds : List D} (r : RepP K O H (.list ds) v) : ∃ a vs, v = .ref a ∧ H a = some (.lst vs) ∧ RepDs K O H ds vs := by
  rcases r with r | ⟨_, a, vs, e, e2, h1, h2⟩
  · simp only [RepD] at r
    obtain ⟨a, vs, e, h1, _, h2⟩ := r
    exact ⟨a, vs, e, h1, h2⟩
  · cases e; exact ⟨a, vs, e2, h1, h2⟩
theorem RepP.dict {v : V} {ds : List (D × D)} (r : RepP K O H (.dict ds) v) : False := by
  rcases r with r | ⟨_, _, _, e, _⟩
  · simpa only [RepD] using r
  · cases e
mutual
theorem RepD.dp : ∀ (d : D) (v : V), RepD K O H d v → Dp K H v d
  | .none, v, h => by simp only [RepD] at h; subst h; exact .non
  | .bool b, v, h => by simp only [RepD] at h; subst h; exact .bl b
  | .int b, v, h => by simp only [RepD] at h; subst h; exact .int b
  | .str b, v, h => by simp only [RepD] at h; subst h; exact .str b
  | .tuple ds, v, h => by
    simp only [RepD] at h
    obtain ⟨a, vs, rfl, h1, h2⟩ := h
    exact .tup h1 (RepDs.dp ds vs h2)
  | .list ds, v, h => by
    simp only [RepD] at h
    obtain ⟨a, vs, rfl, h1, _, h2⟩ := h
    exact .lst (SqL.of h1) (RepDs.dp ds vs h2)
  | .dict _, v, h => by simp only [RepD] at h
theorem RepDs.dp : ∀ (ds : List D) (vs : List V), RepDs K O H ds vs → DpAll K H vs ds
  | [], vs, h => by simp only [RepDs] at h; subst h; exact .nil
  | d :: ds, vs, h => by
    simp only [RepDs] at h
    obtain ⟨v, r, rfl, h1, h2⟩ := h
    exact .cons (RepD.dp d v h1) (RepDs.dp ds r h2)
end
theorem RepP.dp {d : D} {v : V} (r : RepP K O H d v) : Dp K H v d := by
  rcases r with r | ⟨_, a, vs, rfl, rfl, h1, h2⟩
  · exact RepD.dp d v r
  · exact .lst (SqL.of h1) (RepDs.dp _ _ h2)
end
theorem _root_.L2.PE.never {X : Cx} {e : Expr} : PE X e (fun _ _ _ => False) := ⟨fun _ _ _ _ _ _ q => q.elim⟩
theorem OpR.never {X : Cx} {f : Value → Value → Sem Value} : OpR X f (fun _ _ _ _ => False) := fun _ _ _ _ _ _ _ _ _ _ _ _ q => q.elim
/-- what an operator is asked -/
def HOp2 (K : PySem.W.Frag) (f : D → D → Option Sl) (r : R2) : Prop :=
  ∀ (O : Own) (H : Hp) (d1 d2 : D) (x y : V) (res : Sl) (Q : VK), OwnOk O H → RepP K O H d1 x → RepP K O H d2 y → f d1 d2 = some res → RP K O H res Q → r x y H Q
def HOp1 (K : PySem.W.Frag) (f : D → Option Sl) (r : V → Hp → VK → Prop) : Prop :=
  ∀ (O : Own) (H : Hp) (d : D) (x : V) (res : Sl) (Q : VK), OwnOk O H → RepP K O H d x → f d = some res → RP K O H res Q → r x H Q
section
variable {X : Cx} {K : PySem.W.Frag}
def rAdd4 (K : PySem.W.Frag) : R2 := fun x y H Q => (rI0 fun i j => .int (i + j)) x y H Q ∨ ((fun x y H Q => ∃ i j, x = .str i ∧ y = .str j ∧ i.length + j.length ≤ sizeLine ∧ Q (.str (i ++ j)) H) : R2) x y H Q ∨ rCatA K x y H Q ∨ rCat x y H Q
theorem or_add : OpR X (binaryOp .Add) (rAdd4 X.K) := OpR.or op_add (OpR.or op_add_str (OpR.or op_catA op_cat))
theorem ho_add : HOp2 K (binD .Add) (rAdd4 K) := by
  intro O H d1 d2 x y res Q own h1 h2 e q
  cases d1 with
  | int i =>
    cases d2 with
    | int j => cases e; exact .inl ⟨i, j, h1.int, h2.int, q.same own (by simp only [RepD])⟩
    | _ => cases e
  | str i =>
    cases d2 with
    | str j =>
      simp only [binD] at e
      split at e
      · rename_i h; cases e; exact .inr (.inl ⟨i, j, h1.str, h2.str, h, q.same own (by simp only [RepD])⟩)
      · cases e
    | _ => cases e
  | tuple xs =>
    cases d2 with
    | tuple ys =>
      simp only [binD] at e
      split at e
      · rename_i h
        cases e
        obtain ⟨a, vs, rfl, s1, r1⟩ := h1.tuple
        obtain ⟨b, us, rfl, s2, r2⟩ := h2.tuple
        have l1 := r1.length
        have l2 := r2.length
        refine .inr (.inr (.inl ⟨a, b, vs, us, rfl, rfl, s1, s2, by omega, fun z => ?_, fun _ z => ?_, fun _ _ p hp => q.tup own (r1.append r2) p hp⟩))
        · subst z
          have : xs = [] := List.length_eq_zero_iff.mp (by simpa using l1)
          subst this
          exact q.same own (by simp only [RepD, List.nil_append]; exact ⟨b, us, rfl, s2, r2⟩)
        · subst z
          have : ys = [] := List.length_eq_zero_iff.mp (by simpa using l2)
          subst this
          exact q.same own (by simp only [RepD, List.append_nil]; exact ⟨a, vs, rfl, s1, r1⟩)
      · cases e
    | _ => cases e
  | list xs =>
    cases d2 with
    | list ys =>
      simp only [binD] at e
      split at e
      · rename_i h
        cases e
        obtain ⟨a, vs, rfl, s1, r1⟩ := h1.list
        obtain ⟨b, us, rfl, s2, r2⟩ := h2.list
        have l1 := r1.length
        have l2 := r2.length
        exact .inr (.inr (.inr ⟨a, b, vs, us, rfl, rfl, s1, s2, by omega, fun p hp => q.lst own (r1.append r2) p hp⟩))
      · cases e
    | _ => cases e
  | _ => cases e
theorem ho_int {op : Operator} {C : Int → Int → Prop} [∀ i j, Decidable (C i j)] {g : Int → Int → Int} (hb : ∀ d1 d2 res, binD op d1 d2 = some res → ∃ i j, d1 = .int i ∧ d2 = .int j ∧ C i j ∧ res = .v (.int (g i j))) : HOp2 K (binD op) (rI C fun i j => .int (g i j)) := by
  intro O H d1 d2 x y res Q own h1 h2 e q
  obtain ⟨i, j, rfl, rfl, c, rfl⟩ := hb _ _ _ e
  exact ⟨i, j, h1.int, h2.int, c, q.same own (by simp only [RepD])⟩
theorem ho_sub : HOp2 K (binD .Sub) (rI0 fun i j => .int (i - j)) := by
  intro O H d1 d2 x y res Q own h1 h2 e q
  cases d1 with
  | int i =>
    cases d2 with
    | int j => cases e; exact ⟨i, j, h1.int, h2.int, q.same own (by simp only [RepD])⟩
    | _ => cases e
  | _ => cases e
theorem ho_div : HOp2 K (binD .FloorDiv) (rI CDivW fun i j => .int (i / j)) := by
  intro O H d1 d2 x y res Q own h1 h2 e q
  cases d1 with
  | int i =>
    cases d2 with
    | int j =>
      simp only [binD] at e
      split at e
      · rename_i h; cases e; exact ⟨i, j, h1.int, h2.int, h, q.same own (by simp only [RepD])⟩
      · cases e
    | _ => cases e
  | _ => cases e
theorem ho_mod : HOp2 K (binD .Mod) (rI (fun _ j => 0 < j) fun i j => .int (i % j)) := by
  intro O H d1 d2 x y res Q own h1 h2 e q
  cases d1 with
  | int i =>
    cases d2 with
    | int j =>
      simp only [binD] at e
      split at e
      · rename_i h; cases e; exact ⟨i, j, h1.int, h2.int, h, q.same own (by simp only [RepD])⟩
      · cases e
    | _ => cases e
  | _ => cases e
theorem ho_pow : HOp2 K (binD .Pow) (rI CPow fun i j => .int (i ^ j.toNat)) := by
  intro O H d1 d2 x y res Q own h1 h2 e q
  cases d1 with
  | int i =>
    cases d2 with
    | int j =>
      simp only [binD] at e
      split at e
      · rename_i h; cases e; exact ⟨i, j, h1.int, h2.int, h, q.same own (by simp only [RepD])⟩
      · cases e
    | _ => cases e
  | _ => cases e
def rMul4 (K : PySem.W.Frag) : R2 := fun x y H Q => (rI CMulW fun i j => .int (i * j)) x y H Q ∨ (rI CMul fun i j => .int (i * j)) x y H Q ∨ rRepT K x y H Q ∨ rRep x y H Q
theorem or_mul : OpR X (binaryOp .Mult) (rMul4 X.K) := OpR.or op_mulW (OpR.or op_mul (OpR.or op_repT op_rep))
theorem ho_mul : HOp2 K (binD .Mult) (rMul4 K) := by
  intro O H d1 d2 x y res Q own h1 h2 e q
  cases d1 with
  | int i =>
    cases d2 with
    | int j =>
      simp only [binD] at e
      split at e
      · rename_i h
        cases e
        rcases h with h | h
        · exact .inl ⟨i, j, h1.int, h2.int, h, q.same own (by simp only [RepD])⟩
        · exact .inr (.inl ⟨i, j, h1.int, h2.int, h, q.same own (by simp only [RepD])⟩)
      · cases e
    | _ => cases e
  | tuple xs =>
    cases d2 with
    | int k =>
      simp only [binD] at e
      split at e
      · rename_i h
        cases e
        obtain ⟨a, vs, rfl, s1, r1⟩ := h1.tuple
        have l1 := r1.length
        obtain ⟨n0, n1, n2, n3⟩ := h
        refine .inr (.inr (.inl ⟨a, k, vs, rfl, h2.int, s1, fun z => n0 ?_, n1, n2, by omega, fun p hp => q.tup own (r1.flat _) p hp⟩))
        subst z
        exact List.length_eq_zero_iff.mp (by simpa using l1)
      · cases e
    | _ => cases e
  | list xs =>
    cases d2 with
    | int k =>
      simp only [binD] at e
      split at e
      · rename_i h
        cases e
        obtain ⟨a, vs, rfl, s1, r1⟩ := h1.list
        have l1 := r1.length
        obtain ⟨n1, n2, n3⟩ := h
        exact .inr (.inr (.inr ⟨a, k, vs, rfl, h2.int, s1, n1, n2, by rw [← l1]; exact n3, fun p hp => q.lst own (r1.flat _) p hp⟩))
      · cases e
    | _ => cases e
  | _ => cases e
/-- + - * and so on -/
def rBin (K : PySem.W.Frag) : Operator → R2
  | .Add => rAdd4 K
  | .Sub => rI0 fun i j => .int (i - j)
  | .Mult => rMul4 K
  | .FloorDiv => rI CDivW fun i j => .int (i / j)
  | .Mod => rI (fun _ j => 0 < j) fun i j => .int (i % j)
  | .Pow => rI CPow fun i j => .int (i ^ j.toNat)
  | _ => fun _ _ _ _ => False
theorem or_bin (op : Operator) : OpR X (binaryOp op) (rBin X.K op) := by
  cases op with
  | Add => exact or_add
  | Sub => exact op_sub
  | Mult => exact or_mul
  | FloorDiv => exact op_fdivW
  | Mod => exact op_mod
  | Pow => exact op_pow
  | _ => exact OpR.never
theorem ho_bin (op : Operator) : HOp2 K (binD op) (rBin K op) := by
  cases op with
  | Add => exact ho_add
  | Sub => exact ho_sub
  | Mult => exact ho_mul
  | FloorDiv => exact ho_div
  | Mod => exact ho_mod
  | Pow => exact ho_pow
  | _ => intro O H d1 d2 x y res Q own h1 h2 e q; cases d1 <;> cases d2 <;> cases e
/-- comparisons -/
def rCmp (K : PySem.W.Frag) : CmpOp → R2
  | .Eq => rEqD K
  | .NotEq => rNeD K
  | .Lt => rI0 fun i j => .bl (decide (i < j))
  | .LtE => rI0 fun i j => .bl (decide (i ≤ j))
  | .Gt => rI0 fun i j => .bl (decide (j < i))
  | .GtE => rI0 fun i j => .bl (decide (j ≤ i))
  | .In => rInD K
  | .NotIn => rNotInD K
  | _ => fun _ _ _ _ => False
theorem or_cmp {k : Nat} (hr : Room k X.A) (op : CmpOp) : OpR X (compareOp op) (rCmp X.K op) := by
  have hu : X.A.units + 65 < cLine := by have := hr.un; omega
  cases op with
  | Eq => exact op_eqD hr.units
  | NotEq => exact op_neD hr.units
  | Lt => exact op_lt
  | LtE => exact op_le
  | Gt => exact op_gt
  | GtE => exact op_ge
  | In => exact op_inD hu
  | NotIn => exact op_notInD hu
  | _ => exact OpR.never
theorem ho_cmp (op : CmpOp) : HOp2 K (cmpD op) (rCmp K op) := by
  intro O H d1 d2 x y res Q own h1 h2 e q
  have eqs : ∀ (f : Bool), (if SeqAt.shaped d1 = true ∧ SeqAt.shaped d2 = true then b2s f else none) = some res → SeqAt.shaped d1 = true ∧ SeqAt.shaped d2 = true ∧ res = .v (.bool f) := fun f e => by
    split at e
    · rename_i h; cases e; exact ⟨h.1, h.2, rfl⟩
    · cases e
  cases op with
  | Eq =>
    obtain ⟨s1, s2, rfl⟩ := eqs _ e
    exact ⟨d1, d2, h1.dp, h2.dp, s1, s2, q.same own (by simp only [RepD])⟩
  | NotEq =>
    obtain ⟨s1, s2, rfl⟩ := eqs _ e
    exact ⟨d1, d2, h1.dp, h2.dp, s1, s2, q.same own (by simp only [RepD])⟩
  | Is => cases d1 <;> cases d2 <;> cases e
  | IsNot => cases d1 <;> cases d2 <;> cases e
  | In =>
    cases d2 with
    | list ds =>
      have e' : (if SeqAt.shaped d1 = true ∧ SeqAt.shaped (.list ds) = true then b2s (ds.any fun z => PyData.eqv z d1) else none) = some res := by cases d1 <;> exact e
      obtain ⟨s1, s2, rfl⟩ := eqs _ e'
      exact ⟨d1, ds, h1.dp, h2.dp, s1, s2, q.same own (by simp only [RepD])⟩
    | _ => cases d1 <;> cases e
  | NotIn =>
    cases d2 with
    | list ds =>
      have e' : (if SeqAt.shaped d1 = true ∧ SeqAt.shaped (.list ds) = true then b2s (!ds.any fun z => PyData.eqv z d1) else none) = some res := by cases d1 <;> exact e
      obtain ⟨s1, s2, rfl⟩ := eqs _ e'
      exact ⟨d1, ds, h1.dp, h2.dp, s1, s2, q.same own (by simp only [RepD])⟩
    | _ => cases d1 <;> cases e
  | _ =>
    cases d1 with
    | int i =>
      cases d2 with
      | int j => cases e; exact ⟨i, j, h1.int, h2.int, q.same own (by simp only [RepD])⟩
      | _ => cases e
    | _ => cases d2 <;> cases e
def rIdx (K : PySem.W.Frag) : R2 := fun x y H Q => rIxL K x y H Q ∨ rIxT K x y H Q
theorem atI_rep {O : Own} {H : Hp} {xs : List D} {vs : List V} {i : Int} {d : D} (r : RepDs K O H xs vs) (e : atI xs i = some d) : ∃ v, atI vs i = some v ∧ RepD K O H d v := by
  unfold atI at e ⊢
  simp only [Option.bind_eq_some_iff] at e
  obtain ⟨j, h1, h2⟩ := e
  obtain ⟨v, h3, h4⟩ := r.get h2
  exact ⟨v, by rw [← r.length, h1]; exact h3, h4⟩
theorem ho_idx : HOp2 K idxD (rIdx K) := by
  intro O H d1 d2 x y res Q own h1 h2 e q
  cases d2 with
  | int i =>
    cases d1 with
    | list xs =>
      simp only [idxD, Option.map_eq_some_iff] at e
      obtain ⟨d, e1, rfl⟩ := e
      obtain ⟨a, vs, rfl, s1, r1⟩ := h1.list
      obtain ⟨v, e2, r2⟩ := atI_rep r1 e1
      exact .inl ⟨a, vs, i, v, rfl, h2.int, SqL.of s1, e2, q.same own r2⟩
    | tuple xs =>
      simp only [idxD, Option.map_eq_some_iff] at e
      obtain ⟨d, e1, rfl⟩ := e
      obtain ⟨a, vs, rfl, s1, r1⟩ := h1.tuple
      obtain ⟨v, e2, r2⟩ := atI_rep r1 e1
      exact .inr ⟨a, vs, i, v, rfl, h2.int, s1, e2, q.same own r2⟩
    | _ => cases e
  | _ => cases d1 <;> cases e
theorem ho_neg : HOp1 K negD (rU fun i => .int (-i)) := by
  intro O H d x res Q own h e q
  cases d with
  | int i => cases e; exact ⟨i, h.int, q.same own (by simp only [RepD])⟩
  | _ => cases e
def dNone : D → Bool
  | .none => true
  | _ => false
theorem isn_rep {O : Own} {H : Hp} {d : D} {x : V} (h : RepP K O H d x) : decide (x = .non) = dNone d := by
  cases d with
  | none => have e := h.none; subst e; rfl
  | bool b => have e := h.bool; subst e; rfl
  | int b => have e := h.int; subst e; rfl
  | str b => have e := h.str; subst e; rfl
  | list b => obtain ⟨a, vs, e, _⟩ := h.list; subst e; rfl
  | tuple b => obtain ⟨a, vs, e, _⟩ := h.tuple; subst e; rfl
  | dict b => exact h.dict.elim
theorem isnD_eq (ng : Bool) (d : D) : isnD ng d = some (.v (.bool (if ng then !dNone d else dNone d))) := by
  cases d <;> cases ng <;> rfl
end
end Mini

namespace Mini
open PySem PySem.Spec L2
section
variable {K : PySem.W.Frag} {O O' : Own} {H H' : Hp} {env : En} {σ : St} {i : Nat}
theorem W.lt (w : W K O H env σ) {s : Sl} (e : env[i]? = some s) : i < env.length ∧ i < σ.length := by
  have := (List.getElem?_eq_some_iff.mp e).1
  exact ⟨this, w.len ▸ this⟩
/-- slot i's content is replaced (σ the same there): the rest stands -/
theorem W.put {s t : Sl} {v : V} (w : W K O H env σ) (st : Step O H (Fp H s v) O' H' (Fp H' t v)) (e : env[i]? = some s) (es : σ[i]? = some (some v)) (r : RepS K O' H' t v) :
    W K O' H' (env.set i t) σ ∧ Step O H (FpE H env σ) O' H' (FpE H' (env.set i t) σ) := by
  obtain ⟨l1, l2⟩ := w.lt e
  have other : ∀ (j : Nat) (u : Sl) (x : V), j ≠ i → env[j]? = some u → σ[j]? = some (some x) → u = .no ∨ (RepS K O' H' u x ∧ ∀ b, Fp H' u x b → Fp H u x b) := fun j u x n e1 e2 => by
    rcases w.rep j u e1 with z | ⟨y, h1, h2⟩
    · exact .inl z
    · rw [e2] at h1; cases h1
      exact .inr (RepS.keep st h2 fun b f g => w.sep j i u s x v b n e1 e e2 es f g)
  have ofp : ∀ (j : Nat) (u : Sl) (x : V) (b : Addr), j ≠ i → env[j]? = some u → σ[j]? = some (some x) → Fp H' u x b → Fp H u x b := fun j u x b n e1 e2 f => by
    rcases other j u x n e1 e2 with rfl | z
    · exact f.elim
    · exact z.2 b f
  have get : ∀ (j : Nat) (u : Sl), (env.set i t)[j]? = some u → (j = i ∧ u = t) ∨ (j ≠ i ∧ env[j]? = some u) := fun j u z => by
    by_cases hj : j = i
    · subst hj; rw [List.getElem?_set_self l1] at z; exact .inl ⟨rfl, (Option.some.inj z).symm⟩
    · rw [List.getElem?_set_ne (Ne.symm hj)] at z; exact .inr ⟨hj, z⟩
  -- t's addresses are s's or new
  have tn : ∀ b, Fp H' t v b → Fp H s v b ∨ H b = none := fun b f => st.fps b f
  have apart : ∀ (j : Nat) (u : Sl) (x : V) (b : Addr), j ≠ i → env[j]? = some u → σ[j]? = some (some x) → Fp H' u x b → Fp H' t v b → False := fun j u x b n e1 e2 f g => by
    have f' := ofp j u x b n e1 e2 f
    rcases tn b g with z | z
    · exact w.sep j i u s x v b n e1 e e2 es f' z
    · obtain ⟨xs, q⟩ := w.own b (w.fpOwn ⟨j, u, x, e1, e2, f'⟩)
      rw [q] at z; cases z
  refine ⟨⟨st.own, by rw [List.length_set]; exact w.len, fun j u z => ?_, fun j k u y x z b n e1 e2 e3 e4 f1 f2 => ?_⟩, ⟨st.evo, st.own, fun b ob nf => st.keepO b ob fun f => nf ⟨i, s, v, e, es, f⟩, fun b ⟨j, u, x, e1, e2, f⟩ => ?_⟩⟩
  · rcases get j u z with ⟨rfl, rfl⟩ | ⟨n, z⟩
    · exact .inr ⟨v, es, r⟩
    · rcases w.rep j u z with q | ⟨y, h1, h2⟩
      · exact .inl q
      · rcases other j u y n z h1 with q | q
        · exact .inl q
        · exact .inr ⟨y, h1, q.1⟩
  · rcases get j u e1 with ⟨rfl, rfl⟩ | ⟨n1, q1⟩ <;> rcases get k y e2 with ⟨rfl, rfl⟩ | ⟨n2, q2⟩
    · exact n rfl
    · rw [es] at e3; cases e3; exact apart k y z b n2 q2 e4 f2 f1
    · rw [es] at e4; cases e4; exact apart j u x b n1 q1 e3 f1 f2
    · exact w.sep j k u y x z b n q1 q2 e3 e4 (ofp j u x b n1 q1 e3 f1) (ofp k y z b n2 q2 e4 f2)
  · rcases get j u e1 with ⟨rfl, rfl⟩ | ⟨n, q⟩
    · rw [es] at e2; cases e2
      rcases st.fps b f with z | z
      · exact .inl ⟨j, s, v, e, es, z⟩
      · exact .inr z
    · exact .inl ⟨j, u, x, q, e2, ofp j u x b n q e2 f⟩
/-- an owned list frozen where it stands -/
theorem W.freeze {xs : List D} (w : W K O H env σ) (e : env[i]? = some (.l xs)) : ∃ v O1, σ[i]? = some (some v) ∧ W K O1 H (env.set i (.v (.list xs))) σ ∧ Step O H (FpE H env σ) O1 H (FpE H (env.set i (.v (.list xs))) σ) ∧ RepD K O1 H (.list xs) v := by
  rcases w.rep i _ e with z | ⟨v, es, r⟩
  · cases z
  obtain ⟨a, vs, rfl, h1, h2, h3⟩ := id r
  have ev : Evo O H (fun b => O b ∧ b ≠ a) H := evo_less w.own fun b z => z.1
  have rd : RepD K (fun b => O b ∧ b ≠ a) H (.list xs) (.ref a) := by
    simp only [RepD]
    exact ⟨a, vs, rfl, h1, fun z => z.2 rfl, RepDs.evo ev _ _ h3⟩
  have st : Step O H (Fp H (.l xs) (.ref a)) (fun b => O b ∧ b ≠ a) H (Fp H (.v (.list xs)) (.ref a)) :=
    ⟨ev, fun b z => w.own b z.1, fun b z n => ⟨⟨z, fun q => n (by rw [q]; rfl)⟩, rfl⟩, fun b f => f.elim⟩
  obtain ⟨w1, s1⟩ := w.put st e es rd
  exact ⟨.ref a, _, es, w1, s1, rd⟩
/-- an owned list changed in place -/
theorem W.write {xs ys : List D} {us : List V} (w : W K O H env σ) (e : env[i]? = some (.l xs)) (a : Addr) (es : σ[i]? = some (some (.ref a))) (ry : RepDs K O H ys us) :
    W K O (upd H a (.lst us)) (env.set i (.l ys)) σ ∧ Step O H (FpE H env σ) O (upd H a (.lst us)) (FpE (upd H a (.lst us)) (env.set i (.l ys)) σ) := by
  rcases w.rep i _ e with z | ⟨v, es', r⟩
  · cases z
  rw [es] at es'; cases es'
  obtain ⟨a', vs, z, h1, h2, h3⟩ := r
  cases z
  have ev : Evo O H O (upd H a (.lst us)) := ⟨w.own, fun b o q n => by rw [upd_ne (fun z => n (by rw [z]; exact h2))]; exact q, fun b z => .inl z, fun b z => by
    by_cases hb : b = a
    · rw [hb, upd_same]; exact Option.some_ne_none _
    · rw [upd_ne hb]; exact z⟩
  have own' : OwnOk O (upd H a (.lst us)) := fun b z => by
    by_cases hb : b = a
    · rw [hb]; exact ⟨us, upd_same⟩
    · rw [upd_ne hb]; exact w.own b z
  have st : Step O H (Fp H (.l xs) (.ref a)) O (upd H a (.lst us)) (Fp (upd H a (.lst us)) (.l ys) (.ref a)) :=
    ⟨ev, own', fun b z n => ⟨z, upd_ne fun q => n (by rw [q]; rfl)⟩, fun b f => .inl f⟩
  exact w.put st e es ⟨a, us, rfl, upd_same, h2, RepDs.evo ev _ _ ry⟩
/-- a result stored: the slot's name takes it -/
theorem WR.store {r s : Sl} {v : V} (w : WR K O H env σ r v) (e : env[i]? = some s) (nb : s.isBx = false) :
    W K O H (env.set i r) (σ.set i (some v)) ∧ ∀ b, FpE H (env.set i r) (σ.set i (some v)) b → FpE H env σ b ∨ Fp H r v b := by
  obtain ⟨l1, l2⟩ := w.w.lt e
  have get : ∀ (j : Nat) (u : Sl), (env.set i r)[j]? = some u → (j = i ∧ u = r) ∨ (j ≠ i ∧ env[j]? = some u) := fun j u z => by
    by_cases hj : j = i
    · subst hj; rw [List.getElem?_set_self l1] at z; exact .inl ⟨rfl, (Option.some.inj z).symm⟩
    · rw [List.getElem?_set_ne (Ne.symm hj)] at z; exact .inr ⟨hj, z⟩
  have ge2 : ∀ (j : Nat), j ≠ i → (σ.set i (some v))[j]? = σ[j]? := fun j n => List.getElem?_set_ne (Ne.symm n)
  have ge1 : (σ.set i (some v))[i]? = some (some v) := List.getElem?_set_self l2
  refine ⟨⟨w.w.own, by rw [List.length_set, List.length_set]; exact w.w.len, fun j u z => ?_, fun j k u y x z b n e1 e2 e3 e4 f1 f2 => ?_⟩, fun b ⟨j, u, x, e1, e2, f⟩ => ?_⟩
  · rcases get j u z with ⟨rfl, rfl⟩ | ⟨n, z⟩
    · exact .inr ⟨v, ge1, w.val⟩
    · rw [ge2 j n]; exact w.w.rep j u z
  · rcases get j u e1 with ⟨rfl, rfl⟩ | ⟨n1, q1⟩ <;> rcases get k y e2 with ⟨rfl, rfl⟩ | ⟨n2, q2⟩
    · exact n rfl
    · rw [ge1] at e3; cases e3; rw [ge2 k n2] at e4; exact w.sep b f1 ⟨k, y, z, q2, e4, f2⟩
    · rw [ge1] at e4; cases e4; rw [ge2 j n1] at e3; exact w.sep b f2 ⟨j, u, x, q1, e3, f1⟩
    · rw [ge2 j n1] at e3; rw [ge2 k n2] at e4; exact w.w.sep j k u y x z b n q1 q2 e3 e4 f1 f2
  · rcases get j u e1 with ⟨rfl, rfl⟩ | ⟨n, q⟩
    · rw [ge1] at e2; cases e2; exact .inr f
    · rw [ge2 j n] at e2; exact .inl ⟨j, u, x, q, e2, f⟩
/-- a slot forgotten -/
theorem W.wipe1 (w : W K O H env σ) (i : Nat) : W K O H (env.set i .no) σ ∧ ∀ b, FpE H (env.set i .no) σ b → FpE H env σ b := by
  have get : ∀ (j : Nat) (u : Sl), (env.set i .no)[j]? = some u → u = .no ∨ env[j]? = some u := fun j u z => by
    by_cases hj : j = i
    · subst hj
      by_cases hl : j < env.length
      · rw [List.getElem?_set_self hl] at z; exact .inl (Option.some.inj z).symm
      · rw [List.getElem?_eq_none (by simpa using hl)] at z; cases z
    · rw [List.getElem?_set_ne (Ne.symm hj)] at z; exact .inr z
  refine ⟨⟨w.own, by rw [List.length_set]; exact w.len, fun j u z => ?_, fun j k u y x z b n e1 e2 e3 e4 f1 f2 => ?_⟩, fun b ⟨j, u, x, e1, e2, f⟩ => ?_⟩
  · rcases get j u z with q | q
    · exact .inl q
    · exact w.rep j u q
  · rcases get j u e1 with rfl | q1
    · exact f1
    · rcases get k y e2 with rfl | q2
      · exact f2
      · exact w.sep j k u y x z b n q1 q2 e3 e4 f1 f2
  · rcases get j u e1 with rfl | q
    · exact f.elim
    · exact ⟨j, u, x, q, e2, f⟩
theorem W.wipeE (w : W K O H env σ) : ∀ (own : List Nat), W K O H (wipeE env own) σ ∧ ∀ b, FpE H (wipeE env own) σ b → FpE H env σ b
  | [] => ⟨w, fun _ f => f⟩
  | v :: vs => by
    obtain ⟨w1, k1⟩ := W.wipeE w vs
    obtain ⟨w2, k2⟩ := w1.wipe1 v
    exact ⟨w2, fun b f => k1 b (k2 b f)⟩
end
end Mini

namespace Mini
open PySem PySem.Spec L2
theorem bOf_some {s : Sl} {k : Bool} (h : bOf s = some k) : s = .v (.bool k) := by
  unfold bOf at h
  split at h
  · cases h; rfl
  · cases h
section
variable {X : Cx} {e a b c : Expr} {ma mb mc : M} {pos : Pos}
/-! names, constants -/
theorem se_var {i : Nat} {x : Str} (hN : X.N[i]? = some x) (hv : Vis X.env.scope x) (hd : (x == ("__debug__" : Str)) = false) (hcd : (x == ("__classdict__" : Str)) = false) : SE X (.Name x pos) (varM i) := by
  have pe : PE X (.Name x pos) (tVar i) := pe_var hN hv hd hcd
  have po : PE X (.Name x pos) (tO X.K (varM i).opd) := pe.imp fun σ H Q q => by
    obtain ⟨O, env, p, env', w, h, q⟩ := q
    simp only [varM] at h
    split at h
    · rename_i d hd'
      cases h
      rcases w.rep i _ hd' with z | ⟨v, e1, e2⟩
      · cases z
      · exact ⟨v, e1, q O H v (Step.refl w.own) w e2⟩
    · rename_i xs hd'
      cases h
      rcases w.rep i _ hd' with z | ⟨v, e1, e2⟩
      · cases z
      · exact ⟨v, e1, q O H v (Step.refl w.own) w e1⟩
    · cases h
  refine ⟨pe.imp fun σ H Q q => ?_, po, pt_tr rfl po⟩
  obtain ⟨O, env, r, env', w, h, q⟩ := q
  simp only [varM] at h
  split at h
  · rename_i d hd'
    cases h
    rcases w.rep i _ hd' with z | ⟨v, e1, e2⟩
    · cases z
    · exact ⟨v, e1, q O H v ((Step.refl w.own).sub fun b f => f.elim id fun z => z.elim) ⟨w, e2, fun b f => f.elim⟩⟩
  · rename_i xs hd'
    cases h
    obtain ⟨v, O1, e1, w1, st, rd⟩ := w.freeze hd'
    exact ⟨v, e1, q O1 H v (st.sub fun b f => f.elim id fun z => z.elim) ⟨w1, rd, fun b f => f.elim⟩⟩
  · cases h
theorem te_cst {K : PySem.W.Frag} {d : D} {v : V} (r : ∀ (O : Own) (H : Hp), RepD K O H d v) {σ : St} {H : Hp} {Q : VK} (q : tE K (fun env => some (.v d, env)) σ H Q) : tC v σ H Q := by
  obtain ⟨O, env, s, env', w, h, q⟩ := q
  cases h
  exact q O H v ((Step.refl w.own).sub fun b f => f.elim id fun z => z.elim) ⟨w, r O H, fun b f => f.elim⟩
def cstD : Const → Option D
  | .none => some .none
  | .bool b => some (.bool b)
  | .int i => some (.int i)
  | .str s => some (.str s)
  | _ => none
theorem se_cst {k : Const} {j : Nat} {d : D} (h : cstD k = some d) : SE X (.Constant k j pos) (.ofVal fun env => some (.v d, env)) := by
  refine .ofVal rfl ?_
  cases k with
  | none => cases h; exact pe_non.imp fun _ _ _ q => te_cst (fun _ _ => by simp only [RepD]) q
  | bool b => cases h; exact pe_bl.imp fun _ _ _ q => te_cst (fun _ _ => by simp only [RepD]) q
  | int b => cases h; exact pe_int.imp fun _ _ _ q => te_cst (fun _ _ => by simp only [RepD]) q
  | str b => cases h; exact pe_str.imp fun _ _ _ q => te_cst (fun _ _ => by simp only [RepD]) q
  | _ => cases h
/-- a constant of the module -/
def GlOk (X : Cx) (x : Str) (d : D) : Prop := ∃ v u, X.mg x = some u ∧ RelV v u ∧ ∀ (O : Own) (H : Hp), RepD X.K O H d v
theorem se_glob {x : Str} {d : D} (hg : Gl X x) (h : GlOk X x d) (hd : (x == ("__debug__" : Str)) = false) : SE X (.Name x pos) (.ofVal fun env => some (.v d, env)) := by
  obtain ⟨v, u, hm, r, rd⟩ := h
  exact .ofVal rfl ((pe_glob hg hm r hd).imp fun _ _ _ q => te_cst rd q)
/-! operators -/
theorem se_bin {op : Operator} (ha : SE X a ma) (hb : SE X b mb) : SE X (.BinOp a op b pos) (op2 (binD op) ma mb) :=
  .ofVal rfl ((pe_op (or_bin op) ha.opd hb.opd).imp fun _ _ _ q => te_op2 (ho_bin op) q)
theorem se_neg (ha : SE X a ma) : SE X (.UnaryOp .USub a pos) (op1 negD ma) :=
  .ofVal rfl ((pe_un un_neg ha.opd).imp fun _ _ _ q => te_op1 ho_neg q)
theorem se_idx (ha : SE X a ma) (hb : SE X b mb) (hs : PlainIx b) : SE X (.Subscript a b pos) (op2 idxD ma mb) :=
  .ofVal rfl ((pe_ix (ix_list.or ix_tup) ha.opd hb.opd hs).imp fun _ _ _ q => te_op2 ho_idx q)
/-- a comparison, as a value and as a test -/
theorem se_of_cmp {f : En → Option (Sl × En)} (h : PE X e (tE X.K f)) (ht : PT X e (tT X.K (M.cmp f).tst)) : SE X e (.cmp f) :=
  ⟨h, pe_opd (pe_frz h), ht⟩
theorem tt_of_te {K : PySem.W.Frag} {f : En → Option (Sl × En)} {σ : St} {H : Hp} {Q : Bool → Hp → Prop} (q : tT K (M.cmp f).tst σ H Q) : tE K f σ H fun x H' => ∃ k, x = .bl k ∧ Q k H' := by
  obtain ⟨O, env, b, env', w, h, q⟩ := q
  simp only [M.cmp, Option.bind_eq_some_iff, Option.map_eq_some_iff] at h
  obtain ⟨⟨s, e1⟩, h1, b', h2, h3⟩ := h
  cases h3
  refine ⟨O, env, s, e1, w, h1, fun O' H' v st wr => ?_⟩
  have e2 : s = .v (.bool b) := bOf_some h2
  subst e2
  have e3 : v = .bl b := by simpa only [RepS, RepD] using wr.val
  exact ⟨b, e3, q O' H' (st.sub fun b f => .inl f) wr.w⟩
theorem se_cmp {k : Nat} (hr : Room k X.A) {op : CmpOp} (ha : SE X a ma) (hb : SE X b mb) (hm : behindInMarks op b = false) : SE X (.Compare a [op] [b] pos) (cmpM op ma mb) :=
  se_of_cmp ((pe_cmpR (or_cmp hr op) ha.opd hb.opd hm).imp fun _ _ _ q => te_op2 (ho_cmp op) q)
    ((pt_cmpR (or_cmp hr op) ha.opd hb.opd hm).imp fun σ H Q q => te_op2 (ho_cmp op) (tt_of_te q))
theorem te_isn {K : PySem.W.Frag} {ng : Bool} {σ : St} {H : Hp} {Q : VK} (q : tE K (op1 (isnD ng) ma).val σ H Q) : tO K ma.opd σ H fun x H1 => Q (.bl (if ng then !decide (x = .non) else decide (x = .non))) H1 := by
  refine te_op1 (r := fun x H Q => Q (.bl (if ng then !decide (x = .non) else decide (x = .non))) H) (fun O H d x res Q own h e q => ?_) q
  rw [isnD_eq] at e
  cases e
  rw [isn_rep h]
  exact q.same own (by simp only [RepD])
theorem se_is {j : Nat} {p : Pos} (ha : SE X a ma) : SE X (.Compare a [.Is] [.Constant .none j p] pos) (isnM false ma) :=
  se_of_cmp ((pe_cmp (pc_isN ha.opd)).imp fun _ _ _ q => te_isn (ng := false) q) ((pt_cmp (pc_isN ha.opd)).imp fun _ _ _ q => te_isn (ng := false) (tt_of_te q))
theorem se_isnot {j : Nat} {p : Pos} (ha : SE X a ma) : SE X (.Compare a [.IsNot] [.Constant .none j p] pos) (isnM true ma) :=
  se_of_cmp ((pe_cmp (pc_notN ha.opd)).imp fun _ _ _ q => te_isn (ng := true) q) ((pt_cmp (pc_notN ha.opd)).imp fun _ _ _ q => te_isn (ng := true) (tt_of_te q))
/-! a < b < c -/
theorem te_chn {K : PySem.W.Frag} {o1 o2 : CmpOp} {σ : St} {H : Hp} {Q : VK} (q : tE K (chnM o1 o2 ma mb mc).val σ H Q) : tChain (rCmp K o1) (rCmp K o2) (tO K ma.opd) (tO K mb.opd) (tO K mc.opd) σ H Q := by
  obtain ⟨O, env, s, env', w, e, q⟩ := q
  simp only [chnM, M.cmp, M.ofVal, Option.bind_eq_some_iff] at e
  obtain ⟨⟨p, e1⟩, h1, ⟨p2, e2⟩, h2, d, h3, d2, h4, r, h5, k, h6, h7⟩ := e
  have er := bOf_some h6
  subst er
  refine ⟨O, env, p, e1, w, h1, fun O1 H1 v1 st1 w1 rp1 => ⟨O1, e1, p2, e2, w1, h2, fun O2 H2 v2 st2 w2 rp2 => ?_⟩⟩
  have st12 := st1.trans st2 fun _ z => z
  refine ho_cmp o1 O2 H2 d d2 v1 v2 _ _ w2.own (RepO.get w2 (RepO.evo st2.evo rp1) h3) (RepO.get w2 rp2 h4) h5 (RP.end_ w2 fun O3 H3 v3 st3 wr => ?_)
  have e3 : v3 = .bl k := by simpa only [RepS, RepD] using wr.val
  have st123 := st12.trans st3 fun _ z => z
  refine ⟨k, e3, ?_⟩
  cases k with
  | false =>
    rw [if_neg (by decide)] at h7
    cases h7
    rw [if_neg (by decide)]
    exact q O3 H3 (.bl false) st123 ⟨wr.w, by simp only [RepS, RepD], fun b f => f.elim⟩
  | true =>
    rw [if_pos rfl] at h7
    simp only [Option.bind_eq_some_iff, Option.map_eq_some_iff] at h7
    obtain ⟨⟨p3, e4⟩, h8, y2, h9, z, h10, r2, h11, h12⟩ := h7
    cases h12
    rw [if_pos rfl]
    refine ⟨O3, e2, p3, e4, wr.w, h8, fun O4 H4 v4 st4 w4 rp4 => ?_⟩
    refine ho_cmp o2 O4 H4 y2 z v2 v4 _ _ w4.own (RepO.get w4 (RepO.evo st4.evo (RepO.evo st3.evo rp2)) h9) (RepO.get w4 rp4 h10) h11 (RP.end_ w4 fun O5 H5 v5 st5 wr5 => ?_)
    exact q O5 H5 v5 ((st123.trans st4 fun _ z => .inl z).trans st5 fun _ z => z) wr5
theorem se_chn {k : Nat} (hr : Room k X.A) {o1 o2 : CmpOp} (ha : SE X a ma) (hb : SE X b mb) (hc : SE X c mc) (pe : PE X (.Compare a [o1, o2] [b, c] pos) (tChain (rCmp X.K o1) (rCmp X.K o2) (tO X.K ma.opd) (tO X.K mb.opd) (tO X.K mc.opd)))
    (pt : PT X (.Compare a [o1, o2] [b, c] pos) (tTest (tChain (rCmp X.K o1) (rCmp X.K o2) (tO X.K ma.opd) (tO X.K mb.opd) (tO X.K mc.opd)))) : SE X (.Compare a [o1, o2] [b, c] pos) (chnM o1 o2 ma mb mc) :=
  se_of_cmp (pe.imp fun _ _ _ q => te_chn q) (pt.imp fun _ _ _ q => te_chn (tt_of_te q))
/-! not, and, or, if else -/
theorem te_tru {K : PySem.W.Frag} {g : En → Option (Opd × En)} {σ : St} {H : Hp} {Q : Bool → Hp → Prop} (q : tT K (trM g) σ H Q) : tO K g σ H fun x H' => ∃ k, TruV K x H' k ∧ Q k H' := by
  obtain ⟨O, env, b, env', w, h, q⟩ := q
  simp only [trM, Option.bind_eq_some_iff, Option.map_eq_some_iff] at h
  obtain ⟨⟨p, e1⟩, h1, d, h2, k, h3, h4⟩ := h
  cases h4
  exact ⟨O, env, p, e1, w, h1, fun O' H' v st w' r => ⟨b, truth_tru (RepO.get w' r h2) h3, q O' H' st w'⟩⟩
theorem se_not (ha : SE X a ma) : SE X (.UnaryOp .Not a pos) (notM ma) := by
  have pe : PE X (.UnaryOp .Not a pos) (tE X.K (notM ma).val) := (pe_notT ha.opd).imp fun σ H Q q => by
    obtain ⟨O, env, s, env', w, h, q⟩ := q
    simp only [notM, M.ofVal, Option.map_eq_some_iff] at h
    obtain ⟨⟨k, e1⟩, h1, h2⟩ := h
    cases h2
    exact te_tru (Q := fun k H1 => Q (.bl (!k)) H1) ⟨O, env, k, e1, w, h1, fun O' H' st w' => q O' H' (.bl (!k)) (st.sub fun b f => f.elim id fun z => z.elim) ⟨w', by simp only [RepS, RepD], fun b f => f.elim⟩⟩
  refine ⟨pe, pe_opd (pe_frz pe), (pt_not ha.tst).imp fun σ H Q q => ?_⟩
  obtain ⟨O, env, s, env', w, h, q⟩ := q
  simp only [notM, Option.map_eq_some_iff] at h
  obtain ⟨⟨k, e1⟩, h1, h2⟩ := h
  cases h2
  exact ⟨O, env, k, e1, w, h1, q⟩
/-- the items of and, or -/
inductive SEs (X : Cx) : List Expr → List M → Prop
  | nil : SEs X [] []
  | cons {e es m ms} : SE X e m → SEs X es ms → SEs X (e :: es) (m :: ms)
theorem bopV_two {o : BoolOp} {a b : M} {r : List M} {env : En} : bopV o (a :: b :: r) env = (frzM a.val env).bind fun (d, e1) => (truth d).bind fun k => if k == isAnd o then bopV o (b :: r) e1 else some (d, e1) := rfl
theorem bopT_two {o : BoolOp} {a b : M} {r : List M} {env : En} : bopT o (a :: b :: r) env = (a.tst env).bind fun (k, e1) => if k == isAnd o then bopT o (b :: r) e1 else some (k, e1) := rfl
theorem pe_bop {o : BoolOp} : ∀ {es : List Expr} {ms : List M}, es ≠ [] → SEs X es ms → PE X (.BoolOp o es pos) (tD X.K (bopV o ms))
  | [], _, n, _ => absurd rfl n
  | [e], _, _, .cons h .nil => pe_one h.d
  | e :: e2 :: es, _, _, .cons (ms := m2 :: ms) (m := m) h (.cons h2 hs) => by
    have ih := pe_bop (o := o) (es := e2 :: es) (by simp) (.cons h2 hs)
    have key : ∀ {σ : St} {H : Hp} {Q : VK}, tD X.K (bopV o (m :: m2 :: ms)) σ H Q → tD X.K (frzM m.val) σ H fun x H1 => ∃ k, TruV X.K x H1 k ∧ if (k == isAnd o) = true then tD X.K (bopV o (m2 :: ms)) σ H1 Q else Q x H1 := by
      intro σ H Q q
      obtain ⟨O, env, d, env', w, h, q⟩ := q
      rw [bopV_two] at h
      simp only [Option.bind_eq_some_iff] at h
      obtain ⟨⟨d1, e1⟩, h1, k, h2, h3⟩ := h
      refine ⟨O, env, d1, e1, w, h1, fun O1 H1 v1 st1 w1 r1 => ⟨k, truth_tru (.inl r1) h2, ?_⟩⟩
      split at h3
      · rename_i hk
        rw [if_pos hk]
        exact ⟨O1, e1, d, env', w1, h3, fun O2 H2 v2 st2 w2 r2 => q O2 H2 v2 (st1.trans st2 fun _ z => z) w2 r2⟩
      · rename_i hk
        cases h3
        rw [if_neg hk]
        exact q O1 H1 v1 st1 w1 r1
    cases o with
    | And =>
      refine (pe_andT h.d ih).imp fun σ H Q q => ?_
      obtain ⟨O, env, d, env', w, h, q⟩ := key q
      refine ⟨O, env, d, env', w, h, fun O' H' v st w' r => ?_⟩
      obtain ⟨k, t, q⟩ := q O' H' v st w' r
      refine ⟨k, t, ?_⟩
      cases k <;> exact q
    | Or =>
      refine (pe_orT h.d ih).imp fun σ H Q q => ?_
      obtain ⟨O, env, d, env', w, h, q⟩ := key q
      refine ⟨O, env, d, env', w, h, fun O' H' v st w' r => ?_⟩
      obtain ⟨k, t, q⟩ := q O' H' v st w' r
      refine ⟨k, t, ?_⟩
      cases k <;> exact q
theorem pw_bop {o : BoolOp} : ∀ {es : List Expr} {ms : List M}, es ≠ [] → SEs X es ms → PW X (.BoolOp o es pos) (tT X.K (bopT o ms))
  | [], _, n, _ => absurd rfl n
  | [e], _, _, .cons h .nil => by cases o; exact pw_and1 h.tst; exact pw_or1 h.tst
  | e :: e2 :: es, _, _, .cons (ms := m2 :: ms) (m := m) h (.cons h2 hs) => by
    have ih := pw_bop (o := o) (es := e2 :: es) (by simp) (.cons h2 hs)
    have key : ∀ {σ : St} {H : Hp} {Q : Bool → Hp → Prop}, tT X.K (bopT o (m :: m2 :: ms)) σ H Q → tT X.K m.tst σ H fun k H1 => if (k == isAnd o) = true then tT X.K (bopT o (m2 :: ms)) σ H1 Q else Q k H1 := by
      intro σ H Q q
      obtain ⟨O, env, d, env', w, h, q⟩ := q
      rw [bopT_two] at h
      simp only [Option.bind_eq_some_iff] at h
      obtain ⟨⟨k, e1⟩, h1, h3⟩ := h
      refine ⟨O, env, k, e1, w, h1, fun O1 H1 st1 w1 => ?_⟩
      split at h3
      · rename_i hk
        rw [if_pos hk]
        exact ⟨O1, e1, d, env', w1, h3, fun O2 H2 st2 w2 => q O2 H2 (st1.trans st2 fun _ z => z) w2⟩
      · rename_i hk
        cases h3
        rw [if_neg hk]
        exact q O1 H1 st1 w1
    cases o with
    | And =>
      refine (pw_and h.tst ih).imp fun σ H Q q => ?_
      obtain ⟨O, env, k, env', w, h, q⟩ := key q
      refine ⟨O, env, k, env', w, h, fun O' H' st w' => ?_⟩
      have q := q O' H' st w'
      cases k <;> exact q
    | Or =>
      refine (pw_or h.tst ih).imp fun σ H Q q => ?_
      obtain ⟨O, env, k, env', w, h, q⟩ := key q
      refine ⟨O, env, k, env', w, h, fun O' H' st w' => ?_⟩
      have q := q O' H' st w'
      cases k <;> exact q
theorem pe_v {f : En → Option (D × En)} (h : PE X e (tD X.K f)) : PE X e (tE X.K fun env => (f env).map fun (d, e1) => (.v d, e1)) := h.imp fun σ H Q q => by
  obtain ⟨O, env, s, env', w, e, q⟩ := q
  simp only [Option.map_eq_some_iff] at e
  obtain ⟨⟨d, e1⟩, h1, h2⟩ := e
  cases h2
  exact ⟨O, env, d, e1, w, h1, fun O' H' v st w' r => q O' H' v (st.sub fun b f => f.elim id fun z => z.elim) ⟨w', r, fun b f => f.elim⟩⟩
theorem se_bop {o : BoolOp} {es : List Expr} {ms : List M} (n : es ≠ []) (h : SEs X es ms) : SE X (.BoolOp o es pos) (bopM o ms) :=
  ⟨pe_v (pe_bop n h), pe_opd (pe_frz (pe_v (pe_bop n h))), (pw_bop n h).pt⟩
theorem te_ite {K : PySem.W.Frag} {σ : St} {H : Hp} {Q : VK} (q : tE K (iteM mc ma mb).val σ H Q) : tIf (tT K mc.tst) (tE K ma.val) (tE K mb.val) σ H Q := by
  obtain ⟨O, env, s, env', w, h, q⟩ := q
  simp only [iteM, M.ofVal, Option.bind_eq_some_iff] at h
  obtain ⟨⟨k, e1⟩, h1, h2⟩ := h
  refine ⟨O, env, k, e1, w, h1, fun O1 H1 st1 w1 => ?_⟩
  split at h2
  · rename_i hk
    rw [if_pos hk]
    exact ⟨O1, e1, s, env', w1, h2, fun O2 H2 v st2 wr => q O2 H2 v (st1.trans st2 fun _ z => z) wr⟩
  · rename_i hk
    rw [if_neg hk]
    exact ⟨O1, e1, s, env', w1, h2, fun O2 H2 v st2 wr => q O2 H2 v (st1.trans st2 fun _ z => z) wr⟩
theorem pt_ite (hc : PT X c (tT X.K mc.tst)) (ha : PT X a (tT X.K ma.tst)) (hb : PT X b (tT X.K mb.tst)) : PT X (.IfExp c a b pos) (tT X.K (iteM mc ma mb).tst) := by
  refine ⟨fun pins s σ H Q I q => ?_⟩
  obtain ⟨O, env, k, env', w, h, q⟩ := q
  simp only [iteM, Option.bind_eq_some_iff] at h
  obtain ⟨⟨k1, e1⟩, h1, h2⟩ := h
  have e : ∀ wh, PySem.isTrue (.IfExp c a b pos) X.env wh = (do
    if ← PySem.isTrue c X.env (eval c X.env) then PySem.isTrue a X.env (eval a X.env) else PySem.isTrue b X.env (eval b X.env)) := by
    intro wh; simp only [PySem.isTrue]
  rw [e]
  refine wpAny_bind (thn (hc.run pins s σ H (fun k H1 => if k = true then tT X.K ma.tst σ H1 Q else tT X.K mb.tst σ H1 Q) I ⟨O, env, k1, e1, w, h1, fun O1 H1 st1 w1 => ?_⟩) fun d s1 ⟨H1, I1, q1⟩ => ?_)
  · split at h2
    · rename_i hk
      rw [if_pos hk]
      exact ⟨O1, e1, k, env', w1, h2, fun O2 H2 st2 w2 => q O2 H2 (st1.trans st2 fun _ z => z) w2⟩
    · rename_i hk
      rw [if_neg hk]
      exact ⟨O1, e1, k, env', w1, h2, fun O2 H2 st2 w2 => q O2 H2 (st1.trans st2 fun _ z => z) w2⟩
  · cases d with
    | true => exact ha.run pins s1 σ H1 Q I1 q1
    | false => exact hb.run pins s1 σ H1 Q I1 q1
theorem se_ite (hc : SE X c mc) (ha : SE X a ma) (hb : SE X b mb) : SE X (.IfExp c a b pos) (iteM mc ma mb) := by
  have pe : PE X (.IfExp c a b pos) (tE X.K (iteM mc ma mb).val) := (pe_ifExp hc.tst ha.val hb.val).imp fun _ _ _ q => te_ite q
  exact ⟨pe, pe_opd (pe_frz pe), pt_ite hc.tst ha.tst hb.tst⟩
/-! argument lists -/
def notStar : Expr → Bool
  | .Starred _ _ => false
  | _ => true
theorem star_of {e : Expr} {es : List Expr} {env : PySem.Env} (h : notStar e = true) : starEach (e :: es) env = (false, eval e env) :: starEach es env := by
  cases e <;> first | rfl | cases h
theorem pa_args : ∀ {es : List Expr} {ms : List M}, es.all notStar = true → SEs X es ms → PA X es (tAr X.K (argsM ms))
  | [], _, _, .nil => pa_nil.imp fun σ H Q q => by
    obtain ⟨O, env, ds, env', w, h, q⟩ := q
    cases h
    exact q O H [] (Step.refl w.own) w (by simp only [RepDs])
  | e :: es, _, n, .cons (m := m) (ms := ms) h hs => by
    simp only [List.all_cons, Bool.and_eq_true] at n
    refine (pa_cons h.d (pa_args n.2 hs) (star_of n.1)).imp fun σ H Q q => ?_
    obtain ⟨O, env, ds, env', w, h, q⟩ := q
    simp only [argsM, Option.bind_eq_some_iff, Option.map_eq_some_iff] at h
    obtain ⟨⟨d, e1⟩, h1, ⟨ds', e2⟩, h2, h3⟩ := h
    cases h3
    refine ⟨O, env, d, e1, w, h1, fun O1 H1 v1 st1 w1 r1 => ⟨O1, e1, ds', e2, w1, h2, fun O2 H2 vs st2 w2 r2 => ?_⟩⟩
    exact q O2 H2 (v1 :: vs) (st1.trans st2 fun _ z => z) w2 (by simp only [RepDs]; exact ⟨v1, vs, rfl, RepD.evo st2.evo _ _ r1, r2⟩)
theorem pa_ops : ∀ {es : List Expr} {ms : List M}, es.all notStar = true → SEs X es ms → PA X es (tOs X.K (opsM ms))
  | [], _, _, .nil => pa_nil.imp fun σ H Q q => by
    obtain ⟨O, env, ds, env', w, h, q⟩ := q
    cases h
    exact q O H [] (Step.refl w.own) w rfl
  | e :: es, _, n, .cons (m := m) (ms := ms) h hs => by
    simp only [List.all_cons, Bool.and_eq_true] at n
    refine (pa_cons h.opd (pa_ops n.2 hs) (star_of n.1)).imp fun σ H Q q => ?_
    obtain ⟨O, env, ds, env', w, h, q⟩ := q
    simp only [opsM, Option.bind_eq_some_iff, Option.map_eq_some_iff] at h
    obtain ⟨⟨d, e1⟩, h1, ⟨ds', e2⟩, h2, h3⟩ := h
    cases h3
    refine ⟨O, env, d, e1, w, h1, fun O1 H1 v1 st1 w1 r1 => ⟨O1, e1, ds', e2, w1, h2, fun O2 H2 vs st2 w2 r2 => ?_⟩⟩
    exact q O2 H2 (v1 :: vs) (st1.trans st2 fun _ z => z) w2 ⟨v1, vs, rfl, RepO.evo st2.evo r1, r2⟩
/-- displays -/
theorem se_tup {es : List Expr} {ms : List M} {k : Nat} (n : es.all notStar = true) (h : SEs X es ms) : SE X (.Tuple es k pos) (tupM ms) :=
  .ofVal rfl ((L2.pe_tup (pa_args n h)).imp fun σ H Q q => by
    obtain ⟨O, env, s, env', w, h, q⟩ := q
    simp only [Option.bind_eq_some_iff] at h
    obtain ⟨⟨ds, e1⟩, h1, h2⟩ := h
    split at h2
    · rename_i hl
      cases h2
      refine ⟨O, env, ds, e1, w, h1, fun O1 H1 vs st1 w1 r1 => ⟨by rw [← r1.length]; exact hl, fun p hp => ?_⟩⟩
      exact RP.tup w1.own (RP.end_ w1 fun O2 H2 v2 st2 wr => q O2 H2 v2 (st1.trans st2 fun _ z => z) wr) r1 p hp
    · cases h2)
theorem se_lst {es : List Expr} {ms : List M} (n : es.all notStar = true) (h : SEs X es ms) : SE X (.List es pos) (lstM ms) :=
  .ofVal rfl ((L2.pe_lst (pa_args n h)).imp fun σ H Q q => by
    obtain ⟨O, env, s, env', w, h, q⟩ := q
    simp only [Option.bind_eq_some_iff] at h
    obtain ⟨⟨ds, e1⟩, h1, h2⟩ := h
    split at h2
    · rename_i hl
      cases h2
      refine ⟨O, env, ds, e1, w, h1, fun O1 H1 vs st1 w1 r1 => ⟨by rw [← r1.length]; exact hl, fun p hp => ?_⟩⟩
      exact RP.lst w1.own (RP.end_ w1 fun O2 H2 v2 st2 wr => q O2 H2 v2 (st1.trans st2 fun _ z => z) wr) r1 p hp
    · cases h2)
end
end Mini

namespace Mini
open PySem PySem.Spec PyProof.Rows L2
/-! enumerate over a tuple -/
set_option maxHeartbeats 1000000 in
theorem enum1_new {v : Value} {o : Obj} {H : Heap → Prop} (B : Begins v o H) :
    Meets (Builtin.«enumerate.__new__» ⟨[.type "enumerate", v], []⟩) (fun _ R s => H s.heap ∧
      R (.ok (.ret (.ref (s.heap.push o).objs.size))) { s with heap := (s.heap.push o).push { cls := .type "enumerate", data := .fields #[.none, .bool false, .ref s.heap.objs.size, rawInt 0, .none, .none] } }) :=
  .of_wp fun prog w A R s h => by
    obtain ⟨hp, g, d, tk, os⟩ := s; obtain ⟨h1, h⟩ := h
    have hsub := sub_enumerate
    have q1 : ∀ {A' : Around} {E : Value → Shared → Prop} {Q : Value → Shared → Prop}, Q (.ref hp.objs.size) ⟨hp.push o, g, d, tk, os⟩ → wpAny (model prog w) A' (pyIter v) Q E ⟨hp, g, d, tk, os⟩ :=
      fun q => B.iter prog w _ _ ⟨hp, g, d, tk, os⟩ _ h1 q
    wp_walk using q1
    refine wpAny_stack_any fun st => wpAny_pure ?_
    split
    · rename_i c _ _ _ _ _
      cases (c == Value.type "enumerate")
      · wp_walk using q1
        exact ⟨_, rfl, h⟩
      · wp_walk using q1
        exact ⟨_, rfl, h⟩
    · wp_walk using q1
      exact ⟨_, rfl, h⟩
section
variable {prog : Program} {w : World} {A : Around} {E : Value → Shared → Prop} {s : Shared}
theorem enum1_begins {v : Value} {o : Obj} {H : Heap → Prop} {Q : Value → Shared → Prop} (B : Begins v o H) (h1 : H s.heap)
    (h : ∀ h', IsEnum h' (s.heap.objs.size + 1) s.heap.objs.size 0 .none → h'.get? s.heap.objs.size = some o → h'.objs.size = s.heap.objs.size + 2 →
      (∀ b o, s.heap.get? b = some o → h'.get? b = some o) → Q (.ref (s.heap.objs.size + 1)) { s with heap := h' }) :
    wpAny (model prog w) A (call (.type "enumerate") [v]) Q E s := by
  refine callType_new F.called_enumerate (by decide) (F.typeCall_enumerate_1 _) (F.newCall_enumerate_1 _) (fun obj => F.args_object_init_2 obj _) F.entry_enumerate_new
    (enum1_new B) ⟨h1, ?_⟩
  have hz : (s.heap.push o).objs.size = s.heap.objs.size + 1 := Heap.size_push ..
  show _ ∧ _
  rw [hz]
  have he : IsEnum ((s.heap.push o).push { cls := .type "enumerate", data := .fields #[.none, .bool false, .ref s.heap.objs.size, rawInt 0, .none, .none] }) (s.heap.objs.size + 1) s.heap.objs.size 0 .none := by
    have := Heap.get?_push_size (s.heap.push o) (o := { cls := .type "enumerate", data := .fields #[.none, .bool false, .ref s.heap.objs.size, rawInt 0, .none, .none] }) rfl
    rw [hz] at this; exact this
  refine ⟨⟨_, he, rfl⟩, h _ he (Heap.get?_push_of_some _ (Heap.get?_push_size _ B.free)) (by rw [Heap.size_push, hz]) fun b o x => Heap.get?_push_of_some _ (Heap.get?_push_of_some _ x)⟩
end
section
variable {prog : Program} {w : World} {A : Around} {E : Value → Shared → Prop} {s : Shared}
theorem enumT_end {e it l : Addr} {i : Nat} {items : Array Value} {old : Value} {Q : Option Value → Shared → Prop} (hh : A.handled = none)
    (he : IsEnum s.heap e it i old) (hit : s.heap.IsTupleIter it l i) (hl : s.heap.IsTuple l items) (hx : items[i]? = none)
    (hQ : ∀ h', Heap.ExtBut it s.heap h' → Q none { s with heap := h' }) : wpAny (model prog w) A (pyNext (.ref e)) Q E s := by
  have hT : s.TypeIs (.ref e) "enumerate" := ⟨_, he, rfl⟩
  unfold pyNext
  refine wpAny_bind (wpAny_attempt (wpAny_callSpecial?_slot (name := Str.ofString "__next__") hT F.slot_enumerate_next
    (wpAny_call_entry F.slot_enumerate_next hT F.entry_enumerate_next ?_ (F.args_enumerate_next_1 _))))
  show wpAny _ _ (field (.ref e) 2 >>= _) _ _ _
  refine wpAny_bind (wpAny_field he rfl (x := .ref it) rfl ?_)
  refine wpAny_bind (wpAny_nextOf_tuple_end hh hit hl hx fun h' x he' hx' => ?_)
  obtain ⟨o, ho, hc⟩ := hx'
  refine wpAny_bind (wpAny_isInstance (T := "StopIteration") (b := true) ⟨o, ho, hc⟩ isSubtype_stop ?_)
  exact wpAny_pure (hQ _ he')
end
/-- the tuple at a as it stands at each turn, each item in a new pair -/
def IteT (K : PySem.W.Frag) (a : Addr) : It :=
  ⟨fun i H => ∃ (xs : List V) (x : V), SqT K H a xs ∧ xs[i]? = some x, fun i H v H' => ∃ T x, v = .ref T ∧ H T = none ∧ H' = upd H T (.tup [.int (i : Nat), x]) ∧ ∀ xs, SqT K H a xs → xs[i]? = some x, fun i H => ∃ xs : List V, SqT K H a xs ∧ xs.length ≤ i⟩
theorem turn_enumT {P : Program} {w : World} {K : PySem.W.Frag} {elts : List Expr} {kk : Nat} {tpos : Pos} (a e it : Addr) :
    Turn P w K (.Tuple elts kk tpos) (IteT K a) [e, it] e (fun i h => (∃ old, IsEnum h e it ((i : Nat) : Int) old) ∧ h.IsTupleIter it a i ∧ e ≠ it ∧ a ≠ it ∧ e ≠ a) where
  mem := by simp
  obj := fun i h st b hb => by
    obtain ⟨⟨old, he⟩, ⟨o, ho, hc, hd⟩, _⟩ := st
    have e' : b = e ∨ b = it := by simpa using hb
    rcases e' with z | z
    · rw [z]; exact ⟨_, he, fun v q => nomatch q⟩
    · rw [z]; exact ⟨o, ho, fun v q => by rw [hd] at q; cases q⟩
  keep := fun i h h' st k => let ⟨⟨old, he⟩, hi, hne⟩ := st; ⟨⟨old, k e (by simp) _ he⟩, hi.at fun o q => k it (by simp) o q, hne⟩
  item := by
    intro X hP hw hK hc i pins s σ H E I hf st hg
    subst hP hw hK
    obtain ⟨⟨old, he⟩, hit, hne, hai, hea⟩ := st
    obtain ⟨xs, x, hq, hx⟩ := hg
    obtain ⟨its, rv, p, hz⟩ := I.tuple hq
    obtain ⟨u, hu, ru⟩ := rv.get hx
    have hel : e < s.heap.objs.size := Heap.lt_size he
    have hil : it < s.heap.objs.size := by obtain ⟨_, q, _⟩ := hit; exact Heap.lt_size q
    have hp : s.heap.IsTuple a its.toArray := p
    have hlt : i < its.toArray.size := by
      have : i < its.length := by
        rcases Nat.lt_or_ge i its.length with q | q
        · exact q
        · rw [List.getElem?_eq_none q] at hu; cases hu
      simpa using this
    refine wpAny_pyNext_enum_itemD (Draws.tuple (A := X.A.in1) (I.ok.hd hc) it a hai its.toArray) he ⟨hit, hp⟩ hlt hne (by simp [hne, hea]) fun x' h' tk hx' ho hst hT hsz hk => ?_
    have hu' : x' = u := by
      have : its[i]? = some x' := by simpa using hx'
      rw [hu] at this; cases this; rfl
    subst hu'
    obtain ⟨hit', hp'⟩ := hst
    refine ⟨_, rfl, wpAny_letOwnedTupleGo_enum (s := { s with heap := h', toks := tk + 1 }) ho fun h'' he' sb => ?_⟩
    have hT2 : h''.get? s.heap.objs.size = some { cls := .type "tuple", data := .seq #[.int i tk, x'] } := (sb.2 _ (Nat.ne_of_gt hel)).trans hT
    have new : ObjOk X.prog X.w (upd H s.heap.objs.size (.tup [.int (i : Nat), x])) h'' s.heap.objs.size (.tup [.int (i : Nat), x]) :=
      ⟨by show 2 ≤ sizeLine; decide, [.int i tk, x'], .cons ⟨_, rfl⟩ (.cons ru .nil), ⟨_, hT2, rfl, _, rfl⟩⟩
    have I1 : Inv X pins σ (upd H s.heap.objs.size (.tup [.int (i : Nat), x])) { s with heap := h'', toks := tk + 1 } :=
      I.turnedNew (ch := [e, it]) (fun b ob hb q => (sb.2 b (fun z => hb (by simp [z]))).trans (hk b ob (fun z => hb (by simp [z])) (fun z => hb (by simp [z])) q)) hf (Nat.le_refl _) new
    refine ⟨.ref s.heap.objs.size, _, I1, rfl, ⟨_, x, rfl, I.hok.fresh (Nat.le_refl _), rfl, fun ys hy => by rw [I.tuple_inj hy hq]; exact hx⟩, ⟨⟨x', ?_⟩, hit'.at fun o q => (sb.2 it (Ne.symm hne)).trans q, hne, hai, hea⟩, fun b hb => ?_⟩
    · have e1 : ((i + 1 : Nat) : Int) = (i : Int) + 1 := by omega
      rw [e1]; exact he'
    · have hb' : b < s.heap.objs.size := by
        have e' : b = e ∨ b = it := by simpa using hb
        rcases e' with z | z
        · rw [z]; exact hel
        · rw [z]; exact hil
      rw [upd_ne (Nat.ne_of_lt hb')]
      exact (hf b hb).1
  done := by
    intro X hP hw hK hc i pins s σ H E I hf st hg
    subst hP hw hK
    obtain ⟨⟨old, he⟩, hit, hne, hai, hea⟩ := st
    obtain ⟨xs, hq, hx⟩ := hg
    obtain ⟨its, rv, p, hz⟩ := I.tuple hq
    obtain ⟨f0, f1, f2, f3, f4, f5⟩ := hf it (by simp)
    have hl := rv.length
    have hp : s.heap.IsTuple a its.toArray := p
    exact enumT_end (I.ok.hd hc) he hit hp (by simp; omega) fun h' eb => ⟨rfl, I.turned (t' := s.toks) (fun b o hb q => eb b o hb q) f0 f1 f3 f4 f5⟩
  self := fun A i s Q E st h => let ⟨⟨_, he⟩, _⟩ := st; wpAny_pyIter_enum he h
def iEnumA (K : PySem.W.Frag) (ta : TA) : TI := fun σ H R => ta σ H fun vs H1 => ∃ a xs, vs = [.ref a] ∧ ((SqL K H1 a xs ∧ R (Ite K a) H1) ∨ (SqT K H1 a xs ∧ R (IteT K a) H1))
theorem pi_enumA {X : Cx} {e : Expr} {ta : TA} {p pos tpos : Pos} {elts : List Expr} {kk : Nat} (hg : Gl X "enumerate") (hm : X.mg "enumerate" = none) (ha : PA X [e] ta) (hs : starEach [e] X.env = [(false, eval e X.env)] := by rfl) :
    PI X (.Tuple elts kk tpos) (.Call (.Name "enumerate" p) [e] [] pos) (iEnumA X.K ta) := by
  refine ⟨fun pins s σ H R I h => ?_⟩
  refine Call_ (ld_blt I hg hm boot_enumerate (PyProof.Rows.callWith_type1 (thn (ha.run pos pins s σ H _ I h) fun us s1 ⟨vs, H1, I1, r1, q1⟩ => ?_) hs rfl))
  obtain ⟨a, xs, ex, q1⟩ := q1
  subst ex
  cases r1 with
  | cons r rr =>
    cases rr
    cases r
    rcases q1 with ⟨hq, q⟩ | ⟨hq, q⟩
    · obtain ⟨its, rv, p', hz⟩ := I1.list hq
      refine call_enumerate_list p'.isList fun h' he hit hsz hk => wpAny_pyIter_enum he ?_
      have I2 : Inv X pins σ H1 { s1 with heap := h' } := I1.kept (t' := s1.toks) hk
      refine ⟨s1.heap.objs.size + 1, [s1.heap.objs.size + 1, s1.heap.objs.size], _, _, H1, rfl, I2, turn_enum a (s1.heap.objs.size + 1) s1.heap.objs.size, ⟨⟨.none, he⟩, hit, Nat.succ_ne_self _⟩, fun b hb => ?_, q⟩
      have e' : b = s1.heap.objs.size + 1 ∨ b = s1.heap.objs.size := by simpa using hb
      have hle : s1.heap.objs.size ≤ b := by
        rcases e' with z | z
        · rw [z]; exact Nat.le_add_right _ _
        · rw [z]; exact Nat.le_refl _
      exact I1.fpOk hle (I1.hok.fresh hle)
    · obtain ⟨its, rv, p', hz⟩ := I1.tuple hq
      have hp : s1.heap.IsTuple a its.toArray := p'
      have al : a < s1.heap.objs.size := by obtain ⟨_, q, _⟩ := hp; exact Heap.lt_size q
      refine enum1_begins (begins_tuple a its.toArray) hp fun h' he hit hsz hk => wpAny_pyIter_enum he ?_
      have I2 : Inv X pins σ H1 { s1 with heap := h' } := I1.kept (t' := s1.toks) hk
      refine ⟨s1.heap.objs.size + 1, [s1.heap.objs.size + 1, s1.heap.objs.size], _, _, H1, rfl, I2, turn_enumT a (s1.heap.objs.size + 1) s1.heap.objs.size, ⟨⟨.none, he⟩, ⟨_, hit, rfl, rfl⟩, Nat.succ_ne_self _, Nat.ne_of_lt al, Nat.ne_of_gt (Nat.lt_succ_of_lt al)⟩, fun b hb => ?_, q⟩
      have e' : b = s1.heap.objs.size + 1 ∨ b = s1.heap.objs.size := by simpa using hb
      have hle : s1.heap.objs.size ≤ b := by
        rcases e' with z | z
        · rw [z]; exact Nat.le_add_right _ _
        · rw [z]; exact Nat.le_refl _
      exact I1.fpOk hle (I1.hok.fresh hle)
end Mini

namespace Mini
open PySem PySem.Spec L2 RZ
section
variable {K : PySem.W.Frag} {O O' : Own} {H H' : Hp} {env env2 : En} {σ : St}
/-! a result beside the environment, kept -/
theorem WR.keep {r : Sl} {v : V} (w : WR K O H env σ r v) {σ2 : St} (st : Step O H (FpE H env σ) O' H' (FpE H' env2 σ2)) (w2 : W K O' H' env2 σ2) : WR K O' H' env2 σ2 r v := by
  obtain ⟨h1, h2⟩ := RepS.keep st w.val w.sep
  refine ⟨w2, h1, fun b f g => ?_⟩
  rcases st.fps b g with z | z
  · exact w.sep b (h2 b f) z
  · obtain ⟨xs, q⟩ := w.w.own b (Fp.own w.val (h2 b f))
    rw [q] at z; cases z
/-! wiped slots -/
def NoAt (env : En) (own : List Nat) : Prop := ∀ i ∈ own, ∀ s, env[i]? = some s → s = .no
theorem wipeE_len (env : En) : ∀ own, (wipeE env own).length = env.length
  | [] => rfl
  | v :: vs => by unfold wipeE; rw [List.length_set, wipeE_len env vs]
theorem wipeE_get {env : En} {i : Nat} {s : Sl} : ∀ {own : List Nat}, (wipeE env own)[i]? = some s → (s = .no ∧ i ∈ own) ∨ (i ∉ own ∧ env[i]? = some s)
  | [], h => .inr ⟨by simp, h⟩
  | v :: vs, h => by
    unfold wipeE at h
    by_cases hi : v = i
    · subst hi
      by_cases hl : v < (wipeE env vs).length
      · rw [List.getElem?_set_self hl] at h; exact .inl ⟨(Option.some.inj h).symm, by simp⟩
      · rw [List.getElem?_eq_none (by simpa using hl)] at h; cases h
    · rw [List.getElem?_set_ne hi] at h
      rcases wipeE_get h with ⟨h1, h2⟩ | ⟨h1, h2⟩
      · exact .inl ⟨h1, by simp [h2]⟩
      · exact .inr ⟨by simp only [List.mem_cons, not_or]; exact ⟨fun e => hi e.symm, h1⟩, h2⟩
theorem NoAt.wipe (env : En) (own : List Nat) : NoAt (wipeE env own) own := fun i hi s h => by
  rcases wipeE_get h with ⟨h1, _⟩ | ⟨h1, _⟩
  · exact h1
  · exact absurd hi h1
theorem wipe_get {σ : St} {i : Nat} : ∀ {own : List Nat}, i ∉ own → (wipe σ own)[i]? = σ[i]?
  | [], _ => rfl
  | v :: vs, h => by
    simp only [List.mem_cons, not_or] at h
    unfold wipe
    rw [List.getElem?_set_ne (Ne.symm h.1)]
    exact wipe_get h.2
theorem W.toWipe (w : W K O H env σ) {own : List Nat} (n : NoAt env own) : W K O H env (wipe σ own) ∧ ∀ b, FpE H env (wipe σ own) b → FpE H env σ b := by
  have get : ∀ (j : Nat) (v : V), (wipe σ own)[j]? = some (some v) → σ[j]? = some (some v) := fun j v h => (wipe_some h).1
  refine ⟨⟨w.own, by rw [wipe_length]; exact w.len, fun i s e => ?_, fun i j s t v u b ne e1 e2 e3 e4 => w.sep i j s t v u b ne e1 e2 (get i v e3) (get j u e4)⟩, fun b ⟨i, s, v, e1, e2, f⟩ => ⟨i, s, v, e1, get i v e2, f⟩⟩
  by_cases hi : i ∈ own
  · exact .inl (n i hi s e)
  · rw [wipe_get hi]; exact w.rep i s e
theorem W.ofWipe {own : List Nat} (w : W K O H env (wipe σ own)) (n : NoAt env own) : W K O H env σ ∧ ∀ b, FpE H env σ b → FpE H env (wipe σ own) b := by
  have sw : ∀ (i : Nat) (s : Sl) (v : V), env[i]? = some s → σ[i]? = some (some v) → s = .no ∨ (wipe σ own)[i]? = some (some v) := fun i s v e1 e2 => by
    by_cases hi : i ∈ own
    · exact .inl (n i hi s e1)
    · exact .inr (by rw [wipe_get hi]; exact e2)
  refine ⟨⟨w.own, by rw [w.len, wipe_length], fun i s e => ?_, fun i j s t v u b ne e1 e2 e3 e4 f1 f2 => ?_⟩, fun b ⟨i, s, v, e1, e2, f⟩ => ?_⟩
  · rcases w.rep i s e with z | ⟨v, h1, h2⟩
    · exact .inl z
    · exact .inr ⟨v, (wipe_some h1).1, h2⟩
  · rcases sw i s v e1 e3 with rfl | h1
    · exact f1
    · rcases sw j t u e2 e4 with rfl | h2
      · exact f2
      · exact w.sep i j s t v u b ne e1 e2 h1 h2 f1 f2
  · rcases sw i s v e1 e2 with rfl | h
    · exact f.elim
    · exact ⟨i, s, v, e1, h, f⟩
end
/-! targets -/
mutual
def T.slots : T → List Nat
  | .nm i => [i]
  | .tp ts => slotsL ts
def slotsL : List T → List Nat
  | [] => []
  | t :: ts => t.slots ++ slotsL ts
end
def OnlyAt (σ σ2 : St) (sl : List Nat) : Prop := σ2.length = σ.length ∧ ∀ j, j ∉ sl → σ2[j]? = σ[j]?
theorem OnlyAt.wipe {σ σ2 : St} {sl own : List Nat} (h : OnlyAt σ σ2 sl) (s : ∀ i ∈ sl, i ∈ own) : wipe σ2 own = wipe σ own := by
  apply List.ext_getElem?
  intro j
  by_cases hj : j ∈ own
  · have key : ∀ (τ : St) (ow : List Nat), j ∈ ow → (L2.wipe τ ow)[j]? = if j < τ.length then some none else none := by
      intro τ ow
      induction ow with
      | nil => intro h; simp at h
      | cons v vs ih =>
        intro h
        unfold L2.wipe
        by_cases hv : v = j
        · subst hv
          rw [List.getElem?_set]
          simp only [if_pos, wipe_length]
        · rw [List.getElem?_set_ne hv]
          exact ih (by rcases List.mem_cons.mp h with e | e; exact absurd e.symm hv; exact e)
    rw [key σ2 own hj, key σ own hj, h.1]
  · rw [wipe_get hj, wipe_get hj]
    exact h.2 j fun z => hj (s j z)
section
variable {X : Cx} {K : PySem.W.Frag}
/-- the reading of a target -/
def gT (K : PySem.W.Frag) (t : T) : TG := fun v σ H Q => ∃ O env d env2, W K O H env σ ∧ RepD K O H d v ∧ asgT t d env = some env2 ∧
  ∀ σ2, W K O H env2 σ2 → (∀ b, FpE H env2 σ2 b → FpE H env σ b) → OnlyAt σ σ2 t.slots → Q σ2 H
def gTs (K : PySem.W.Frag) (ts : List T) : TGs := fun vs σ H Q => ∃ O env ds env2, W K O H env σ ∧ RepDs K O H ds vs ∧ asgTs ts ds env = some env2 ∧
  ∀ σ2, W K O H env2 σ2 → (∀ b, FpE H env2 σ2 b → FpE H env σ b) → OnlyAt σ σ2 (slotsL ts) → Q σ2 H
theorem setS_some {i : Nat} {s : Sl} {env env2 : En} (h : setS i s env = some env2) : ∃ o, env[i]? = some o ∧ o.isBx = false ∧ env2 = env.set i s := by
  unfold setS at h
  split at h
  · cases h
  · cases h
  · rename_i o n h1
    cases h
    refine ⟨o, h1, ?_, rfl⟩
    cases o <;> first | rfl | exact absurd rfl (n _ _)
theorem pg_nm {i : Nat} {x : Str} {pos : Pos} (hN : X.N.Nodup) (hi : X.N[i]? = some x) (hx : Loc X.env.scope x) (hf : X.fn x = true ∨ X.env.scope.names.lookup x = some .local) : PG X (.Name x pos) (gT X.K (.nm i)) := by
  refine ⟨fun pins s σ H v u Q I r q => (pg_name hN hi hx hf).run pins s σ H v u Q I r ?_⟩
  obtain ⟨O, env, d, env2, w, rd, e, q⟩ := q
  obtain ⟨o, e1, nb, rfl⟩ := setS_some e
  have wr : WR X.K O H env σ (.v d) v := ⟨w, rd, fun b f => f.elim⟩
  obtain ⟨w2, k⟩ := wr.store e1 nb
  exact q _ w2 (fun b f => (k b f).elim id fun z => z.elim) ⟨by rw [List.length_set], fun j hj => List.getElem?_set_ne fun z => hj (by simp [T.slots, z])⟩
theorem pgs_nilT : PGs X [] (gTs X.K []) := by
  refine ⟨fun pins s σ H vs us Q I r q => pgs_nil.run pins s σ H vs us Q I r ?_⟩
  obtain ⟨O, env, ds, env2, w, rd, e, q⟩ := q
  cases ds with
  | nil =>
    cases e
    simp only [RepDs] at rd
    exact ⟨rd, q σ w (fun _ f => f) ⟨rfl, fun _ _ => rfl⟩⟩
  | cons _ _ => cases e
theorem pgs_consT {e : Expr} {es : List Expr} {t : T} {ts : List T} (h1 : PG X e (gT X.K t)) (h2 : PGs X es (gTs X.K ts)) (hs : (assignEach (e :: es) X.env).map (·.2) = assign e X.env :: (assignEach es X.env).map (·.2)) : PGs X (e :: es) (gTs X.K (t :: ts)) := by
  refine ⟨fun pins s σ H vs us Q I r q => (pgs_cons h1 h2 hs).run pins s σ H vs us Q I r ?_⟩
  obtain ⟨O, env, ds, env2, w, rd, e, q⟩ := q
  cases ds with
  | nil => cases e
  | cons d ds =>
    simp only [RepDs] at rd
    obtain ⟨v, vr, rfl, rd1, rd2⟩ := rd
    simp only [asgTs, Option.bind_eq_some_iff] at e
    obtain ⟨e1, h3, h4⟩ := e
    refine ⟨v, vr, rfl, O, env, d, e1, w, rd1, h3, fun σ1 w1 k1 o1 => ⟨O, e1, ds, env2, w1, rd2, h4, fun σ2 w2 k2 o2 => ?_⟩⟩
    refine q σ2 w2 (fun b f => k1 b (k2 b f)) ⟨o2.1.trans o1.1, fun j hj => ?_⟩
    simp only [slotsL, List.mem_append, not_or] at hj
    rw [o2.2 j hj.2, o1.2 j hj.1]
theorem pg_tp {es : List Expr} {k : Nat} {ts : List T} {n : Nat} {pos : Pos} (hc : X.calm = true) (h : PGs X es (gTs X.K ts)) (hl : ts.length = n) (hn : (assignEach es X.env).length = n) (hst : (assignEach es X.env).findIdx? (·.1) = none) : PG X (.Tuple es k pos) (gT X.K (.tp ts)) := by
  refine ⟨fun pins s σ H v u Q I r q => (L2.pg_tup hc h hn hst).run pins s σ H v u Q I r ?_⟩
  obtain ⟨O, env, d, env2, w, rd, e, q⟩ := q
  cases d with
  | tuple ds =>
    simp only [RepD] at rd
    obtain ⟨a, vs, rfl, s1, r1⟩ := rd
    have e' : asgTs ts ds env = some env2 := by simpa only [asgT] using e
    have lens : ∀ (ts : List T) (ds : List D) (en e2 : En), asgTs ts ds en = some e2 → ts.length = ds.length := by
      intro ts
      induction ts with
      | nil => intro ds en e2 h; cases ds with
        | nil => rfl
        | cons _ _ => cases h
      | cons t ts ih => intro ds en e2 h; cases ds with
        | nil => cases h
        | cons d ds =>
          simp only [asgTs, Option.bind_eq_some_iff] at h
          obtain ⟨e1, _, h2⟩ := h
          simp [ih ds e1 e2 h2]
    refine ⟨a, vs, rfl, s1, by rw [← r1.length, ← lens _ _ _ _ e', hl], O, env, ds, env2, w, r1, e', fun σ2 w2 k o => q σ2 w2 k (by simpa only [T.slots] using o)⟩
  | _ => simp only [asgT] at e; cases e
end
/-! what is walked -/
/-- no list or tuple is too long -/
def Line (K : PySem.W.Frag) (H : Hp) : Prop := ∀ (a : Addr) (xs : List V), SqL K H a xs ∨ SqT K H a xs → xs.length ≤ sizeLine
theorem line_of {X : Cx} {pins : List (Addr × Obj)} {σ : St} {H : Hp} {s : Shared} (I : Inv X pins σ H s) : Line X.K H := fun a xs h => by
  rcases h with h | h
  · obtain ⟨_, _, _, z⟩ := I.list h; exact z
  · obtain ⟨_, _, _, z⟩ := I.tuple h; exact z
/-- an iterator J that yields the items while the operands stand as ds -/
structure ItD (K : PySem.W.Frag) (J : It) (items : List D) (ds : List D) (vs : List V) : Prop where
  go : ∀ (i : Nat) (O : Own) (H : Hp) (d : D), OwnOk O H → RepPs K O H ds vs → items[i]? = some d → J.go i H
  yld : ∀ (i : Nat) (O : Own) (H : Hp) (d : D) (x : V) (H' : Hp), OwnOk O H → RepPs K O H ds vs → items[i]? = some d → J.yld i H x H' → Step O H F0 O H' F0 ∧ RepD K O H' d x
  stop : ∀ (O : Own) (H : Hp), OwnOk O H → RepPs K O H ds vs → J.stop items.length H
  len : ∀ (O : Own) (H : Hp), OwnOk O H → RepPs K O H ds vs → Line K H → items.length ≤ sizeLine
/-- .. the reading of what a loop walks -/
def tI (K : PySem.W.Frag) (k : IK) (f : En → Option (List Opd × En)) : TI := fun σ H R => ∃ O env ps env' ds items, W K O H env σ ∧ f env = some (ps, env') ∧ gets env' ps = some ds ∧ itemsOf k ds = some items ∧
  ∀ O' H' J vs, Step O H (FpE H env σ) O' H' (FpE H' env' σ) → W K O' H' env' σ → RepOs K O' H' σ ps vs → ItD K J items ds vs → R J H'
section
variable {K : PySem.W.Frag}
theorem one_ps {O : Own} {H : Hp} {d : D} {vs : List V} (h : RepPs K O H [d] vs) : ∃ v, vs = [v] ∧ RepP K O H d v := by
  obtain ⟨v, r, rfl, h1, h2⟩ := h
  cases h2
  exact ⟨v, rfl, h1⟩
theorem itd_list {xs : List D} {a : Addr} : ItD K (Itl K a) xs [.list xs] [.ref a] := by
  have rd : ∀ (O : Own) (H : Hp), RepPs K O H [.list xs] [.ref a] → ∃ us, H a = some (.lst us) ∧ RepDs K O H xs us := fun O H h => by
    obtain ⟨v, e, h⟩ := one_ps h
    cases e
    obtain ⟨b, us, e, h1, h2⟩ := h.list
    cases e
    exact ⟨us, h1, h2⟩
  refine ⟨fun i O H d own h e => ?_, fun i O H d x H' own h e y => ?_, fun O H own h => ?_, fun O H own h ln => ?_⟩
  · obtain ⟨us, h1, h2⟩ := rd O H h
    obtain ⟨v, h3, _⟩ := h2.get e
    exact ⟨us, v, SqL.of h1, h3⟩
  · obtain ⟨us, h1, h2⟩ := rd O H h
    obtain ⟨v, h3, h4⟩ := h2.get e
    obtain ⟨rfl, y⟩ := y
    have := y us (SqL.of h1)
    rw [h3] at this; cases this
    exact ⟨(Step.refl own).sub fun _ z => z, h4⟩
  · obtain ⟨us, h1, h2⟩ := rd O H h
    exact ⟨us, SqL.of h1, by rw [h2.length]; exact Nat.le_refl _⟩
  · obtain ⟨us, h1, h2⟩ := rd O H h
    rw [h2.length]; exact ln a us (.inl (SqL.of h1))
theorem itd_tup {xs : List D} {a : Addr} : ItD K (Itt K a) xs [.tuple xs] [.ref a] := by
  have rd : ∀ (O : Own) (H : Hp), RepPs K O H [.tuple xs] [.ref a] → ∃ us, SqT K H a us ∧ RepDs K O H xs us := fun O H h => by
    obtain ⟨v, e, h⟩ := one_ps h
    cases e
    obtain ⟨b, us, e, h1, h2⟩ := h.tuple
    cases e
    exact ⟨us, h1, h2⟩
  refine ⟨fun i O H d own h e => ?_, fun i O H d x H' own h e y => ?_, fun O H own h => ?_, fun O H own h ln => ?_⟩
  · obtain ⟨us, h1, h2⟩ := rd O H h
    obtain ⟨v, h3, _⟩ := h2.get e
    exact ⟨us, v, h1, h3⟩
  · obtain ⟨us, h1, h2⟩ := rd O H h
    obtain ⟨v, h3, h4⟩ := h2.get e
    obtain ⟨rfl, y⟩ := y
    have := y us h1
    rw [h3] at this; cases this
    exact ⟨(Step.refl own).sub fun _ z => z, h4⟩
  · obtain ⟨us, h1, h2⟩ := rd O H h
    exact ⟨us, h1, by rw [h2.length]; exact Nat.le_refl _⟩
  · obtain ⟨us, h1, h2⟩ := rd O H h
    rw [h2.length]; exact ln a us (.inr h1)
theorem rngL_get {lo : Int} {n i : Nat} {d : D} (h : (rngL lo n)[i]? = some d) : i < n ∧ d = .int (lo + i) := by
  unfold rngL at h
  rw [List.getElem?_map] at h
  by_cases hi : i < n
  · rw [List.getElem?_range hi] at h
    cases h
    exact ⟨hi, rfl⟩
  · rw [List.getElem?_eq_none (by simpa using hi)] at h; cases h
theorem itd_rng {lo : Int} {n : Nat} {ds : List D} {vs : List V} (hn : n ≤ sizeLine) : ItD K (Itr lo n) (rngL lo n) ds vs := by
  refine ⟨fun i O H d own h e => (rngL_get e).1, fun i O H d x H' own h e y => ?_, fun O H own h => ?_, fun O H own h ln => by simpa [rngL] using hn⟩
  · obtain ⟨h1, rfl⟩ := rngL_get e
    obtain ⟨rfl, rfl⟩ := y
    exact ⟨(Step.refl own).sub fun _ z => z, by simp only [RepD]⟩
  · show n ≤ _
    simp [rngL]
theorem enumL_get : ∀ {xs : List D} {k i : Nat} {d : D}, (enumL xs k)[i]? = some d → ∃ x, xs[i]? = some x ∧ d = .tuple [.int ((k + i : Nat) : Int), x]
  | [], k, i, d, h => by simp [enumL] at h
  | x :: xs, k, 0, d, h => by simp [enumL] at h; exact ⟨x, by simp, by rw [← h]; simp⟩
  | x :: xs, k, i + 1, d, h => by
    simp only [enumL, List.getElem?_cons_succ] at h
    obtain ⟨y, h1, h2⟩ := enumL_get h
    exact ⟨y, by simpa using h1, by rw [h2]; congr 3; omega⟩
theorem enumL_len : ∀ (xs : List D) (k : Nat), (enumL xs k).length = xs.length
  | [], k => rfl
  | x :: xs, k => by simp [enumL, enumL_len xs]
theorem itd_enum {xs : List D} {a : Addr} : ItD K (Ite K a) (enumL xs 0) [.list xs] [.ref a] := by
  have rd : ∀ (O : Own) (H : Hp), RepPs K O H [.list xs] [.ref a] → ∃ us, H a = some (.lst us) ∧ RepDs K O H xs us := fun O H h => by
    obtain ⟨v, e, h⟩ := one_ps h
    cases e
    obtain ⟨b, us, e, h1, h2⟩ := h.list
    cases e
    exact ⟨us, h1, h2⟩
  refine ⟨fun i O H d own h e => ?_, fun i O H d x H' own h e y => ?_, fun O H own h => ?_, fun O H own h ln => ?_⟩
  · obtain ⟨us, h1, h2⟩ := rd O H h
    obtain ⟨x, e1, _⟩ := enumL_get e
    obtain ⟨v, h3, _⟩ := h2.get e1
    exact ⟨us, v, SqL.of h1, h3⟩
  · obtain ⟨us, h1, h2⟩ := rd O H h
    obtain ⟨z, e1, rfl⟩ := enumL_get e
    obtain ⟨v, h3, h4⟩ := h2.get e1
    obtain ⟨T, u, rfl, hT, rfl, y⟩ := y
    have := y us (SqL.of h1)
    rw [h3] at this; cases this
    have st := OwnOk.new (o := .tup [.int (i : Nat), v]) own hT
    refine ⟨st, ?_⟩
    simp only [RepD, RepDs]
    exact ⟨T, _, rfl, SqT.of upd_same, .int (i : Nat), [v], rfl, by simp, v, [], rfl, RepD.evo st.evo _ _ h4, rfl⟩
  · obtain ⟨us, h1, h2⟩ := rd O H h
    exact ⟨us, SqL.of h1, by rw [enumL_len, h2.length]; exact Nat.le_refl _⟩
  · obtain ⟨us, h1, h2⟩ := rd O H h
    rw [enumL_len, h2.length]; exact ln a us (.inl (SqL.of h1))
theorem itd_enumT {xs : List D} {a : Addr} : ItD K (IteT K a) (enumL xs 0) [.tuple xs] [.ref a] := by
  have rd : ∀ (O : Own) (H : Hp), RepPs K O H [.tuple xs] [.ref a] → ∃ us, SqT K H a us ∧ RepDs K O H xs us := fun O H h => by
    obtain ⟨v, e, h⟩ := one_ps h
    cases e
    obtain ⟨b, us, e, h1, h2⟩ := h.tuple
    cases e
    exact ⟨us, h1, h2⟩
  refine ⟨fun i O H d own h e => ?_, fun i O H d x H' own h e y => ?_, fun O H own h => ?_, fun O H own h ln => ?_⟩
  · obtain ⟨us, h1, h2⟩ := rd O H h
    obtain ⟨x, e1, _⟩ := enumL_get e
    obtain ⟨v, h3, _⟩ := h2.get e1
    exact ⟨us, v, h1, h3⟩
  · obtain ⟨us, h1, h2⟩ := rd O H h
    obtain ⟨z, e1, rfl⟩ := enumL_get e
    obtain ⟨v, h3, h4⟩ := h2.get e1
    obtain ⟨T, u, rfl, hT, rfl, y⟩ := y
    have := y us h1
    rw [h3] at this; cases this
    have st := OwnOk.new (o := .tup [.int (i : Nat), v]) own hT
    refine ⟨st, ?_⟩
    simp only [RepD, RepDs]
    exact ⟨T, _, rfl, SqT.of upd_same, .int (i : Nat), [v], rfl, by simp, v, [], rfl, RepD.evo st.evo _ _ h4, rfl⟩
  · obtain ⟨us, h1, h2⟩ := rd O H h
    exact ⟨us, h1, by rw [enumL_len, h2.length]; exact Nat.le_refl _⟩
  · obtain ⟨us, h1, h2⟩ := rd O H h
    rw [enumL_len, h2.length]; exact ln a us (.inr h1)
theorem two_ps {O : Own} {H : Hp} {d e : D} {vs : List V} (h : RepPs K O H [d, e] vs) : ∃ v u, vs = [v, u] ∧ RepP K O H d v ∧ RepP K O H e u := by
  obtain ⟨v, r, rfl, h1, h2⟩ := h
  obtain ⟨u, rfl, h3⟩ := one_ps h2
  exact ⟨v, u, rfl, h1, h3⟩
theorem zipL_get : ∀ {xs ys : List D} {i : Nat} {d : D}, (zipL xs ys)[i]? = some d → ∃ x y, xs[i]? = some x ∧ ys[i]? = some y ∧ d = .tuple [x, y]
  | [], ys, i, d, h => by simp [zipL] at h
  | x :: xs, [], i, d, h => by simp [zipL] at h
  | x :: xs, y :: ys, 0, d, h => by simp [zipL] at h; exact ⟨x, y, by simp, by simp, h.symm⟩
  | x :: xs, y :: ys, i + 1, d, h => by
    simp only [zipL, List.getElem?_cons_succ] at h
    obtain ⟨x', y', h1, h2, h3⟩ := zipL_get h
    exact ⟨x', y', by simpa using h1, by simpa using h2, h3⟩
theorem zipL_len : ∀ (xs ys : List D), (zipL xs ys).length = min xs.length ys.length
  | [], ys => by simp [zipL]
  | x :: xs, [] => by simp [zipL]
  | x :: xs, y :: ys => by simp [zipL, zipL_len xs ys]
theorem itd_zipL {xs ys : List D} {a b : Addr} : ItD K (Itz K a b) (zipL xs ys) [.list xs, .list ys] [.ref a, .ref b] := by
  have rd : ∀ (O : Own) (H : Hp), RepPs K O H [.list xs, .list ys] [.ref a, .ref b] → ∃ us ws, H a = some (.lst us) ∧ H b = some (.lst ws) ∧ RepDs K O H xs us ∧ RepDs K O H ys ws := fun O H h => by
    obtain ⟨v, w, e, h, g⟩ := two_ps h
    cases e
    obtain ⟨b1, us, e, h1, h2⟩ := h.list
    cases e
    obtain ⟨b2, ws, e, h3, h4⟩ := g.list
    cases e
    exact ⟨us, ws, h1, h3, h2, h4⟩
  refine ⟨fun i O H d own h e => ?_, fun i O H d x H' own h e y => ?_, fun O H own h => ?_, fun O H own h ln => ?_⟩
  · obtain ⟨us, ws, h1, h2, h3, h4⟩ := rd O H h
    obtain ⟨x, y, e1, e2, _⟩ := zipL_get e
    obtain ⟨v, h5, _⟩ := h3.get e1
    obtain ⟨w, h6, _⟩ := h4.get e2
    exact ⟨us, ws, v, w, SqL.of h1, SqL.of h2, h5, h6⟩
  · obtain ⟨us, ws, h1, h2, h3, h4⟩ := rd O H h
    obtain ⟨x', y', e1, e2, rfl⟩ := zipL_get e
    obtain ⟨v, h5, h7⟩ := h3.get e1
    obtain ⟨w, h6, h8⟩ := h4.get e2
    obtain ⟨T, u1, u2, rfl, hT, rfl, y1, y2⟩ := y
    have z1 := y1 us (SqL.of h1)
    rw [h5] at z1; cases z1
    have z2 := y2 ws (SqL.of h2)
    rw [h6] at z2; cases z2
    have st := OwnOk.new (o := .tup [v, w]) own hT
    refine ⟨st, ?_⟩
    simp only [RepD, RepDs]
    exact ⟨T, _, rfl, SqT.of upd_same, v, [w], rfl, RepD.evo st.evo _ _ h7, w, [], rfl, RepD.evo st.evo _ _ h8, rfl⟩
  · obtain ⟨us, ws, h1, h2, h3, h4⟩ := rd O H h
    have := h3.length
    have := h4.length
    refine ⟨us, ws, SqL.of h1, SqL.of h2, ?_⟩
    rw [zipL_len]; omega
  · obtain ⟨us, ws, h1, h2, h3, h4⟩ := rd O H h
    have := h3.length
    have := ln a us (.inl (SqL.of h1))
    rw [zipL_len]; omega
theorem itd_zipT {xs ys : List D} {a b : Addr} : ItD K (ItzT K a b) (zipL xs ys) [.tuple xs, .tuple ys] [.ref a, .ref b] := by
  have rd : ∀ (O : Own) (H : Hp), RepPs K O H [.tuple xs, .tuple ys] [.ref a, .ref b] → ∃ us ws, SqT K H a us ∧ SqT K H b ws ∧ RepDs K O H xs us ∧ RepDs K O H ys ws := fun O H h => by
    obtain ⟨v, w, e, h, g⟩ := two_ps h
    cases e
    obtain ⟨b1, us, e, h1, h2⟩ := h.tuple
    cases e
    obtain ⟨b2, ws, e, h3, h4⟩ := g.tuple
    cases e
    exact ⟨us, ws, h1, h3, h2, h4⟩
  refine ⟨fun i O H d own h e => ?_, fun i O H d x H' own h e y => ?_, fun O H own h => ?_, fun O H own h ln => ?_⟩
  · obtain ⟨us, ws, h1, h2, h3, h4⟩ := rd O H h
    obtain ⟨x, y, e1, e2, _⟩ := zipL_get e
    obtain ⟨v, h5, _⟩ := h3.get e1
    obtain ⟨w, h6, _⟩ := h4.get e2
    exact ⟨us, ws, v, w, h1, h2, h5, h6⟩
  · obtain ⟨us, ws, h1, h2, h3, h4⟩ := rd O H h
    obtain ⟨x', y', e1, e2, rfl⟩ := zipL_get e
    obtain ⟨v, h5, h7⟩ := h3.get e1
    obtain ⟨w, h6, h8⟩ := h4.get e2
    obtain ⟨T, u1, u2, rfl, hT, rfl, y1, y2⟩ := y
    have z1 := y1 us h1
    rw [h5] at z1; cases z1
    have z2 := y2 ws h2
    rw [h6] at z2; cases z2
    have st := OwnOk.new (o := .tup [v, w]) own hT
    refine ⟨st, ?_⟩
    simp only [RepD, RepDs]
    exact ⟨T, _, rfl, SqT.of upd_same, v, [w], rfl, RepD.evo st.evo _ _ h7, w, [], rfl, RepD.evo st.evo _ _ h8, rfl⟩
  · obtain ⟨us, ws, h1, h2, h3, h4⟩ := rd O H h
    have := h3.length
    have := h4.length
    refine ⟨us, ws, h1, h2, ?_⟩
    rw [zipL_len]; omega
  · obtain ⟨us, ws, h1, h2, h3, h4⟩ := rd O H h
    have := h3.length
    have := ln a us (.inr h1)
    rw [zipL_len]; omega
theorem itd_rev {xs : List D} {a : Addr} : ItD K (Itv K a xs.length) xs.reverse [.list xs] [.ref a] := by
  have rd : ∀ (O : Own) (H : Hp), RepPs K O H [.list xs] [.ref a] → ∃ us, H a = some (.lst us) ∧ RepDs K O H xs us := fun O H h => by
    obtain ⟨v, e, h⟩ := one_ps h
    cases e
    obtain ⟨b, us, e, h1, h2⟩ := h.list
    cases e
    exact ⟨us, h1, h2⟩
  have rv : ∀ (i : Nat) (d : D), xs.reverse[i]? = some d → i < xs.length ∧ xs[xs.length - 1 - i]? = some d := fun i d e => by
    have hi : i < xs.length := by simpa using (List.getElem?_eq_some_iff.mp e).1
    rw [List.getElem?_reverse hi] at e
    exact ⟨hi, e⟩
  refine ⟨fun i O H d own h e => ?_, fun i O H d x H' own h e y => ?_, fun O H own h => ?_, fun O H own h ln => ?_⟩
  · obtain ⟨us, h1, h2⟩ := rd O H h
    obtain ⟨hi, e1⟩ := rv i d e
    obtain ⟨v, h3, _⟩ := h2.get e1
    exact ⟨hi, us, v, SqL.of h1, h3⟩
  · obtain ⟨us, h1, h2⟩ := rd O H h
    obtain ⟨hi, e1⟩ := rv i d e
    obtain ⟨v, h3, h4⟩ := h2.get e1
    obtain ⟨rfl, y⟩ := y
    have := y us (SqL.of h1)
    rw [h3] at this; cases this
    exact ⟨(Step.refl own).sub fun _ z => z, h4⟩
  · show xs.length ≤ _
    simp
  · obtain ⟨us, h1, h2⟩ := rd O H h
    rw [List.length_reverse, h2.length]; exact ln a us (.inl (SqL.of h1))
end
/-! the walked things of the text -/
section
variable {X : Cx} {tg : Expr}
theorem seq_list {ds items : List D} (h : itemsOf .seq ds = some items) : (∃ xs, ds = [.list xs] ∧ items = xs) ∨ ∃ xs, ds = [.tuple xs] ∧ items = xs := by
  cases ds with
  | nil => simp [itemsOf] at h
  | cons d r =>
    cases r with
    | nil => cases d with
      | list xs => simp [itemsOf] at h; exact .inl ⟨xs, rfl, h.symm⟩
      | tuple xs => simp [itemsOf] at h; exact .inr ⟨xs, rfl, h.symm⟩
      | _ => simp [itemsOf] at h
    | cons e r => cases d <;> simp [itemsOf] at h
theorem ops_one {m : M} {env env' : En} {ps : List Opd} (h : opsM [m] env = some (ps, env')) : ∃ p, m.opd env = some (p, env') ∧ ps = [p] := by
  simp only [opsM, Option.bind_eq_some_iff, Option.map_eq_some_iff] at h
  obtain ⟨⟨p, e1⟩, h1, ⟨qs, e2⟩, h2, h3⟩ := h
  cases h2; cases h3
  exact ⟨p, h1, rfl⟩
theorem ops_two {m n : M} {env env' : En} {ps : List Opd} (h : opsM [m, n] env = some (ps, env')) : ∃ p q, ps = [p, q] := by
  simp only [opsM, Option.bind_eq_some_iff, Option.map_eq_some_iff] at h
  obtain ⟨⟨p, e1⟩, h1, ⟨qs, e2⟩, ⟨⟨q, e3⟩, h4, ⟨rs, e5⟩, h6, h7⟩, h3⟩ := h
  cases h6; cases h7; cases h3
  exact ⟨p, q, rfl⟩
theorem gets_one {env : En} {p : Opd} {ds : List D} (h : gets env [p] = some ds) : ∃ d, ds = [d] := by
  have h' : ((p.get env).bind fun d => (Mini.gets env []).map (d :: ·)) = some ds := h
  simp only [Option.bind_eq_some_iff, Option.map_eq_some_iff] at h'
  obtain ⟨d, _, es, e, rfl⟩ := h'
  cases e
  exact ⟨d, rfl⟩
theorem gets_two {env : En} {p q : Opd} {ds : List D} (h : gets env [p, q] = some ds) : ∃ d e, ds = [d, e] := by
  have h' : ((p.get env).bind fun d => (Mini.gets env [q]).map (d :: ·)) = some ds := h
  simp only [Option.bind_eq_some_iff, Option.map_eq_some_iff] at h'
  obtain ⟨d, _, es, e, rfl⟩ := h'
  obtain ⟨e1, rfl⟩ := gets_one e
  exact ⟨d, e1, rfl⟩
theorem PI.imp {e : Expr} {t t' : TI} (h : PI X tg e t) (i : ∀ σ H R, t' σ H R → t σ H R) : PI X tg e t' := ⟨fun pins s σ H R I q => h.run pins s σ H R I (i σ H R q)⟩
theorem pi_seq {e : Expr} {m : M} (h : SE X e m) : PI X tg e (tI X.K .seq (opsM [m])) := by
  refine ⟨fun pins s σ H R I q => ?_⟩
  obtain ⟨O, env, ps, env', ds, items, w, h1, h2, h3, q⟩ := q
  obtain ⟨p, h4, rfl⟩ := ops_one h1
  have fin : ∀ {O' : Own} {H' : Hp} {v : V} {d : D}, W X.K O' H' env' σ → RepO X.K O' H' σ p v → ds = [d] → RepP X.K O' H' d v := fun {O' H' v d} w' r e => by
    subst e
    have rr : RepOs X.K O' H' σ [p] [v] := ⟨v, [], rfl, r, rfl⟩
    obtain ⟨u, e, z⟩ := one_ps (RepOs.gets w' rr h2)
    cases e; exact z
  rcases seq_list h3 with ⟨xs, rfl, rfl⟩ | ⟨xs, rfl, rfl⟩
  · refine (pi_list h.opd).run pins s σ H R I ⟨O, env, p, env', w, h4, fun O' H' v st w' r => ?_⟩
    obtain ⟨a, us, rfl, h5, h6⟩ := (fin w' r rfl).list
    have rr : RepOs X.K O' H' σ [p] [.ref a] := ⟨.ref a, [], rfl, r, rfl⟩
    exact ⟨a, rfl, ⟨us, SqL.of h5⟩, q O' H' _ [.ref a] st w' rr itd_list⟩
  · refine (pi_tup h.opd).run pins s σ H R I ⟨O, env, p, env', w, h4, fun O' H' v st w' r => ?_⟩
    obtain ⟨a, us, rfl, h5, h6⟩ := (fin w' r rfl).tuple
    have rr : RepOs X.K O' H' σ [p] [.ref a] := ⟨.ref a, [], rfl, r, rfl⟩
    exact ⟨a, rfl, ⟨us, h5⟩, q O' H' _ [.ref a] st w' rr itd_tup⟩
theorem pi_rng1 {a : Expr} {m : M} {p pos : Pos} (hg : Gl X "range") (hm : X.mg "range" = none) (n : notStar a = true) (h : SE X a m) : PI X tg (.Call (.Name "range" p) [a] [] pos) (tI X.K .rng (opsM [m])) :=
  PI.imp (pi_range1 hg hm (pa_ops (by simp [n]) (.cons h .nil)) (star_of n)) fun σ H R q => by
    obtain ⟨O, env, ps, env', ds, items, w, h1, h2, h3, q⟩ := q
    refine ⟨O, env, ps, env', w, h1, fun O' H' vs st w' r => ?_⟩
    obtain ⟨p, h4, rfl⟩ := ops_one h1
    obtain ⟨d, rfl⟩ := gets_one h2
    obtain ⟨v, rfl, rv⟩ := one_ps (RepOs.gets w' r h2)
    cases d with
    | int j =>
      simp only [itemsOf] at h3
      split at h3
      · rename_i c
        cases h3
        have e := rv.int
        subst e
        exact ⟨j, rfl, c.1.1, c.1.2, q O' H' _ _ st w' r (itd_rng (by have := c.2; omega))⟩
      · cases h3
    | _ => simp [itemsOf] at h3
theorem pi_rng2 {a b : Expr} {m m2 : M} {p pos : Pos} (hg : Gl X "range") (hm : X.mg "range" = none) (n : notStar a = true) (n2 : notStar b = true) (h : SE X a m) (h' : SE X b m2) : PI X tg (.Call (.Name "range" p) [a, b] [] pos) (tI X.K .rng (opsM [m, m2])) :=
  PI.imp (pi_range2 hg hm (pa_ops (by simp [n, n2]) (.cons h (.cons h' .nil))) (by rw [star_of n, star_of n2]; rfl) (star_of n2)) fun σ H R q => by
    obtain ⟨O, env, ps, env', ds, items, w, h1, h2, h3, q⟩ := q
    refine ⟨O, env, ps, env', w, h1, fun O' H' vs st w' r => ?_⟩
    obtain ⟨p, p2, rfl⟩ := ops_two h1
    obtain ⟨d, d2, rfl⟩ := gets_two h2
    obtain ⟨v, v2, rfl, rv, rv2⟩ := two_ps (RepOs.gets w' r h2)
    cases d with
    | int i =>
      cases d2 with
      | int j =>
        simp only [itemsOf] at h3
        split at h3
        · rename_i c
          cases h3
          have e := rv.int
          have e2 := rv2.int
          subst e e2
          exact ⟨i, j, rfl, ⟨c.1.1, c.1.2, c.2.1.1, c.2.1.2⟩, q O' H' _ _ st w' r (itd_rng (by have := c.2.2; omega))⟩
        · cases h3
      | _ => simp [itemsOf] at h3
    | _ => simp [itemsOf] at h3
theorem pi_enumL {e : Expr} {m : M} {p pos tpos : Pos} {elts : List Expr} {kk : Nat} (hg : Gl X "enumerate") (hm : X.mg "enumerate" = none) (n : notStar e = true) (h : SE X e m) : PI X (.Tuple elts kk tpos) (.Call (.Name "enumerate" p) [e] [] pos) (tI X.K .enum (opsM [m])) :=
  PI.imp (pi_enumA hg hm (pa_ops (by simp [n]) (.cons h .nil)) (star_of n)) fun σ H R q => by
    obtain ⟨O, env, ps, env', ds, items, w, h1, h2, h3, q⟩ := q
    refine ⟨O, env, ps, env', w, h1, fun O' H' vs st w' r => ?_⟩
    obtain ⟨p, h4, rfl⟩ := ops_one h1
    obtain ⟨d, rfl⟩ := gets_one h2
    obtain ⟨v, rfl, rv⟩ := one_ps (RepOs.gets w' r h2)
    cases d with
    | list xs =>
      cases h3
      obtain ⟨a, us, rfl, h5, h6⟩ := rv.list
      exact ⟨a, us, rfl, .inl ⟨SqL.of h5, q O' H' _ _ st w' r itd_enum⟩⟩
    | tuple xs =>
      cases h3
      obtain ⟨a, us, rfl, h5, h6⟩ := rv.tuple
      exact ⟨a, us, rfl, .inr ⟨h5, q O' H' _ _ st w' r itd_enumT⟩⟩
    | _ => simp [itemsOf] at h3
theorem pi_zipD {a b : Expr} {m m2 : M} {p pos tpos : Pos} {elts : List Expr} {kk : Nat} (hg : Gl X "zip") (hm : X.mg "zip" = none) (n : notStar a = true) (n2 : notStar b = true) (h : SE X a m) (h' : SE X b m2) : PI X (.Tuple elts kk tpos) (.Call (.Name "zip" p) [a, b] [] pos) (tI X.K .zip (opsM [m, m2])) :=
  PI.imp (pi_zipA hg hm (pa_ops (by simp [n, n2]) (.cons h (.cons h' .nil))) (star_of n) (by rw [star_of n2]; rfl)) fun σ H R q => by
    obtain ⟨O, env, ps, env', ds, items, w, h1, h2, h3, q⟩ := q
    refine ⟨O, env, ps, env', w, h1, fun O' H' vs st w' r => ?_⟩
    obtain ⟨p, p2, rfl⟩ := ops_two h1
    obtain ⟨d, d2, rfl⟩ := gets_two h2
    obtain ⟨v, v2, rfl, rv, rv2⟩ := two_ps (RepOs.gets w' r h2)
    cases d with
    | list xs =>
      cases d2 with
      | list ys =>
        cases h3
        obtain ⟨a, us, rfl, h5, h6⟩ := rv.list
        obtain ⟨b, ws, rfl, h7, h8⟩ := rv2.list
        exact ⟨a, b, us, ws, rfl, .inl ⟨SqL.of h5, SqL.of h7, q O' H' _ _ st w' r itd_zipL⟩⟩
      | _ => simp [itemsOf] at h3
    | tuple xs =>
      cases d2 with
      | tuple ys =>
        cases h3
        obtain ⟨a, us, rfl, h5, h6⟩ := rv.tuple
        obtain ⟨b, ws, rfl, h7, h8⟩ := rv2.tuple
        exact ⟨a, b, us, ws, rfl, .inr ⟨h5, h7, q O' H' _ _ st w' r itd_zipT⟩⟩
      | _ => simp [itemsOf] at h3
    | _ => cases d2 <;> simp [itemsOf] at h3
theorem pi_rev1 {a : Expr} {m : M} {p pos : Pos} (hg : Gl X "reversed") (hm : X.mg "reversed" = none) (n : notStar a = true) (h : SE X a m) : PI X tg (.Call (.Name "reversed" p) [a] [] pos) (tI X.K .rev (opsM [m])) :=
  PI.imp (pi_reversed hg hm (pa_ops (by simp [n]) (.cons h .nil)) (star_of n)) fun σ H R q => by
    obtain ⟨O, env, ps, env', ds, items, w, h1, h2, h3, q⟩ := q
    refine ⟨O, env, ps, env', w, h1, fun O' H' vs st w' r => ?_⟩
    obtain ⟨p, h4, rfl⟩ := ops_one h1
    obtain ⟨d, rfl⟩ := gets_one h2
    obtain ⟨v, rfl, rv⟩ := one_ps (RepOs.gets w' r h2)
    cases d with
    | list xs =>
      cases h3
      obtain ⟨a, us, rfl, h5, h6⟩ := rv.list
      refine ⟨a, us, rfl, SqL.of h5, q O' H' _ _ st w' r ?_⟩
      rw [← h6.length]
      exact itd_rev
    | _ => simp [itemsOf] at h3
/-- with the line told -/
theorem PI.line {e : Expr} {t : TI} (h : PI X tg e t) : PI X tg e (fun σ H R => t σ H fun J H1 => Line X.K H1 → R J H1) := ⟨fun pins s σ H R I q => thn (h.run pins s σ H _ I q) fun v s1 h1 => thn h1 fun itv s2 h2 => by
  obtain ⟨it, fp, tn, J, H', e, I2, T, t0, fpo, r⟩ := h2
  exact ⟨it, fp, tn, J, H', e, I2, T, t0, fpo, r (line_of I2)⟩⟩
end
end Mini

namespace Mini
open PySem PySem.Spec L2
section
variable {K : PySem.W.Frag} {O O' : Own} {H H' : Hp} {env env2 : En} {σ : St}
theorem Step.add {F F' G : Own} (a : Step O H F O' H' F') : Step O H (fun b => F b ∨ G b) O' H' (fun b => F' b ∨ G b) :=
  ⟨a.evo, a.own, fun b e n => a.keepO b e fun z => n (.inl z), fun b f => f.elim (fun f => (a.fps b f).imp .inl id) fun g => .inl (.inr g)⟩
/-- a slot told a frozen value -/
theorem W.setV {i : Nat} {d : D} {v : V} (w : W K O H env σ) (es : σ[i]? = some (some v)) (r : RepD K O H d v) : W K O H (env.set i (.v d)) σ ∧ ∀ b, FpE H (env.set i (.v d)) σ b → FpE H env σ b := by
  have get : ∀ (j : Nat) (u : Sl), (env.set i (.v d))[j]? = some u → (j = i ∧ u = .v d) ∨ (j ≠ i ∧ env[j]? = some u) := fun j u z => by
    by_cases hj : j = i
    · subst hj
      by_cases hl : j < env.length
      · rw [List.getElem?_set_self hl] at z; exact .inl ⟨rfl, (Option.some.inj z).symm⟩
      · rw [List.getElem?_eq_none (by simpa using hl)] at z; cases z
    · rw [List.getElem?_set_ne (Ne.symm hj)] at z; exact .inr ⟨hj, z⟩
  refine ⟨⟨w.own, by rw [List.length_set]; exact w.len, fun j u z => ?_, fun j k u y x z b n e1 e2 e3 e4 f1 f2 => ?_⟩, fun b ⟨j, u, x, e1, e2, f⟩ => ?_⟩
  · rcases get j u z with ⟨rfl, rfl⟩ | ⟨n, z⟩
    · exact .inr ⟨v, es, r⟩
    · exact w.rep j u z
  · rcases get j u e1 with ⟨rfl, rfl⟩ | ⟨n1, q1⟩
    · exact f1
    · rcases get k y e2 with ⟨rfl, rfl⟩ | ⟨n2, q2⟩
      · exact f2
      · exact w.sep j k u y x z b n q1 q2 e3 e4 f1 f2
  · rcases get j u e1 with ⟨rfl, rfl⟩ | ⟨n, q⟩
    · exact f.elim
    · exact ⟨j, u, x, q, e2, f⟩
theorem W.rest {e1 : En} (h : ∀ (i : Nat) (d : D), e1[i]? = some (.v d) → ∃ v, σ[i]? = some (some v) ∧ RepD K O H d v) {e2 : En} (w : W K O H e2 σ) : ∀ (own : List Nat), W K O H (restE e1 e2 own) σ ∧ ∀ b, FpE H (restE e1 e2 own) σ b → FpE H e2 σ b
  | [] => ⟨w, fun _ f => f⟩
  | i :: r => by
    obtain ⟨w1, k1⟩ := W.rest h w r
    unfold restE
    split
    · rename_i d hd
      obtain ⟨v, es, rd⟩ := h i d hd
      obtain ⟨w2, k2⟩ := w1.setV es rd
      exact ⟨w2, fun b f => k1 b (k2 b f)⟩
    · exact ⟨w1, k1⟩
/-- an item appended to the list beside -/
theorem WR.app {acc : List D} {a : Addr} {d : D} {v : V} (w : WR K O H env σ (.l acc) (.ref a)) (rd : RepD K O H d v) : ∃ us, H a = some (.lst us) ∧ us.length = acc.length ∧ WR K O (upd H a (.lst (us ++ [v]))) env σ (.l (acc ++ [d])) (.ref a) ∧
    Step O H (FpR H env σ (.l acc) (.ref a)) O (upd H a (.lst (us ++ [v]))) (FpR (upd H a (.lst (us ++ [v]))) env σ (.l (acc ++ [d])) (.ref a)) := by
  obtain ⟨a', us, z, h1, h2, h3⟩ := w.val
  cases z
  have ne : ∀ b, FpE H env σ b → b ≠ a := fun b f z => w.sep a rfl (z ▸ f)
  have ev : Evo O H O (upd H a (.lst (us ++ [v]))) := ⟨w.w.own, fun b o q n => by rw [upd_ne (fun z => n (by rw [z]; exact h2))]; exact q, fun b z => .inl z, fun b z => by
    by_cases hb : b = a
    · rw [hb, upd_same]; exact Option.some_ne_none _
    · rw [upd_ne hb]; exact z⟩
  have own' : OwnOk O (upd H a (.lst (us ++ [v]))) := fun b z => by
    by_cases hb : b = a
    · rw [hb]; exact ⟨_, upd_same⟩
    · rw [upd_ne hb]; exact w.w.own b z
  have st1 : Step O H (fun b => b = a) O (upd H a (.lst (us ++ [v]))) (fun b => b = a) := ⟨ev, own', fun b z n => ⟨z, upd_ne n⟩, fun b f => .inl f⟩
  have kp : ∀ (i : Nat) (s : Sl) (u : V), env[i]? = some s → σ[i]? = some (some u) → s = .no ∨ (RepS K O (upd H a (.lst (us ++ [v]))) s u ∧ ∀ b, Fp (upd H a (.lst (us ++ [v]))) s u b → Fp H s u b) := fun i s u e1 e2 => by
    rcases w.w.rep i s e1 with z | ⟨u', q1, q2⟩
    · exact .inl z
    · rw [e2] at q1; cases q1
      exact .inr (RepS.keep st1 q2 fun b f z => ne b ⟨i, s, u, e1, e2, f⟩ z)
  have fb : ∀ (i : Nat) (s : Sl) (u : V) (b : Addr), env[i]? = some s → σ[i]? = some (some u) → Fp (upd H a (.lst (us ++ [v]))) s u b → Fp H s u b := fun i s u b e1 e2 f => by
    rcases kp i s u e1 e2 with rfl | z
    · exact f.elim
    · exact z.2 b f
  have w' : W K O (upd H a (.lst (us ++ [v]))) env σ := ⟨own', w.w.len, fun i s e => by
      rcases w.w.rep i s e with z | ⟨u, q1, q2⟩
      · exact .inl z
      · rcases kp i s u e q1 with z | z
        · exact .inl z
        · exact .inr ⟨u, q1, z.1⟩, fun i j s t u x b n e1 e2 e3 e4 f1 f2 => w.w.sep i j s t u x b n e1 e2 e3 e4 (fb i s u b e1 e3 f1) (fb j t x b e2 e4 f2)⟩
  have fe : ∀ b, FpE (upd H a (.lst (us ++ [v]))) env σ b → FpE H env σ b := fun b ⟨i, s, u, e1, e2, f⟩ => ⟨i, s, u, e1, e2, fb i s u b e1 e2 f⟩
  refine ⟨us, h1, h3.length.symm, ⟨w', ⟨a, us ++ [v], rfl, upd_same, h2, (RepDs.evo ev _ _ h3).append (by simp only [RepDs]; exact ⟨v, [], rfl, RepD.evo ev _ _ rd, rfl⟩)⟩, fun b f g => w.sep b f (fe b g)⟩, ?_⟩
  refine ⟨ev, own', fun b z n => st1.keepO b z fun q => n (.inr (by rw [q]; rfl)), fun b f => ?_⟩
  rcases f with f | f
  · exact .inl (.inl (fe b f))
  · exact .inl (.inr f)
theorem still_gets {e0 e1 : En} : ∀ {ps : List Opd}, stillB e0 e1 ps → gets e1 ps = gets e0 ps
  | [], _ => rfl
  | .d x :: r, h => by
    have ih := still_gets (ps := r) h
    show ((Opd.d x).get e1).bind (fun d => (gets e1 r).map (d :: ·)) = ((Opd.d x).get e0).bind (fun d => (gets e0 r).map (d :: ·))
    rw [ih]; rfl
  | .s i :: r, h => by
    have h : e1[i]? = e0[i]? ∧ stillB e0 e1 r := h
    have ih := still_gets (ps := r) h.2
    show ((Opd.s i).get e1).bind (fun d => (gets e1 r).map (d :: ·)) = ((Opd.s i).get e0).bind (fun d => (gets e0 r).map (d :: ·))
    rw [ih]
    simp only [Opd.get, h.1]
/-- THE COMPREHENSION -/
theorem te_lc {t : T} {k : IK} {its cond : List M} {elt : M} {own : List Nat} (sl : ∀ i ∈ t.slots, i ∈ own) {Q : VK} (q : tE K (lcM t k its cond elt own).val σ H Q) :
    tLc (fun σ H R => tI K k (opsM its) σ H fun J H1 => Line K H1 → R J H1) (gT K t) (tT K (condM cond)) (tD K (frzM elt.val)) own σ H Q := by
  obtain ⟨O, env, s, envF, w, h, q⟩ := q
  simp only [lcM, M.ofVal, Option.bind_eq_some_iff] at h
  obtain ⟨⟨ps, e1⟩, h1, ds, h2, items, h3, h4⟩ := h
  split at h4
  case isFalse => cases h4
  rename_i hst
  simp only [Option.map_eq_some_iff] at h4
  obtain ⟨⟨r, e2⟩, h5, h6⟩ := h4
  cases h6
  refine ⟨O, env, ps, e1, ds, items, w, h1, h2, h3, fun O1 H1 J vs st1 w1 rp jo line D hD => ?_⟩
  have hlen : items.length ≤ sizeLine := jo.len O1 H1 w1.own (RepOs.gets w1 rp h2) line
  -- the state between two turns
  let Wt : Nat → Nat → Hp → Prop := fun i m H => m = items.length - i ∧ i ≤ items.length ∧ ∃ O en acc r2, WR K O H en (wipe σ own) (.l acc) (.ref D) ∧ NoAt en own ∧ lcLoop t cond elt own ps e1 (items.drop i) en = some (r2, e2) ∧ r = acc ++ r2 ∧ acc.length ≤ i ∧
    stillB e1 en ps ∧ Step O1 H1 (FpE H1 e1 σ) O H (FpR H en (wipe σ own) (.l acc) (.ref D))
  have start : Wt 0 items.length (upd H1 D (.lst [])) := by
    refine ⟨by simp, Nat.zero_le _, ?_⟩
    obtain ⟨wa, ka⟩ := w1.wipeE own
    obtain ⟨wb, kb⟩ := wa.toWipe (NoAt.wipe e1 own)
    have nw := OwnOk.new (o := .lst []) w1.own hD
    have st : Step O1 H1 F0 (fun b => O1 b ∨ b = D) (upd H1 D (.lst [])) (fun b => Fp (upd H1 D (.lst [])) (.l []) (.ref D) b) := by
      refine ⟨⟨w1.own, nw.evo.keepH, fun b e => ?_, nw.evo.there⟩, fun b e => ?_, fun b e f => ⟨.inl e, (nw.keepO b e f).2⟩, fun b e => ?_⟩
      · rcases e with e | rfl
        · exact .inl e
        · exact .inr hD
      · rcases e with e | rfl
        · exact nw.own b e
        · exact ⟨[], upd_same⟩
      · cases e; exact .inr hD
    obtain ⟨wc, kc⟩ := wb.keep st
    refine ⟨fun b => O1 b ∨ b = D, wipeE e1 own, [], r, ⟨wc, ⟨D, [], rfl, upd_same, .inr rfl, rfl⟩, fun b f g => ?_⟩, NoAt.wipe e1 own, by simpa using h5, rfl, Nat.le_refl _, hst, ⟨st.evo, st.own, fun b e n => st.keepO b e id, fun b f => ?_⟩⟩
    · cases f
      obtain ⟨xs, e⟩ := wb.own D (wb.fpOwn (kc D g))
      rw [hD] at e; cases e
    · rcases f with f | f
      · exact .inl (ka b (kb b (kc b f)))
      · cases f; exact .inr hD
  refine ⟨Wt, ⟨_, start⟩, ?_⟩
  rintro i m H2 ⟨rfl, hi, O2, en, acc, r2, wr, na, hl, hr, hacc, still, st⟩
  obtain ⟨wS, kS⟩ := wr.w.ofWipe na
  have rps : RepPs K O2 H2 ds vs := RepOs.gets wS (RepOs.evo st.evo rp) ((still_gets still).trans h2)
  by_cases hlt : i < items.length
  · refine .inr ?_
    obtain ⟨d, hd⟩ : ∃ d, items[i]? = some d := ⟨items[i], List.getElem?_eq_getElem hlt⟩
    have hdr : items.drop i = d :: items.drop (i + 1) := by
      rw [List.drop_eq_getElem_cons hlt]
      rw [List.getElem?_eq_getElem hlt] at hd; cases hd; rfl
    rw [hdr] at hl
    simp only [lcLoop, Option.bind_eq_some_iff] at hl
    obtain ⟨en1, hasg, ⟨b, en2⟩, hcond, hrest⟩ := hl
    refine ⟨jo.go i O2 H2 d wr.w.own rps hd, Wt (i + 1) (items.length - (i + 1)), fun H' w' => ⟨_, by omega, w'⟩, fun x H3 y => ?_⟩
    obtain ⟨sty, rdx⟩ := jo.yld i O2 H2 d x H3 wr.w.own rps hd y
    obtain ⟨wy, ky⟩ := wr.w.keep sty
    have sty' : Step O2 H2 (FpE H2 en (wipe σ own)) O2 H3 (FpE H3 en (wipe σ own)) := ⟨sty.evo, sty.own, fun b e _ => sty.keepO b e id, fun b f => .inl (ky b f)⟩
    have wry := wr.keep sty' wy
    refine ⟨O2, en, d, en1, wy, rdx, hasg, fun σ2 w2 k2 on2 => ?_⟩
    have hw2 : wipe σ2 own = wipe σ own := by
      have := on2.wipe (own := own) (fun i hi => sl i hi)
      rw [this]
      apply List.ext_getElem?
      intro j
      by_cases hj : j ∈ own
      · have key : ∀ (τ : St) (ow : List Nat), j ∈ ow → (L2.wipe τ ow)[j]? = if j < τ.length then some none else none := by
          intro τ ow
          induction ow with
          | nil => intro h; simp at h
          | cons v vs ih =>
            intro h
            unfold L2.wipe
            by_cases hv : v = j
            · subst hv
              rw [List.getElem?_set]
              simp only [if_pos, wipe_length]
            · rw [List.getElem?_set_ne hv]
              exact ih (by rcases List.mem_cons.mp h with e | e; exact absurd e.symm hv; exact e)
        rw [key _ own hj, key _ own hj, wipe_length]
      · rw [wipe_get hj]
    refine ⟨hw2, O2, en1, b, en2, w2, hcond, fun O4 H4 st4 w4 => ?_⟩
    -- the list beside, so far
    have wr2 : WR K O2 H3 en1 σ2 (.l acc) (.ref D) := ⟨w2, wry.val, fun b f g => wry.sep b f (k2 b g)⟩
    have wr4 := wr2.keep st4 w4
    have toS : ∀ {O5 : Own} {H5 : Hp} {e5 : En}, Step O2 H3 (FpE H3 en1 σ2) O5 H5 (FpE H5 e5 σ2) → Step O1 H1 (FpE H1 e1 σ) O5 H5 (FpR H5 e5 σ2 (.l acc) (.ref D)) := fun {O5 H5 e5} s5 => by
      have a1 : Step O2 H2 (FpE H2 en (wipe σ own)) O5 H5 (FpE H5 e5 σ2) := sty'.trans s5 k2
      have a2 := a1.add (G := fun b => Fp H2 (.l acc) (.ref D) b)
      exact st.trans a2 fun b f => f
    -- the turn's end at e5
    have fin : ∀ {O5 : Own} {H5 : Hp} {e5 : En} {acc' : List Mini.D} {r' : List Mini.D}, WR K O5 H5 e5 σ2 (.l acc') (.ref D) → Step O1 H1 (FpE H1 e1 σ) O5 H5 (FpR H5 e5 σ2 (.l acc') (.ref D)) → acc'.length ≤ i + 1 → r = acc' ++ r' → stillB e1 (wipeE e5 own) ps →
        lcLoop t cond elt own ps e1 (items.drop (i + 1)) (wipeE e5 own) = some (r', e2) → Wt (i + 1) (items.length - (i + 1)) H5 := fun {O5 H5 e5 acc' r'} w5 s5 hl5 hr5 hs5 hlp => by
      obtain ⟨wa, ka⟩ := w5.w.wipeE own
      obtain ⟨wb, kb⟩ := wa.toWipe (NoAt.wipe e5 own)
      rw [hw2] at wb kb
      exact ⟨rfl, hlt, O5, wipeE e5 own, acc', r', ⟨wb, w5.val, fun b f g => w5.sep b f (ka b (kb b g))⟩, NoAt.wipe e5 own, hlp, hr5, hl5, hs5, s5.sub fun b f => f.imp (fun f => ka b (kb b f)) id⟩
    cases b with
    | true =>
      rw [if_pos rfl] at hrest
      simp only [Option.bind_eq_some_iff] at hrest
      obtain ⟨⟨d', en3⟩, helt, hrest⟩ := hrest
      split at hrest
      case isFalse => cases hrest
      rename_i hs3
      simp only [Option.map_eq_some_iff] at hrest
      obtain ⟨⟨r3, e6⟩, hlp, h7⟩ := hrest
      cases h7
      refine iteT ?_
      refine ⟨O4, en2, d', en3, w4, helt, fun O5 H5 v5 st5 w5 rd5 => ?_⟩
      have wr5 := wr4.keep st5 w5
      have s5 := toS (st4.trans st5 fun _ z => z)
      obtain ⟨us, hus, hlen5, wr6, s6⟩ := wr5.app rd5
      refine ⟨us, hus, by omega, fin wr6 (s5.trans s6 fun _ z => z) (by simp; omega) (by rw [hr]; simp) hs3 hlp⟩
    | false =>
      rw [if_neg Bool.false_ne_true] at hrest
      split at hrest
      case isFalse => cases hrest
      rename_i hs3
      refine iteF ?_
      exact fin wr4 (toS st4) (by omega) hr hs3 hrest
  · have e : i = items.length := by omega
    subst e
    rw [List.drop_length] at hl
    cases hl
    rw [List.append_nil] at hr
    subst hr
    refine .inl ⟨jo.stop O2 H2 wr.w.own rps, ?_⟩
    have back : ∀ (i : Nat) (d : Mini.D), e1[i]? = some (.v d) → ∃ v, σ[i]? = some (some v) ∧ RepD K O2 H2 d v := fun i d e => by
      rcases w1.rep i _ e with z | ⟨v, g1, g2⟩
      · cases z
      · exact ⟨v, g1, RepD.evo st.evo _ _ g2⟩
    obtain ⟨wF, kF⟩ := W.rest back wS own
    refine q O2 H2 (.ref D) ((st1.trans st fun _ z => z).sub fun b f => f.imp (fun f => kS b (kF b f)) id) ⟨wF, wr.val, fun b f g => wr.sep b f (kS b (kF b g))⟩
end
end Mini

namespace Mini
open PySem PySem.Spec L2
/-- the fixed slots keep their values -/
def Kp (fz : List Nat) (σ σ' : St) : Prop := ∀ i ∈ fz, σ'[i]? = σ[i]?
theorem Kp.refl {fz : List Nat} {σ : St} : Kp fz σ σ := fun _ _ => rfl
theorem Kp.trans {fz : List Nat} {σ σ1 σ2 : St} (a : Kp fz σ σ1) (b : Kp fz σ1 σ2) : Kp fz σ σ2 := fun i h => (b i h).trans (a i h)
theorem Kp.only {fz sl : List Nat} {σ σ2 : St} (o : OnlyAt σ σ2 sl) (h : ∀ i ∈ fz, i ∉ sl) : Kp fz σ σ2 := fun i hi => o.2 i (h i hi)
/-- what is wanted of an outcome -/
def OutK (K : PySem.W.Frag) (fz : List Nat) (O : Own) (H : Hp) (env : En) (σ : St) (D : Ends) : Out → Prop
  | .nx e' => ∀ O' H' σ', Step O H (FpE H env σ) O' H' (FpE H' e' σ') → W K O' H' e' σ' → Kp fz σ σ' → D.nx σ' H'
  | .rt s e' => ∀ O' H' σ' v, Step O H (FpE H env σ) O' H' (FpR H' e' σ' s v) → WR K O' H' e' σ' s v → Kp fz σ σ' → D.rt v H'
  | .bk e' => ∀ O' H' σ', Step O H (FpE H env σ) O' H' (FpE H' e' σ') → W K O' H' e' σ' → Kp fz σ σ' → D.bk σ' H'
  | .ct e' => ∀ O' H' σ', Step O H (FpE H env σ) O' H' (FpE H' e' σ') → W K O' H' e' σ' → Kp fz σ σ' → D.ct σ' H'
def tS (K : PySem.W.Frag) (fz : List Nat) (f : En → Option Out) : TS := fun D σ H => ∃ O env out, W K O H env σ ∧ f env = some out ∧ OutK K fz O H env σ D out
section
variable {K : PySem.W.Frag} {fz : List Nat} {O O' : Own} {H H' : Hp} {env env2 : En} {σ σ2 : St} {D : Ends}
/-- an outcome's wish, from a later state -/
theorem OutK.later {out : Out} (k : OutK K fz O H env σ D out) (st : Step O H (FpE H env σ) O' H' (FpE H' env2 σ2)) (kp : Kp fz σ σ2) : OutK K fz O' H' env2 σ2 D out := by
  cases out with
  | nx e' => exact fun O3 H3 σ3 s w q => k O3 H3 σ3 (st.trans s fun _ z => z) w (kp.trans q)
  | rt r e' => exact fun O3 H3 σ3 v s w q => k O3 H3 σ3 v (st.trans s fun _ z => z) w (kp.trans q)
  | bk e' => exact fun O3 H3 σ3 s w q => k O3 H3 σ3 (st.trans s fun _ z => z) w (kp.trans q)
  | ct e' => exact fun O3 H3 σ3 s w q => k O3 H3 σ3 (st.trans s fun _ z => z) w (kp.trans q)
end
section
variable {X : Cx} {fz : List Nat} {pos : Pos}
theorem OutK.mono {K : PySem.W.Frag} {O : Own} {H : Hp} {env : En} {σ : St} {D D' : Ends} {out : Out} (k : OutK K fz O H env σ D out) (hn : ∀ e', out = .nx e' → ∀ O' H' σ', Step O H (FpE H env σ) O' H' (FpE H' e' σ') → W K O' H' e' σ' → Kp fz σ σ' → D.nx σ' H' → D'.nx σ' H')
    (hr : ∀ v H', D.rt v H' → D'.rt v H') (hb : ∀ σ' H', D.bk σ' H' → D'.bk σ' H') (hc : ∀ σ' H', D.ct σ' H' → D'.ct σ' H') : OutK K fz O H env σ D' out := by
  cases out with
  | nx e' => exact fun O3 H3 σ3 s w q => hn e' rfl O3 H3 σ3 s w q (k O3 H3 σ3 s w q)
  | rt r e' => exact fun O3 H3 σ3 v s w q => hr _ _ (k O3 H3 σ3 v s w q)
  | bk e' => exact fun O3 H3 σ3 s w q => hb _ _ (k O3 H3 σ3 s w q)
  | ct e' => exact fun O3 H3 σ3 s w q => hc _ _ (k O3 H3 σ3 s w q)
/-- a statement, a block, by its evaluator -/
structure SS (X : Cx) (fz : List Nat) (st : Stmt) (f : En → Option Out) : Prop where
  run : PS X st (tS X.K fz f)
structure SB (X : Cx) (fz : List Nat) (st : List Stmt) (f : En → Option Out) : Prop where
  run : PSs X st (tS X.K fz f)
def seqO (f g : En → Option Out) (env : En) : Option Out := (f env).bind fun r => match r with
    | .nx e1 => g e1
    | .rt s e1 => some (.rt s e1)
    | .bk e1 => some (.bk e1)
    | .ct e1 => some (.ct e1)
theorem sb_nil : SB X fz [] (fun env => some (.nx env)) := ⟨pss_nil.imp fun D σ H q => by
  obtain ⟨O, env, out, w, e, k⟩ := q
  cases e
  exact k O H σ (Step.refl w.own) w .refl⟩
theorem sb_cons {st : Stmt} {rest : List Stmt} {f g : En → Option Out} (h1 : SS X fz st f) (h2 : SB X fz rest g) : SB X fz (st :: rest) (seqO f g) := ⟨(pss_cons h1.run h2.run).imp fun D σ H q => by
  obtain ⟨O, env, out, w, e, k⟩ := q
  simp only [seqO, Option.bind_eq_some_iff] at e
  obtain ⟨r, h3, h4⟩ := e
  refine ⟨O, env, r, w, h3, ?_⟩
  cases r with
  | nx e1 => exact fun O' H' σ' st w' kp => ⟨O', e1, out, w', h4, k.later st kp⟩
  | rt s e1 => cases h4; exact k
  | bk e1 => cases h4; exact k
  | ct e1 => cases h4; exact k⟩
/-! small statements -/
def expO (f : En → Option (Sl × En)) (env : En) : Option Out := (f env).map fun (_, e1) => .nx e1
def retO (f : En → Option (Sl × En)) (env : En) : Option Out := (f env).map fun (s, e1) => .rt s e1
theorem ss_expr {e : Expr} {f : En → Option (Sl × En)} (he : PE X e (tE X.K f)) (hs : swapsWith e none pos.line X.env = pure false) : SS X fz (.Expr e pos) (expO f) := ⟨(ps_expr he hs).imp fun D σ H q => by
  obtain ⟨O, env, out, w, e, k⟩ := q
  simp only [expO, Option.map_eq_some_iff] at e
  obtain ⟨⟨s, e1⟩, h1, h2⟩ := e
  cases h2
  exact ⟨O, env, s, e1, w, h1, fun O' H' v st wr => k O' H' σ (st.sub fun b f => .inl f) wr.w .refl⟩⟩
theorem ss_ret {e : Expr} {f : En → Option (Sl × En)} (he : PE X e (tE X.K f)) : SS X fz (.Return (some e) pos) (retO f) := ⟨(ps_ret he).imp fun D σ H q => by
  obtain ⟨O, env, out, w, e, k⟩ := q
  simp only [retO, Option.map_eq_some_iff] at e
  obtain ⟨⟨s, e1⟩, h1, h2⟩ := e
  cases h2
  exact ⟨O, env, s, e1, w, h1, fun O' H' v st wr => k O' H' σ v st wr .refl⟩⟩
theorem ss_pass : SS X fz (.Pass pos) (fun env => some (.nx env)) := ⟨ps_pass.imp fun D σ H q => by
  obtain ⟨O, env, out, w, e, k⟩ := q
  cases e
  exact k O H σ (Step.refl w.own) w .refl⟩
theorem ss_brk : SS X fz (.Break pos) (fun env => some (.bk env)) := ⟨ps_break.imp fun D σ H q => by
  obtain ⟨O, env, out, w, e, k⟩ := q
  cases e
  exact k O H σ (Step.refl w.own) w .refl⟩
theorem ss_cont : SS X fz (.Continue pos) (fun env => some (.ct env)) := ⟨ps_continue.imp fun D σ H q => by
  obtain ⟨O, env, out, w, e, k⟩ := q
  cases e
  exact k O H σ (Step.refl w.own) w .refl⟩
theorem ss_never {st : Stmt} : SS X fz st (fun _ => none) := ⟨ps_never.imp fun D σ H q => by
  obtain ⟨O, env, out, w, e, k⟩ := q
  cases e⟩
def ifO (c : En → Option (Bool × En)) (a b : En → Option Out) (env : En) : Option Out := (c env).bind fun (k, e1) => if k then a e1 else b e1
theorem ss_if {c : Expr} {a b : List Stmt} {mc : M} {fa fb : En → Option Out} (hc : SE X c mc) (ha : SB X fz a fa) (hb : SB X fz b fb) : SS X fz (.If c a b pos) (ifO mc.tst fa fb) := ⟨(ps_if hc.tst ha.run hb.run).imp fun D σ H q => by
  obtain ⟨O, env, out, w, e, k⟩ := q
  simp only [ifO, Option.bind_eq_some_iff] at e
  obtain ⟨⟨b1, e1⟩, h1, h2⟩ := e
  refine ⟨O, env, b1, e1, w, h1, fun O' H' st w' => ?_⟩
  cases b1 with
  | true => exact ⟨O', e1, out, w', h2, k.later st .refl⟩
  | false => exact ⟨O', e1, out, w', h2, k.later st .refl⟩⟩
/-! assignments -/
def asgO (i : Nat) (f : En → Option (Sl × En)) (env : En) : Option Out := (f env).bind fun (s, e1) => (setS i s e1).map .nx
def unpO (t : T) (f : En → Option (Sl × En)) (env : En) : Option Out := (frzM f env).bind fun (d, e1) => (asgT t d e1).map .nx
theorem asg_end {K : PySem.W.Frag} {i : Nat} {f : En → Option (Sl × En)} (hz : i ∉ fz) {D : Ends} {σ : St} {H : Hp} (q : tS K fz (asgO i f) D σ H) : tE K f σ H fun x H1 => gName i x σ H1 D.nx := by
  obtain ⟨O, env, out, w, e, k⟩ := q
  simp only [asgO, Option.bind_eq_some_iff, Option.map_eq_some_iff] at e
  obtain ⟨⟨s, e1⟩, h1, e2, h2, h3⟩ := e
  cases h3
  refine ⟨O, env, s, e1, w, h1, fun O' H' v st wr => ?_⟩
  obtain ⟨o, g1, g2, rfl⟩ := setS_some h2
  obtain ⟨w2, k2⟩ := wr.store g1 g2
  exact k O' H' _ (st.sub fun b f => k2 b f) w2 fun j hj => List.getElem?_set_ne fun z => hz (by rw [z]; exact hj)
theorem ss_set {i : Nat} {x : Str} {e : Expr} {f : En → Option (Sl × En)} {pos' : Pos} (hz : i ∉ fz) (hN : X.N.Nodup) (hi : X.N[i]? = some x) (hx : Loc X.env.scope x) (he : PE X e (tE X.K f)) (hs : swapsWith e (some (.Name x pos')) pos.line X.env = pure false)
    (hf : X.fn x = true ∨ X.env.scope.names.lookup x = some .local) : SS X fz (.Assign [.Name x pos'] e pos) (asgO i f) := ⟨(ps_set hN hi hx he hs hf).imp fun D σ H q => asg_end hz q⟩
theorem ss_unp {tg e : Expr} {t : T} {f : En → Option (Sl × En)} (hz : ∀ i ∈ fz, i ∉ t.slots) (he : PE X e (tE X.K f)) (hg : PG X tg (gT X.K t)) (hs : swapsWithSole [tg] e pos.line X.env = pure false) (hw : swappedStores [tg] e X.env = pure none)
    (h1 : (assignEach [tg] X.env).map (·.2) = [assign tg X.env]) : SS X fz (.Assign [tg] e pos) (unpO t f) := ⟨(ps_asg (pe_frz he) hg hs hw h1).imp fun D σ H q => by
  obtain ⟨O, env, out, w, e, k⟩ := q
  simp only [unpO, Option.bind_eq_some_iff, Option.map_eq_some_iff] at e
  obtain ⟨⟨d, e1⟩, h1, e2, h2, h3⟩ := e
  cases h3
  refine ⟨O, env, d, e1, w, h1, fun O' H' v st w' rd => ⟨O', e1, d, e2, w', rd, h2, fun σ2 w2 k2 on => ?_⟩⟩
  exact k O' H' σ2 (st.sub k2) w2 (Kp.only on hz)⟩
/-- a, b = x, y -/
theorem ss_par {i j : Nat} {x y : Str} {a b : Expr} {ma mb : M} {px py pt : Pos} {kt k2 : Nat} {pt2 : Pos} (hz : ∀ l ∈ fz, l ≠ i ∧ l ≠ j) (hc : X.calm = true) (hN : X.N.Nodup) (hi : X.N[i]? = some x) (hj : X.N[j]? = some y) (hij : i ≠ j)
    (hx : X.env.scope.names.lookup x = some .local) (hy : X.env.scope.names.lookup y = some .local) (na : notStar a = true) (nb : notStar b = true) (ha : SE X a ma) (hb : SE X b mb)
    (hw : swappedStores [.Tuple [.Name x px, .Name y py] kt pt] (.Tuple [a, b] k2 pt2) X.env = pure (some [x, y])) (hs : swapsWithSole [.Tuple [.Name x px, .Name y py] kt pt] (.Tuple [a, b] k2 pt2) pos.line X.env = pure false) :
    SS X fz (.Assign [.Tuple [.Name x px, .Name y py] kt pt] (.Tuple [a, b] k2 pt2) pos) (unpO (.tp [.nm i, .nm j]) (tupM [ma, mb]).val) := ⟨(L2.ps_par hc hN hi hj hij hx hy (pa_args (by simp [na, nb]) (.cons ha (.cons hb .nil))) hw hs).imp fun D σ H q => by
  obtain ⟨O, env, out, w, e, k⟩ := q
  simp only [unpO, frzM, tupM, M.ofVal, Option.bind_eq_some_iff, Option.map_eq_some_iff] at e
  obtain ⟨⟨d, e1⟩, ⟨⟨s, e3⟩, ⟨⟨ds, e4⟩, h1, h2⟩, d', h4, h5⟩, e2, h6, h7⟩ := e
  cases h7
  split at h2
  case isFalse => cases h2
  have h2' := Option.some.inj h2
  have h5' := h5
  injection h2' with i1 i2
  injection h5' with i3 i4
  subst i1 i2 i3 i4
  have h4' : some (PyData.tuple ds) = some d' := h4
  injection h4' with i5
  subst i5
  refine ⟨O, env, ds, e4, w, h1, fun O' H' vs st w' rd => ?_⟩
  have h6 : asgTs [.nm i, .nm j] ds e4 = some e2 := by simpa only [asgT] using h6
  match ds, h6, rd with
  | [], h6, _ => cases h6
  | [_], h6, _ =>
    simp only [asgTs, Option.bind_eq_some_iff] at h6
    obtain ⟨_, _, z⟩ := h6
    cases z
  | [d1, d2], h6, rd =>
    simp only [asgTs, asgT, Option.bind_eq_some_iff] at h6
    obtain ⟨f1, g1, f2, g2, g3⟩ := h6
    cases g3
    simp only [RepDs] at rd
    obtain ⟨v, r, rfl, r1, v2, r', rfl, r2, rfl⟩ := rd
    refine ⟨v, v2, rfl, ?_⟩
    obtain ⟨o, c1, c2, rfl⟩ := setS_some g1
    obtain ⟨o', c3, c4, rfl⟩ := setS_some g2
    have wr1 : WR X.K O' H' e4 σ (.v d1) v := ⟨w', r1, fun b f => f.elim⟩
    obtain ⟨w1, k1⟩ := wr1.store c1 c2
    have wr2 : WR X.K O' H' (e4.set i (.v d1)) (σ.set i (some v)) (.v d2) v2 := ⟨w1, r2, fun b f => f.elim⟩
    obtain ⟨w2, k2⟩ := wr2.store c3 c4
    refine k O' H' _ (st.sub fun b f => (k2 b f).elim (fun f => (k1 b f).elim id fun z => z.elim) fun z => z.elim) w2 fun l hl => ?_
    obtain ⟨n1, n2⟩ := hz l hl
    rw [List.getElem?_set_ne (Ne.symm n2), List.getElem?_set_ne (Ne.symm n1)]
  | _ :: _ :: _ :: _, h6, _ =>
    simp only [asgTs, Option.bind_eq_some_iff] at h6
    obtain ⟨_, _, _, _, z⟩ := h6
    cases z⟩
/-- x[i] = e -/
def setiO (x : Nat) (i e : M) (env : En) : Option Out := (frzM e.val env).bind fun (d, e1) => if isL e1[x]? then (i.opd e1).bind fun (p, e2) => (p.get e2).bind fun k => setiS x k d e2 else none
theorem own_slot {K : PySem.W.Frag} {O : Own} {H : Hp} {env : En} {σ : St} {i : Nat} {xs : List D} {v : V} (w : W K O H env σ) (e : env[i]? = some (.l xs)) (es : σ[i]? = some (some v)) : ∃ a vs, v = .ref a ∧ H a = some (.lst vs) ∧ RepDs K O H xs vs := by
  rcases w.rep i _ e with z | ⟨u, h1, h2⟩
  · cases z
  · rw [es] at h1; cases h1
    obtain ⟨a, vs, rfl, h3, h4, h5⟩ := h2
    exact ⟨a, vs, rfl, h3, h5⟩
theorem isL_slot {K : PySem.W.Frag} {O : Own} {H : Hp} {env : En} {σ : St} {x : Nat} (w : W K O H env σ) (h : isL env[x]? = true) : ∃ a us, σ[x]? = some (some (.ref a)) ∧ H a = some (.lst us) := by
  cases e : env[x]? with
  | none => rw [e] at h; cases h
  | some s =>
    cases s with
    | l xs =>
      rcases w.rep x _ e with z | ⟨v, h1, h2⟩
      · cases z
      · obtain ⟨a, vs, rfl, h3, _⟩ := h2
        exact ⟨a, vs, h1, h3⟩
    | _ => rw [e] at h; cases h
/-- the slot's own name, seen -/
theorem pe_slot {x : Nat} {n : Str} {p : Pos} (hN : X.N[x]? = some n) (hv : Vis X.env.scope n) (hd : (n == ("__debug__" : Str)) = false) (hcd : (n == ("__classdict__" : Str)) = false) : PE X (.Name n p) (tVar x) := pe_var hN hv hd hcd
theorem ss_seti {x : Nat} {n : Str} {p spos : Pos} {ie e : Expr} {mi me : M} (hN : X.N[x]? = some n) (hv : Vis X.env.scope n) (hd : (n == ("__debug__" : Str)) = false) (hcd : (n == ("__classdict__" : Str)) = false) (hi : SE X ie mi) (he : SE X e me)
    (ha : ∀ v, assign (.Subscript (.Name n p) ie spos) X.env v = (do
      let ov ← holding [v] (eval (.Name n p) X.env)
      let iv ← holding [v, ov] (eval ie X.env)
      standAt spos
      holding [v, ov, iv] (setItem ov iv v)
      release [v, ov, iv] [])) (hs : swapsWithSole [.Subscript (.Name n p) ie spos] e pos.line X.env = pure false) (hw : swappedStores [.Subscript (.Name n p) ie spos] e X.env = pure none) :
    SS X fz (.Assign [.Subscript (.Name n p) ie spos] e pos) (setiO x mi me) := ⟨(ps_asg he.d (pg_sub (pe_slot hN hv hd hcd) hi.opd set_list ha) hs hw rfl).imp fun D σ H q => by
  obtain ⟨O, env, out, w, e, k⟩ := q
  simp only [setiO, Option.bind_eq_some_iff] at e
  obtain ⟨⟨d, e1⟩, h1, e⟩ := e
  split at e
  case isFalse => cases e
  rename_i hL
  simp only [Option.bind_eq_some_iff] at e
  obtain ⟨⟨p, e2⟩, h2, kd, h3, h4⟩ := e
  refine ⟨O, env, d, e1, w, h1, fun O1 H1 v1 st1 w1 rd => ?_⟩
  simp only [setiS] at h4
  split at h4
  case h_2 => cases h4
  rename_i xs kk g1
  simp only [Option.map_eq_some_iff] at h4
  obtain ⟨j, g2, g3⟩ := h4
  cases g3
  obtain ⟨a, us, sx, _⟩ := isL_slot w1 hL
  refine ⟨.ref a, sx, O1, e1, p, e2, w1, h2, fun O2 H2 v2 st2 w2 rp => ?_⟩
  obtain ⟨a', vs, z, hl, rl⟩ := own_slot w2 g1 sx
  cases z
  have hi := (RepO.get w2 rp h3).int
  subst hi
  obtain ⟨w3, st3⟩ := w2.write g1 a sx (rl.set j (RepD.evo st2.evo _ _ rd))
  exact ⟨a, vs, kk, j, rfl, rfl, hl, by rw [← rl.length]; exact g2, k O2 _ σ ((st1.trans st2 fun _ z => z).trans st3 fun _ z => z) w3 .refl⟩⟩
/-- x.append(e), x.extend(e) -/
def appO (x : Nat) (e : M) (env : En) : Option Out := if isL env[x]? then (frzM e.val env).bind fun (d, e1) => appS x d e1 else none
def extO (x : Nat) (e : M) (env : En) : Option Out := if isL env[x]? then (frzM e.val env).bind fun (d, e1) => extS x d e1 else none
theorem args_one {m : M} {env env' : En} {d : D} (h : frzM m.val env = some (d, env')) : argsM [m] env = some ([d], env') := by
  simp only [argsM, h]; rfl
theorem ss_app {x : Nat} {n : Str} {p apos cpos : Pos} {e : Expr} {m : M} (hN : X.N[x]? = some n) (hv : Vis X.env.scope n) (hd : (n == ("__debug__" : Str)) = false) (hcd : (n == ("__classdict__" : Str)) = false) (he : SE X e m) (ns : notStar e = true)
    (hbase : attributeBase (.Name n p) "append" X.env (eval (.Name n p) X.env) = eval (.Name n p) X.env) (hline : (apos.endLine == cpos.line) = true)
    (hfew : ((backTo cpos (starEach [e] X.env)).all (fun x => !x.1) && (backToKw cpos (keywordEach [] X.env)).all (fun x => x.1.isSome) && decide (([e] : List Expr).length + ([] : List Keyword).length + (if ([] : List Keyword).isEmpty then 0 else 1) < 30)) = true)
    (hs : swapsWith (.Call (.Attribute (.Name n p) "append" apos) [e] [] cpos) none pos.line X.env = pure false) :
    SS X fz (.Expr (.Call (.Attribute (.Name n p) "append" apos) [e] [] cpos) pos) (appO x m) :=
  ⟨(ps_expr (pe_bm PySem.F.plainAttrs_list PySem.F.slot_list_append PySem.F.type_list_append mt_append (pe_slot hN hv hd hcd) (pa_args (by simp [ns]) (.cons he .nil)) hbase hfew hline (star_of ns) rfl) hs).imp fun D σ H q => by
  obtain ⟨O, env, out, w, e, k⟩ := q
  simp only [appO] at e
  split at e
  case isFalse => cases e
  rename_i hL
  simp only [Option.bind_eq_some_iff] at e
  obtain ⟨⟨d, e1⟩, h1, h4⟩ := e
  simp only [appS] at h4
  split at h4
  case h_2 => cases h4
  rename_i xs g1
  split at h4
  case isFalse => cases h4
  rename_i hz
  cases h4
  obtain ⟨a, us, sx, hl0⟩ := isL_slot w hL
  refine ⟨.ref a, sx, .inl ⟨rfl, us, SqL.of hl0⟩, O, env, [d], e1, w, args_one h1, fun O1 H1 vs st1 w1 rds => ?_⟩
  simp only [RepDs] at rds
  obtain ⟨v, r, rfl, rd, rfl⟩ := rds
  obtain ⟨a', ys, z, hl, rl⟩ := own_slot w1 g1 sx
  cases z
  obtain ⟨w3, st3⟩ := w1.write g1 a sx (rl.append (show RepDs X.K O1 H1 [d] [v] from by simp only [RepDs]; exact ⟨v, [], rfl, rd, rfl⟩))
  exact ⟨a, ys, v, rfl, rfl, hl, by rw [← rl.length]; exact hz, k O1 _ σ (st1.trans st3 fun _ z => z) w3 .refl⟩⟩
theorem ss_ext {x : Nat} {n : Str} {p apos cpos : Pos} {e : Expr} {m : M} (hN : X.N[x]? = some n) (hv : Vis X.env.scope n) (hd : (n == ("__debug__" : Str)) = false) (hcd : (n == ("__classdict__" : Str)) = false) (he : SE X e m) (ns : notStar e = true)
    (hbase : attributeBase (.Name n p) "extend" X.env (eval (.Name n p) X.env) = eval (.Name n p) X.env) (hline : (apos.endLine == cpos.line) = true)
    (hfew : ((backTo cpos (starEach [e] X.env)).all (fun x => !x.1) && (backToKw cpos (keywordEach [] X.env)).all (fun x => x.1.isSome) && decide (([e] : List Expr).length + ([] : List Keyword).length + (if ([] : List Keyword).isEmpty then 0 else 1) < 30)) = true)
    (hs : swapsWith (.Call (.Attribute (.Name n p) "extend" apos) [e] [] cpos) none pos.line X.env = pure false) :
    SS X fz (.Expr (.Call (.Attribute (.Name n p) "extend" apos) [e] [] cpos) pos) (extO x m) :=
  ⟨(ps_expr (pe_bm PySem.F.plainAttrs_list PySem.F.slot_list_extend PySem.F.type_list_extend mt_extend (pe_slot hN hv hd hcd) (pa_args (by simp [ns]) (.cons he .nil)) hbase hfew hline (star_of ns) rfl) hs).imp fun D σ H q => by
  obtain ⟨O, env, out, w, e, k⟩ := q
  simp only [extO] at e
  split at e
  case isFalse => cases e
  rename_i hL
  simp only [Option.bind_eq_some_iff] at e
  obtain ⟨⟨d, e1⟩, h1, h4⟩ := e
  simp only [extS] at h4
  split at h4
  case h_2 => cases h4
  rename_i xs ys g1
  split at h4
  case isFalse => cases h4
  rename_i hz
  cases h4
  obtain ⟨a, us, sx, hl0⟩ := isL_slot w hL
  refine ⟨.ref a, sx, .inl ⟨rfl, us, SqL.of hl0⟩, O, env, [.list ys], e1, w, args_one h1, fun O1 H1 vs st1 w1 rds => ?_⟩
  simp only [RepDs, RepD] at rds
  obtain ⟨v, r, rfl, ⟨b, ws, rfl, hb, nb, rb⟩, rfl⟩ := rds
  obtain ⟨a', zs, z, hl, rl⟩ := own_slot w1 g1 sx
  cases z
  have lens : zs.length + ws.length ≤ sizeLine := by
    have := rl.length; have := rb.length; omega
  obtain ⟨w3, st3⟩ := w1.write g1 a sx (rl.append rb)
  exact ⟨a, b, zs, ws, rfl, rfl, hl, hb, lens, k O1 _ σ (st1.trans st3 fun _ z => z) w3 .refl⟩⟩
/-! x op= e -/
def rAug (op : Operator) : R2 := match op with
  | .Add => rI0 fun i j => .int (i + j)
  | .Sub => rI0 fun i j => .int (i - j)
  | .Mult => rI CMul fun i j => .int (i * j)
  | _ => fun _ _ _ _ => False
theorem or_aug (op : Operator) : OpR X (inplaceOp op) (rAug op) := by
  cases op with
  | Add => exact iop_add
  | Sub => exact iop_sub
  | Mult => exact iop_mul
  | _ => exact OpR.never
theorem ho_aug {K : PySem.W.Frag} (op : Operator) : HOp2 K (augD op) (rAug op) := by
  intro O H d1 d2 x y res Q own h1 h2 e q
  cases op with
  | Add =>
    cases d1 with
    | int i =>
      cases d2 with
      | int j => cases e; exact ⟨i, j, h1.int, h2.int, q.same own (by simp only [RepD])⟩
      | _ => cases e
    | _ => cases d2 <;> cases e
  | Sub =>
    cases d1 with
    | int i =>
      cases d2 with
      | int j => cases e; exact ⟨i, j, h1.int, h2.int, q.same own (by simp only [RepD])⟩
      | _ => cases e
    | _ => cases d2 <;> cases e
  | Mult =>
    cases d1 with
    | int i =>
      cases d2 with
      | int j =>
        simp only [augD] at e
        split at e
        · rename_i h; cases e; exact ⟨i, j, h1.int, h2.int, h, q.same own (by simp only [RepD])⟩
        · cases e
      | _ => cases e
    | _ => cases d2 <;> cases e
  | _ => cases d1 <;> cases d2 <;> cases e
def augO (i : Nat) (op : Operator) (e : M) (env : En) : Option Out := match env[i]? with
    | some (.v a) => (frzM e.val env).bind fun (d, e1) => (augD op a d).bind fun r => (setS i r e1).map .nx
    | _ => none
theorem ss_aug {i : Nat} {x : Str} {e : Expr} {m : M} {op : Operator} {pos' : Pos} (hz : i ∉ fz) (hN : X.N.Nodup) (hi : X.N[i]? = some x) (hx : Loc X.env.scope x) (he : SE X e m) (hf : X.fn x = true ∨ X.env.scope.names.lookup x = some .local) :
    SS X fz (.AugAssign (.Name x pos') op e pos) (augO i op m) := ⟨(ps_aug hN hi hx he.d (or_aug op) hf).imp fun D σ H q => by
  obtain ⟨O, env, out, w, e, k⟩ := q
  simp only [augO] at e
  split at e
  case h_2 => cases e
  rename_i a g1
  simp only [Option.bind_eq_some_iff, Option.map_eq_some_iff] at e
  obtain ⟨⟨d, e1⟩, h1, r, h2, e2, h3, h4⟩ := e
  cases h4
  rcases w.rep i _ g1 with z | ⟨v, sx, rv⟩
  · cases z
  refine ⟨v, sx, O, env, d, e1, w, h1, fun O1 H1 v1 st1 w1 rd => ?_⟩
  refine ho_aug op O1 H1 a d v v1 r _ w1.own (.inl (RepD.evo st1.evo _ _ rv)) (.inl rd) h2 (RP.end_ w1 fun O2 H2 v2 st2 wr => ?_)
  obtain ⟨o, c1, c2, rfl⟩ := setS_some h3
  obtain ⟨w2, k2⟩ := wr.store c1 c2
  exact k O2 H2 _ ((st1.trans st2 fun _ z => z).sub fun b f => k2 b f) w2 fun j hj => List.getElem?_set_ne fun z => hz (by rw [z]; exact hj)⟩
/-! while -/
theorem whC_some {c : En → Option (Bool × En)} {b : En → Option Out} {env : En} {out : Out} (h : whC c b env = some out) : ∃ n, whN c b n env = some out := by
  unfold whC at h
  split at h
  · rename_i hh
    have e := Option.some.inj h
    exact ⟨hh.choose, by rw [← e]; exact hh.choose_spec.choose_spec⟩
  · cases h
theorem ss_wh {c : Expr} {body : List Stmt} {mc : M} {fb : En → Option Out} (hp : PassesOwn (model X.prog X.w) X.A X.env X.xe) (hc : SE X c mc) (hb : SB X fz body fb) : SS X fz (.While c body [] pos) (whC mc.tst fb) := ⟨(ps_while hp hc.tst hb.run).imp fun D σ H q => by
  obtain ⟨O, env, out, w, e, k⟩ := q
  obtain ⟨n, e⟩ := whC_some e
  refine ⟨fun m σ H => ∃ O env, W X.K O H env σ ∧ whN mc.tst fb m env = some out ∧ OutK X.K fz O H env σ D out, ⟨n, O, env, w, e, k⟩, fun m σ H ⟨O, env, w, e, k⟩ => ?_⟩
  cases m with
  | zero => cases e
  | succ m =>
    simp only [whN, Option.bind_eq_some_iff] at e
    obtain ⟨⟨b, e1⟩, h1, h2⟩ := e
    refine ⟨O, env, b, e1, w, h1, fun O1 H1 st1 w1 => ?_⟩
    have k1 := k.later st1 .refl
    cases b with
    | false =>
      cases h2
      exact k1 O1 H1 σ (Step.refl w1.own) w1 .refl
    | true =>
      have h2 : ((fb e1).bind fun r => match r with
        | .nx e2 => whN mc.tst fb m e2
        | .ct e2 => whN mc.tst fb m e2
        | .bk e2 => some (.nx e2)
        | .rt s e2 => some (.rt s e2)) = some out := h2
      simp only [Option.bind_eq_some_iff] at h2
      obtain ⟨r, h3, h4⟩ := h2
      refine ⟨fun σ' H' => ∃ m', m' < m + 1 ∧ ∃ O env, W X.K O H' env σ' ∧ whN mc.tst fb m' env = some out ∧ OutK X.K fz O H' env σ' D out, fun σ' H' z => z, O1, e1, r, w1, h3, ?_⟩
      cases r with
      | nx e2 => exact fun O2 H2 σ2 st2 w2 kp => ⟨m, Nat.lt_succ_self _, O2, e2, w2, h4, k1.later st2 kp⟩
      | ct e2 => exact fun O2 H2 σ2 st2 w2 kp => ⟨m, Nat.lt_succ_self _, O2, e2, w2, h4, k1.later st2 kp⟩
      | bk e2 => cases h4; exact k1
      | rt s e2 => cases h4; exact k1⟩
/-! for -/
def frO2 (t : T) (k : IK) (its : List M) (b : En → Option Out) (env : En) : Option Out := (opsM (its.map frO) env).bind fun (ps, e1) => (gets e1 ps).bind fun ds => (itemsOf k ds).bind fun xs => frL t b xs e1
theorem se_frO {e : Expr} {m : M} (h : SE X e m) (p : PlainT e = true) : SE X e (frO m) := ⟨h.val, pe_opd h.d, h.tst⟩
theorem opsF_d : ∀ {its : List M} {env env' : En} {ps : List Opd}, opsM (its.map frO) env = some (ps, env') → ∀ p ∈ ps, ∃ d, p = .d d
  | [], _, _, _, h, p, hp => by cases h; cases hp
  | m :: its, env, env', ps, h, p, hp => by
    simp only [List.map_cons, opsM, frO, Option.bind_eq_some_iff, Option.map_eq_some_iff] at h
    obtain ⟨⟨q, e1⟩, ⟨⟨d, e3⟩, h1, h2⟩, ⟨qs, e2⟩, h3, h4⟩ := h
    cases h4; cases h2
    rcases List.mem_cons.mp hp with rfl | hp
    · exact ⟨d, rfl⟩
    · exact opsF_d h3 p hp
theorem repPs_of {K : PySem.W.Frag} {O : Own} {H : Hp} {σ : St} {env : En} : ∀ {ps : List Opd} {ds : List D} {vs : List V}, (∀ p ∈ ps, ∃ d, p = .d d) → gets env ps = some ds → RepOs K O H σ ps vs → RepPs K O H ds vs
  | [], ds, vs, _, e, r => by
    have e' : ([] : List D) = ds := Option.some.inj e
    subst e'; exact r
  | p :: ps, ds, vs, hd, e, r => by
    obtain ⟨v, r', rfl, h1, h2⟩ := r
    obtain ⟨d, rfl⟩ := hd p List.mem_cons_self
    have e' : (((Opd.d d).get env).bind fun d => (Mini.gets env ps).map (d :: ·)) = some ds := e
    simp only [Option.bind_eq_some_iff, Option.map_eq_some_iff] at e'
    obtain ⟨d', e1, es, e2, rfl⟩ := e'
    cases e1
    exact ⟨v, r', rfl, .inl h1, repPs_of (fun p hp => hd p (List.mem_cons_of_mem _ hp)) e2 h2⟩
theorem ss_for {tg iter : Expr} {body : List Stmt} {t : T} {kk : IK} {its : List M} {fb : En → Option Out} (hz : ∀ i ∈ fz, i ∉ t.slots) (hp : PassesOwn (model X.prog X.w) X.A X.env X.xe) (hc : X.calm = true) (hi : PI X tg iter (tI X.K kk (opsM (its.map frO)))) (hg : PG X tg (gT X.K t)) (hb : SB X fz body fb)
    (hs : ∀ x, foldedSetIterable iter X.env x = pure x) : SS X fz (.For tg iter body [] pos) (frO2 t kk its fb) := ⟨(ps_for hp hc hi hg hb.run hs).imp fun D σ H q => by
  obtain ⟨O, env, out, w, e, k⟩ := q
  simp only [frO2, Option.bind_eq_some_iff] at e
  obtain ⟨⟨ps, e1⟩, h1, ds, h2, items, h3, h4⟩ := e
  refine ⟨O, env, ps, e1, ds, items, w, h1, h2, h3, fun O1 H1 J vs st1 w1 rp jo => ?_⟩
  have k1 := k.later st1 .refl
  have pd := opsF_d h1
  refine ⟨fun i m σ2 H2 => m = items.length - i ∧ i ≤ items.length ∧ ∃ O2 en, W X.K O2 H2 en σ2 ∧ frL t fb (items.drop i) en = some out ∧ Step O1 H1 (FpE H1 e1 σ) O2 H2 (FpE H2 en σ2) ∧ Kp fz σ σ2, ⟨_, rfl, Nat.zero_le _, O1, e1, w1, by simpa using h4, Step.refl w1.own, .refl⟩, ?_⟩
  rintro i m σ2 H2 ⟨rfl, hi, O2, en, w2, hl, st2, kp2⟩
  have rps : RepPs X.K O2 H2 ds vs := repPs_of pd h2 (RepOs.evo st2.evo rp)
  have k2 := k1.later st2 kp2
  by_cases hlt : i < items.length
  · obtain ⟨d, hd⟩ : ∃ d, items[i]? = some d := ⟨items[i], List.getElem?_eq_getElem hlt⟩
    have hdr : items.drop i = d :: items.drop (i + 1) := by
      rw [List.drop_eq_getElem_cons hlt]
      rw [List.getElem?_eq_getElem hlt] at hd; cases hd; rfl
    rw [hdr] at hl
    simp only [frL, Option.bind_eq_some_iff] at hl
    obtain ⟨en1, hasg, r, hbd, hrest⟩ := hl
    let Nx : St → Hp → Prop := fun σ3 H3 => ∃ O3 en3, W X.K O3 H3 en3 σ3 ∧ frL t fb (items.drop (i + 1)) en3 = some out ∧ Step O1 H1 (FpE H1 e1 σ) O3 H3 (FpE H3 en3 σ3) ∧ Kp fz σ σ3
    refine .inr ⟨jo.go i O2 H2 d w2.own rps hd, Nx, fun σ3 H3 ⟨O3, en3, z1, z2, z3, z4⟩ => ⟨_, by omega, rfl, hlt, O3, en3, z1, z2, z3, z4⟩, fun x H3 y => ?_⟩
    obtain ⟨sty, rdx⟩ := jo.yld i O2 H2 d x H3 w2.own rps hd y
    obtain ⟨wy, ky⟩ := w2.keep sty
    have sty' : Step O2 H2 (FpE H2 en σ2) O2 H3 (FpE H3 en σ2) := ⟨sty.evo, sty.own, fun b e _ => sty.keepO b e id, fun b f => .inl (ky b f)⟩
    refine ⟨O2, en, d, en1, wy, rdx, hasg, fun σ3 w3 k3 on3 => ?_⟩
    have kp3 : Kp fz σ2 σ3 := Kp.only on3 hz
    have st3 : Step O1 H1 (FpE H1 e1 σ) O2 H3 (FpE H3 en1 σ3) := (st2.trans sty' fun _ z => z).sub k3
    refine ⟨O2, en1, r, w3, hbd, ?_⟩
    have kk1 := k1.later st3 (kp2.trans kp3)
    cases r with
    | nx e2 => exact fun O4 H4 σ4 st4 w4 kp4 => ⟨O4, e2, w4, hrest, st3.trans st4 fun _ z => z, (kp2.trans kp3).trans kp4⟩
    | ct e2 => exact fun O4 H4 σ4 st4 w4 kp4 => ⟨O4, e2, w4, hrest, st3.trans st4 fun _ z => z, (kp2.trans kp3).trans kp4⟩
    | bk e2 => cases hrest; exact kk1
    | rt s e2 => cases hrest; exact kk1
  · have e : i = items.length := by omega
    subst e
    rw [List.drop_length] at hl
    cases hl
    exact .inl ⟨jo.stop O2 H2 w2.own rps, k2 O2 H2 σ2 (Step.refl w2.own) w2 .refl⟩⟩
end
end Mini

namespace Mini
open PySem PySem.Spec L2
/-! built-ins by name -/
def HOpN (K : PySem.W.Frag) (f : List D → Option Sl) (r : List V → Hp → VK → Prop) : Prop :=
  ∀ (O : Own) (H : Hp) (ds : List D) (vs : List V) (res : Sl) (Q : VK), OwnOk O H → RepPs K O H ds vs → f ds = some res → RP K O H res Q → r vs H Q
theorem CallR.or {X : Cx} {f : Value} {r r' : List V → Hp → VK → Prop} (h : CallR X f r) (h' : CallR X f r') : CallR X f (fun vs H Q => r vs H Q ∨ r' vs H Q) := by
  intro pins s σ H xs us Q I rv q
  rcases q with q | q
  · exact h pins s σ H xs us Q I rv q
  · exact h' pins s σ H xs us Q I rv q
section
variable {X : Cx} {K : PySem.W.Frag}
theorem nil_ps {O : Own} {H : Hp} {vs : List V} (h : RepPs K O H [] vs) : vs = [] := h
theorem many_ps {O : Own} {H : Hp} {d e f : D} {r : List D} {vs : List V} {P : Prop} (h : RepPs K O H (d :: e :: f :: r) vs) : True := trivial
theorem ho_len : HOpN K (bltD .len) (fun xs H Q => ∃ x n, xs = [x] ∧ LenV K x H n ∧ Q (.int n) H) := by
  intro O H ds vs res Q own r e q
  match ds, r, e with
  | [d], r, e =>
    obtain ⟨v, rfl, h⟩ := one_ps r
    cases d with
    | list xs =>
      cases e
      obtain ⟨a, us, rfl, h1, h2⟩ := h.list
      exact ⟨_, us.length, rfl, .inl ⟨us, SqL.of h1, rfl⟩, by rw [← h2.length]; exact q.same own (by simp only [RepD])⟩
    | tuple xs =>
      cases e
      obtain ⟨a, us, rfl, h1, h2⟩ := h.tuple
      exact ⟨_, us.length, rfl, .inr ⟨us, h1, rfl⟩, by rw [← h2.length]; exact q.same own (by simp only [RepD])⟩
    | str s =>
      simp only [bltD] at e
      split at e
      · rename_i hs
        cases e
        have h := h.str
        subst h
        exact ⟨_, s.length, rfl, ⟨hs, rfl⟩, q.same own (by simp only [RepD])⟩
      · cases e
    | _ => cases e
  | [], _, e => cases e
  | d :: _ :: _, _, e => cases d <;> cases e
theorem ho_all : HOpN K (bltD .all) (rAll K) := by
  intro O H ds vs res Q own r e q
  match ds, r, e with
  | [d], r, e =>
    obtain ⟨v, rfl, h⟩ := one_ps r
    cases d with
    | list xs =>
      simp only [bltD, Option.map_eq_some_iff] at e
      obtain ⟨bs, e1, rfl⟩ := e
      obtain ⟨a, us, rfl, h1, h2⟩ := h.list
      have := h2.boolsOf e1
      subst this
      exact ⟨a, bs, rfl, SqL.of h1, q.same own (by simp only [RepD])⟩
    | _ => cases e
  | [], _, e => cases e
  | d :: _ :: _, _, e => cases d <;> cases e
theorem ho_any : HOpN K (bltD .any) (rAny K) := by
  intro O H ds vs res Q own r e q
  match ds, r, e with
  | [d], r, e =>
    obtain ⟨v, rfl, h⟩ := one_ps r
    cases d with
    | list xs =>
      simp only [bltD, Option.map_eq_some_iff] at e
      obtain ⟨bs, e1, rfl⟩ := e
      obtain ⟨a, us, rfl, h1, h2⟩ := h.list
      have := h2.boolsOf e1
      subst this
      exact ⟨a, bs, rfl, SqL.of h1, q.same own (by simp only [RepD])⟩
    | _ => cases e
  | [], _, e => cases e
  | d :: _ :: _, _, e => cases d <;> cases e
theorem ho_sum : HOpN K (bltD .sum) (rSum K) := by
  intro O H ds vs res Q own r e q
  match ds, r, e with
  | [d], r, e =>
    obtain ⟨v, rfl, h⟩ := one_ps r
    cases d with
    | list xs =>
      simp only [bltD, Option.map_eq_some_iff] at e
      obtain ⟨bs, e1, rfl⟩ := e
      obtain ⟨a, us, rfl, h1, h2⟩ := h.list
      have := h2.intsOf e1
      subst this
      exact ⟨a, bs, rfl, SqL.of h1, q.same own (by simp only [RepD])⟩
    | _ => cases e
  | [], _, e => cases e
  | d :: _ :: _, _, e => cases d <;> cases e
theorem foldl_max_ge : ∀ (r : List Int) (x : Int), x ≤ r.foldl max x ∧ ∀ y ∈ r, y ≤ r.foldl max x
  | [], x => ⟨Int.le_refl _, fun _ h => nomatch h⟩
  | z :: r, x => by
    obtain ⟨h1, h2⟩ := foldl_max_ge r (max x z)
    refine ⟨by simp only [List.foldl_cons]; omega, fun y hy => ?_⟩
    rcases List.mem_cons.mp hy with rfl | hy
    · simp only [List.foldl_cons]; omega
    · exact h2 y hy
theorem foldl_max_mem : ∀ (r : List Int) (x : Int), r.foldl max x ∈ x :: r
  | [], x => by simp
  | z :: r, x => by
    have := foldl_max_mem r (max x z)
    simp only [List.foldl_cons]
    rcases List.mem_cons.mp this with h | h
    · rw [h]
      by_cases hx : x ≤ z
      · rw [Int.max_eq_right hx]; simp
      · rw [Int.max_eq_left (by omega)]; simp
    · exact List.mem_cons_of_mem _ (List.mem_cons_of_mem _ h)
theorem foldl_min_le : ∀ (r : List Int) (x : Int), r.foldl min x ≤ x ∧ ∀ y ∈ r, r.foldl min x ≤ y
  | [], x => ⟨Int.le_refl _, fun _ h => nomatch h⟩
  | z :: r, x => by
    obtain ⟨h1, h2⟩ := foldl_min_le r (min x z)
    refine ⟨by simp only [List.foldl_cons]; omega, fun y hy => ?_⟩
    rcases List.mem_cons.mp hy with rfl | hy
    · simp only [List.foldl_cons]; omega
    · exact h2 y hy
theorem foldl_min_mem : ∀ (r : List Int) (x : Int), r.foldl min x ∈ x :: r
  | [], x => by simp
  | z :: r, x => by
    have := foldl_min_mem r (min x z)
    simp only [List.foldl_cons]
    rcases List.mem_cons.mp this with h | h
    · rw [h]
      by_cases hx : x ≤ z
      · rw [Int.min_eq_left hx]; simp
      · rw [Int.min_eq_right (by omega)]; simp
    · exact List.mem_cons_of_mem _ (List.mem_cons_of_mem _ h)
theorem ho_max : HOpN K (bltD .max) (fun vs H Q => rMax K vs H Q ∨ ∃ i j, vs = [.int i, .int j] ∧ Q (.int (if j > i then j else i)) H) := by
  intro O H ds vs res Q own r e q
  match ds, r, e with
  | [d], r, e =>
    obtain ⟨v, rfl, h⟩ := one_ps r
    cases d with
    | list xs =>
      simp only [bltD, Option.bind_eq_some_iff, Option.map_eq_some_iff] at e
      obtain ⟨ns, e1, m, e2, rfl⟩ := e
      obtain ⟨a, us, rfl, h1, h2⟩ := h.list
      have := h2.intsOf e1
      subst this
      cases ns with
      | nil => cases e2
      | cons x ns =>
        cases e2
        refine .inl ⟨a, x :: ns, rfl, SqL.of h1, by simp, fun m hm hy => ?_⟩
        have g := foldl_max_ge ns x
        have gm := foldl_max_mem ns x
        have e3 : m = ns.foldl max x := by
          have l1 := hy _ gm
          have l2 : m ≤ ns.foldl max x := by
            rcases List.mem_cons.mp hm with rfl | hm
            · exact g.1
            · exact g.2 m hm
          omega
        subst e3
        exact q.same own (by simp only [RepD])
    | _ => cases e
  | [d1, d2], r, e =>
    obtain ⟨v, u, rfl, h1, h2⟩ := two_ps r
    cases d1 with
    | int i =>
      cases d2 with
      | int j =>
        cases e
        have h1 := h1.int
        have h2 := h2.int
        subst h1 h2
        exact .inr ⟨i, j, rfl, q.same own (by simp only [RepD])⟩
      | _ => cases e
    | _ => cases e
  | [], _, e => cases e
  | d :: d2 :: _ :: _, _, e => cases d <;> cases d2 <;> cases e
theorem ho_min : HOpN K (bltD .min) (fun vs H Q => rMin K vs H Q ∨ ∃ i j, vs = [.int i, .int j] ∧ Q (.int (if j < i then j else i)) H) := by
  intro O H ds vs res Q own r e q
  match ds, r, e with
  | [d], r, e =>
    obtain ⟨v, rfl, h⟩ := one_ps r
    cases d with
    | list xs =>
      simp only [bltD, Option.bind_eq_some_iff, Option.map_eq_some_iff] at e
      obtain ⟨ns, e1, m, e2, rfl⟩ := e
      obtain ⟨a, us, rfl, h1, h2⟩ := h.list
      have := h2.intsOf e1
      subst this
      cases ns with
      | nil => cases e2
      | cons x ns =>
        cases e2
        refine .inl ⟨a, x :: ns, rfl, SqL.of h1, by simp, fun m hm hy => ?_⟩
        have g := foldl_min_le ns x
        have gm := foldl_min_mem ns x
        have e3 : m = ns.foldl min x := by
          have l1 := hy _ gm
          have l2 : ns.foldl min x ≤ m := by
            rcases List.mem_cons.mp hm with rfl | hm
            · exact g.1
            · exact g.2 m hm
          omega
        subst e3
        exact q.same own (by simp only [RepD])
    | _ => cases e
  | [d1, d2], r, e =>
    obtain ⟨v, u, rfl, h1, h2⟩ := two_ps r
    cases d1 with
    | int i =>
      cases d2 with
      | int j =>
        cases e
        have h1 := h1.int
        have h2 := h2.int
        subst h1 h2
        exact .inr ⟨i, j, rfl, q.same own (by simp only [RepD])⟩
      | _ => cases e
    | _ => cases e
  | [], _, e => cases e
  | d :: d2 :: _ :: _, _, e => cases d <;> cases d2 <;> cases e
theorem ho_abs : HOpN K (bltD .abs) (fun xs H Q => ∃ i, xs = [.int i] ∧ Q (.int (if i < 0 then -i else i)) H) := by
  intro O H ds vs res Q own r e q
  match ds, r, e with
  | [d], r, e =>
    obtain ⟨v, rfl, h⟩ := one_ps r
    cases d with
    | int i =>
      cases e
      have h := h.int
      subst h
      exact ⟨i, rfl, q.same own (by simp only [RepD])⟩
    | _ => cases e
  | [], _, e => cases e
  | d :: _ :: _, _, e => cases d <;> cases e
theorem ho_intT : HOpN K (bltD .int) (fun xs H Q => (∃ i, xs = [.int i] ∧ Q (.int i) H) ∨ ∃ k, xs = [.bl k] ∧ Q (.int (if k then 1 else 0)) H) := by
  intro O H ds vs res Q own r e q
  match ds, r, e with
  | [d], r, e =>
    obtain ⟨v, rfl, h⟩ := one_ps r
    cases d with
    | int i =>
      cases e
      have h := h.int
      subst h
      exact .inl ⟨i, rfl, q.same own (by simp only [RepD])⟩
    | _ => cases e
  | [], _, e => cases e
  | d :: _ :: _, _, e => cases d <;> cases e
theorem ho_tupleT : HOpN K (bltD .tuple) (fun xs H Q => ∃ p ys, xs = [.ref p] ∧ ((SqL K H p ys ∧ ∀ l, H l = none → Q (.ref l) (upd H l (.tup ys))) ∨ (SqT K H p ys ∧ Q (.ref p) H))) := by
  intro O H ds vs res Q own r e q
  match ds, r, e with
  | [d], r, e =>
    obtain ⟨v, rfl, h⟩ := one_ps r
    cases d with
    | list xs =>
      cases e
      obtain ⟨a, us, rfl, h1, h2⟩ := h.list
      exact ⟨a, us, rfl, .inl ⟨SqL.of h1, fun l hl => q.tup own h2 l hl⟩⟩
    | tuple xs =>
      cases e
      obtain ⟨a, us, rfl, h1, h2⟩ := h.tuple
      exact ⟨a, us, rfl, .inr ⟨h1, q.same own (by simp only [RepD]; exact ⟨a, us, rfl, h1, h2⟩)⟩⟩
    | _ => cases e
  | [], _, e => cases e
  | d :: _ :: _, _, e => cases d <;> cases e
theorem ho_listT : HOpN K (bltD .list) (fun xs H Q => ∃ p ys, xs = [.ref p] ∧ (SqL K H p ys ∨ SqT K H p ys) ∧ ∀ l, H l = none → Q (.ref l) (upd H l (.lst ys))) := by
  intro O H ds vs res Q own r e q
  match ds, r, e with
  | [d], r, e =>
    obtain ⟨v, rfl, h⟩ := one_ps r
    cases d with
    | list xs =>
      cases e
      obtain ⟨a, us, rfl, h1, h2⟩ := h.list
      exact ⟨a, us, rfl, .inl (SqL.of h1), fun l hl => q.lst own h2 l hl⟩
    | tuple xs =>
      cases e
      obtain ⟨a, us, rfl, h1, h2⟩ := h.tuple
      exact ⟨a, us, rfl, .inr h1, fun l hl => q.lst own h2 l hl⟩
    | _ => cases e
  | [], _, e => cases e
  | d :: _ :: _, _, e => cases d <;> cases e
def blName : Bl → Str
  | .len => "len" | .all => "all" | .any => "any" | .sum => "sum" | .min => "min" | .max => "max" | .abs => "abs" | .tuple => "tuple" | .list => "list" | .int => "int" | .sorted => "sorted" | .str => "str"
theorem te_ops {f : List D → Option Sl} {r : List V → Hp → VK → Prop} (hop : HOpN K f r) {ms : List M} {σ : St} {H : Hp} {Q : VK} (q : tE K (fun env => (opsM ms env).bind fun (ps, e1) => (gets e1 ps).bind fun ds => (f ds).map fun r => (r, e1)) σ H Q) : tCB r (tOs K (opsM ms)) σ H Q := by
  obtain ⟨O, env, s, env', w, e, q⟩ := q
  simp only [Option.bind_eq_some_iff, Option.map_eq_some_iff] at e
  obtain ⟨⟨ps, e1⟩, h1, ds, h2, res, h3, h4⟩ := e
  cases h4
  exact ⟨O, env, ps, e1, w, h1, fun O' H' vs st w' rp => hop O' H' ds vs _ _ w'.own (RepOs.gets w' rp h2) h3 (RP.end_ w' fun O2 H2 v2 st2 wr => q O2 H2 v2 (st.trans st2 fun _ z => z) wr)⟩
theorem any_star {es : List Expr} {env : PySem.Env} {pos : Pos} (n : es.all notStar = true) : (backTo pos (starEach es env)).any (·.1) = false := by
  induction es with
  | nil => rfl
  | cons e es ih =>
    simp only [List.all_cons, Bool.and_eq_true] at n
    rw [star_of n.1]
    have := ih n.2
    simpa [backTo] using this
theorem se_blt {b : Bl} {e : Expr} {es : List Expr} {ms : List M} {p pos : Pos} (hc : X.calm = true) (hg : Gl X (blName b)) (hm : X.mg (blName b) = none) (n : (e :: es).all notStar = true) (h : SEs X (e :: es) ms) : SE X (.Call (.Name (blName b) p) (e :: es) [] pos) (bltM b ms) := by
  have hs : starEach (e :: es) X.env = (false, eval e X.env) :: starEach es X.env := star_of (by simp only [List.all_cons, Bool.and_eq_true] at n; exact n.1)
  have hpl : (backTo pos (starEach es X.env)).any (·.1) = false := any_star (by simp only [List.all_cons, Bool.and_eq_true] at n; exact n.2)
  have fin : ∀ {r : List V → Hp → VK → Prop}, HOpN X.K (bltD b) r → PE X (.Call (.Name (blName b) p) (e :: es) [] pos) (tCB r (tOs X.K (opsM ms))) → SE X (.Call (.Name (blName b) p) (e :: es) [] pos) (bltM b ms) := fun {r} ho pe =>
    .ofVal rfl (pe.imp fun _ _ _ q => te_ops ho q)
  have pa := pa_ops n h
  cases b with
  | len => exact fin ho_len (pe_callB call_len hg hm PySem.boot_len pa (by decide) (by decide) hs hpl)
  | all => exact fin ho_all (pe_callB (cr_all hc) hg hm PyProof.Rows.boot_all pa (by decide) (by decide) hs hpl)
  | any => exact fin ho_any (pe_callB (cr_any hc) hg hm PyProof.Rows.boot_any pa (by decide) (by decide) hs hpl)
  | sum => exact fin ho_sum (pe_callB (cr_sum hc) hg hm PyProof.Rows.boot_sum pa (by decide) (by decide) hs hpl)
  | min => exact fin ho_min (pe_callB (CallR.or (cr_min hc) (call_min2 hc)) hg hm PyProof.Rows.boot_min pa (by decide) (by decide) hs hpl)
  | max => exact fin ho_max (pe_callB (CallR.or (cr_max hc) (call_max2 hc)) hg hm PyProof.Rows.boot_max pa (by decide) (by decide) hs hpl)
  | abs => exact fin ho_abs (pe_callB call_abs hg hm PyProof.Rows.boot_abs pa (by decide) (by decide) hs hpl)
  | tuple => exact fin ho_tupleT (pe_callTy call_tuple_of hg hm PyProof.Rows.boot_tuple pa (by decide) (by decide) hs hpl)
  | list => exact fin ho_listT (pe_callTy call_list_of hg hm PyProof.Rows.boot_list pa (by decide) (by decide) hs hpl)
  | int => exact fin ho_intT (pe_callTy call_int1 hg hm PyProof.Rows.boot_int pa (by decide) (by decide) hs hpl)
  | sorted =>
    refine .ofVal rfl (PE.never.imp fun σ H Q q => ?_)
    obtain ⟨O, env, s, env', w, e, q⟩ := q
    simp only [Option.bind_eq_some_iff, Option.map_eq_some_iff] at e
    obtain ⟨_, _, ds, _, res, h3, _⟩ := e
    cases h3
  | str =>
    refine .ofVal rfl (PE.never.imp fun σ H Q q => ?_)
    obtain ⟨O, env, s, env', w, e, q⟩ := q
    simp only [Option.bind_eq_some_iff, Option.map_eq_some_iff] at e
    obtain ⟨_, _, ds, _, res, h3, _⟩ := e
    cases h3
/-! isinstance -/
def tyName : Ty → String
  | .int => "int" | .bool => "bool" | .tuple => "tuple" | .list => "list" | .str => "str"
def dTy : D → String
  | .none => "NoneType" | .bool _ => "bool" | .int _ => "int" | .str _ => "str" | .tuple _ => "tuple" | .list _ => "list" | .dict _ => "dict"
theorem tyx_of {O : Own} {H : Hp} {d : D} {v : V} (r : RepP K O H d v) : TyX K H v (.type (dTy d)) := by
  cases d with
  | none => have e := r.none; subst e; exact .base .non
  | bool b => have e := r.bool; subst e; exact .base (.bl b)
  | int b => have e := r.int; subst e; exact .base (.int b)
  | str b => have e := r.str; subst e; exact .base (.str b)
  | list b => obtain ⟨a, vs, rfl, h, _⟩ := r.list; exact .base (.lst h)
  | tuple b =>
    obtain ⟨a, vs, rfl, h, _⟩ := r.tuple
    rcases h with (h | ⟨o, h⟩) | ⟨o, its, n, h, h2, _⟩
    · exact .base (.tup h)
    · exact .fTuple h
    · exact .kTuple h h2
  | dict b => exact r.dict.elim
def tyB (a b : Ty) : Bool := match a, b with
  | .int, .int => true | .bool, .int => true | .bool, .bool => true | .tuple, .tuple => true | .list, .list => true | .str, .str => true | _, _ => false
theorem kit_tt (a b : Ty) : kitB (tyName a) (tyName b) = some (tyB a b) := by cases a <;> cases b <;> decide +kernel
theorem kit_n (b : Ty) : kitB "NoneType" (tyName b) = some false := by cases b <;> decide +kernel
theorem kit_d (b : Ty) : kitB "dict" (tyName b) = some false := by cases b <;> decide +kernel
theorem kit_of {d : D} {t : Ty} : PySem.W.kitOne K (.type (dTy d)) (.type (tyName t)) = some (isiD d t) := by
  refine kit_ty ?_
  cases d with
  | none => exact (kit_n t).trans (by cases t <;> rfl)
  | bool b => exact (kit_tt .bool t).trans (by cases t <;> rfl)
  | int b => exact (kit_tt .int t).trans (by cases t <;> rfl)
  | str b => exact (kit_tt .str t).trans (by cases t <;> rfl)
  | tuple b => exact (kit_tt .tuple t).trans (by cases t <;> rfl)
  | list b => exact (kit_tt .list t).trans (by cases t <;> rfl)
  | dict b => exact (kit_d t).trans (by cases t <;> rfl)
theorem boot_ty (t : Ty) : bootBuiltins (tyName t : Str) = some (.type (tyName t)) := by cases t <;> decide +kernel
theorem se_isi {a : Expr} {ma : M} {t : Ty} {p p2 pos : Pos} (hg : Gl X "isinstance") (hm : X.mg "isinstance" = none) (hg2 : Gl X (tyName t)) (hm2 : X.mg (tyName t) = none) (n : notStar a = true) (h : SE X a ma) :
    SE X (.Call (.Name "isinstance" p) [a, .Name (tyName t) p2] [] pos) (.cmp (op1 (fun d => some (.v (.bool (isiD d t)))) ma).val) := by
  have pt : PE X (.Name (tyName t) p2) (tC (.ty (tyName t))) := pe_bltn hg2 hm2 (boot_ty t) rfl (by cases t <;> decide) (by cases t <;> decide)
  have pe0 := pe_callB (X := X) (pos := pos) (p := p) call_isi hg hm PyProof.Rows.boot_isinstance (pa_cons h.opd (pa_cons pt pa_nil) (star_of n)) (by decide) (by decide) (star_of n) (any_star (by rfl))
  have key : ∀ {σ : St} {H : Hp} {Q : VK}, tE X.K (op1 (fun d => some (.v (.bool (isiD d t)))) ma).val σ H Q → tCB (rIsi X.K) (tCons (tO X.K ma.opd) (tCons (tC (.ty (tyName t))) tNil)) σ H Q := fun {σ H Q} q => by
    refine te_op1 (r := fun x H Q => rIsi X.K [x, .ty (tyName t)] H Q) (fun O H d x res Q own r e q => ?_) q
    cases e
    exact ⟨x, .ty (tyName t), _, _, isiD d t, rfl, .ty _, tyx_of r, kit_of, q.same own (by simp only [RepD])⟩
  refine se_of_cmp (pe0.imp fun _ _ _ q => key q) ((pt_val pe0).imp fun σ H Q q => key (tt_of_te q))
/-! slices -/
def plainIx : Expr → Bool
  | .Slice _ _ _ _ => false
  | .Tuple _ _ _ => false
  | _ => true
theorem po_part {o : Option Expr} {ms : List M} (h : match o, ms with | none, [] => True | some e, [m] => SE X e m | _, _ => False) : PO X o (fun σ H Q => ∃ O env l env', W X.K O H env σ ∧ partM ms env = some (l, env') ∧
    ∀ O' H', Step O H (FpE H env σ) O' H' (FpE H' env' σ) → W X.K O' H' env' σ → Q l H') := by
  cases o with
  | none =>
    cases ms with
    | nil =>
      refine ⟨fun pins s σ H Q I q => po_none.run pins s σ H Q I ?_⟩
      obtain ⟨O, env, l, env', w, e, q⟩ := q
      cases e
      exact q O H (Step.refl w.own) w
    | cons _ _ => exact h.elim
  | some e =>
    match ms, h with
    | [m], h =>
      refine ⟨fun pins s σ H Q I q => (po_some h.opd).run pins s σ H Q I ?_⟩
      obtain ⟨O, env, l, env', w, e, q⟩ := q
      simp only [partM, Option.bind_eq_some_iff] at e
      obtain ⟨⟨p, e1⟩, h1, d, h2, h3⟩ := e
      refine ⟨O, env, p, e1, w, h1, fun O' H' v st w' r => ?_⟩
      have rp := RepO.get w' r h2
      cases d with
      | int i => cases h3; exact ⟨i, rp.int, q O' H' st w'⟩
      | _ => cases h3
    | [], h => exact h.elim
    | _ :: _ :: _, h => exact h.elim
theorem cut_rep {O : Own} {H : Hp} {xs : List D} {vs : List V} (r : RepDs K O H xs vs) (lo hi : Option Int) : RepDs K O H (cutD xs lo hi) (cutV vs lo hi) := by
  unfold cutD cutV
  rw [r.length]
  exact (r.drop _).take _
theorem cutV_whole {vs : List V} {lo hi : Option Int} (h : HT.sIx vs.length 0 lo = 0 ∧ HT.sIx vs.length vs.length hi = vs.length) : cutV vs lo hi = vs := by
  unfold cutV; rw [h.1, h.2]; simp
theorem se_slc {a : Expr} {ma : M} {lo hi : Option Expr} {ml mh : List M} {p2 pos : Pos} (ha : SE X a ma) (hl : match lo, ml with | none, [] => True | some e, [m] => SE X e m | _, _ => False) (hh : match hi, mh with | none, [] => True | some e, [m] => SE X e m | _, _ => False) :
    SE X (.Subscript a (.Slice lo hi none p2) pos) (slcM ma ml mh) := .ofVal rfl ((pe_slice (SlR.or sl_list sl_tupA) ha.opd (po_part hl) (po_part hh)).imp fun σ H Q q => by
  obtain ⟨O, env, s, env', w, e, q⟩ := q
  simp only [Option.bind_eq_some_iff, Option.map_eq_some_iff] at e
  obtain ⟨⟨p, e1⟩, h1, ⟨l, e2⟩, h2, ⟨h, e3⟩, h3, x, h4, res, h5, h6⟩ := e
  cases h6
  refine ⟨O, env, p, e1, w, h1, fun O1 H1 v st1 w1 rp => ⟨O1, e1, l, e2, w1, h2, fun O2 H2 st2 w2 => ⟨O2, e2, h, e3, w2, h3, fun O3 H3 st3 w3 => ?_⟩⟩⟩
  have r3 := RepO.get w3 (RepO.evo st3.evo (RepO.evo st2.evo rp)) h4
  have q3 : RP X.K O3 H3 s Q := RP.end_ w3 fun O4 H4 v4 st4 wr => q O4 H4 v4 (((st1.trans st2 fun _ z => z).trans st3 fun _ z => z).trans st4 fun _ z => z) wr
  cases x with
  | list xs =>
    cases h5
    obtain ⟨a, us, rfl, g1, g2⟩ := r3.list
    exact .inl ⟨a, us, rfl, SqL.of g1, fun p hp => q3.lst w3.own (cut_rep g2 _ _) p hp⟩
  | tuple xs =>
    cases h5
    obtain ⟨a, us, rfl, g1, g2⟩ := r3.tuple
    refine .inr ⟨a, us, rfl, g1, fun hw => ?_, fun hw p hp => q3.tup w3.own (cut_rep g2 _ _) p hp⟩
    refine q3.same w3.own ?_
    simp only [RepD]
    refine ⟨a, us, rfl, g1, ?_⟩
    have := cut_rep g2 l h
    rw [cutV_whole hw] at this
    exact this
  | _ => cases h5)
/-! x.pop() -/
theorem se_pop {x : Nat} {n : Str} {p apos cpos : Pos} (hN : X.N[x]? = some n) (hv : Vis X.env.scope n) (hd : (n == ("__debug__" : Str)) = false) (hcd : (n == ("__classdict__" : Str)) = false)
    (hbase : attributeBase (.Name n p) "pop" X.env (eval (.Name n p) X.env) = eval (.Name n p) X.env) (hline : (apos.endLine == cpos.line) = true) : SE X (.Call (.Attribute (.Name n p) "pop" apos) [] [] cpos) (popM x) :=
  .ofVal rfl ((pe_bm0 PySem.F.plainAttrs_list PySem.F.slot_list_pop PySem.F.type_list_pop mt_pop (pe_slot hN hv hd hcd) hbase hline).imp fun σ H Q q => by
  obtain ⟨O, env, s, env', w, e, q⟩ := q
  dsimp only at e
  split at e
  case h_2 => cases e
  rename_i xs g1
  split at e
  case h_2 => cases e
  rename_i d g2
  cases e
  rcases w.rep x _ g1 with z | ⟨v, sx, r⟩
  · cases z
  obtain ⟨a, vs, rfl, h1, h2, h3⟩ := id r
  have hl := h3.length
  have gl : xs[xs.length - 1]? = some d := by rw [← g2]; exact List.getLast?_eq_getElem?.symm
  obtain ⟨y, g3, g4⟩ := h3.get gl
  refine ⟨.ref a, sx, .inl ⟨rfl, vs, SqL.of h1⟩, a, vs, y, rfl, rfl, h1, by rw [← hl]; exact g3, ?_⟩
  have rd : RepDs X.K O H xs.dropLast vs.dropLast := by
    rw [List.dropLast_eq_take, List.dropLast_eq_take, hl]; exact h3.take _
  obtain ⟨w3, st3⟩ := w.write g1 a sx rd
  exact q O _ y (st3.sub fun b f => f.elim id fun z => z.elim) ⟨w3, RepD.evo st3.evo _ _ g4, fun b f => f.elim⟩)
/-! methods of lists, with one argument -/
def mtName : Mt → Str
  | .index => "index"
def attOk : Expr → Bool
  | .Call _ [] [] _ => false
  | _ => true
theorem att_ok {o : Expr} {name : Str} {env : PySem.Env} (h : attOk o = true) : attributeBase o name env (eval o env) = eval o env := by
  unfold attributeBase
  cases o with
  | Call g es kw p =>
    cases g <;> cases es <;> cases kw <;> first | rfl | cases h
  | _ => rfl
def rMt (K : PySem.W.Frag) : Mt → V → List V → Hp → VK → Prop
  | .index => rIndexD K
theorem idxOf_some : ∀ {d : D} {xs : List D} {k n : Nat}, idxOf d xs k = some n → ∃ j z, n = k + j ∧ xs[j]? = some z ∧ PyData.eqv z d = true ∧ ∀ (m : Nat) (z' : D), m < j → xs[m]? = some z' → PyData.eqv z' d = false
  | d, [], k, n, h => by cases h
  | d, x :: xs, k, n, h => by
    simp only [idxOf] at h
    split at h
    · rename_i hx
      cases h
      exact ⟨0, x, rfl, rfl, hx, fun m z' hm => by omega⟩
    · rename_i hx
      obtain ⟨j, z, e, h1, h2, h3⟩ := idxOf_some h
      refine ⟨j + 1, z, by omega, by simpa using h1, h2, fun m z' hm hz => ?_⟩
      cases m with
      | zero => have : x = z' := by simpa using hz
                subst this; simpa using hx
      | succ m => exact h3 m z' (by omega) (by simpa using hz)
theorem se_mth {k : Nat} {m : Mt} {o e : Expr} {mo me : M} {apos cpos : Pos} (hr : Room k X.A) (ho : attOk o = true) (n : notStar e = true) (hline : (apos.endLine == cpos.line) = true) (h1 : SE X o mo) (h2 : SE X e me) :
    SE X (.Call (.Attribute o (mtName m) apos) [e] [] cpos) (mthM m mo me) := by
  have hu : X.A.units + 65 < cLine := by have := hr.un; omega
  have hfew : ((backTo cpos (starEach [e] X.env)).all (fun x => !x.1) && (backToKw cpos (keywordEach [] X.env)).all (fun x => x.1.isSome) && decide (([e] : List Expr).length + ([] : List Keyword).length + (if ([] : List Keyword).isEmpty then 0 else 1) < 30)) = true := by
    rw [star_of n]; rfl
  have pe : PE X (.Call (.Attribute o (mtName m) apos) [e] [] cpos) (tBM X.K "list" (rMt X.K m) (tO X.K mo.opd) (tCons (tO X.K me.opd) tNil)) := by
    cases m
    exact pe_bm PySem.F.plainAttrs_list PySem.F.slot_list_index PySem.F.type_list_index (mt_indexD hu) h1.opd (pa_cons h2.opd pa_nil (star_of n)) (att_ok ho) hfew hline (star_of n) rfl
  refine .ofVal rfl (pe.imp fun σ H Q q => ?_)
  obtain ⟨O, env, s, env', w, e, q⟩ := q
  simp only [Option.bind_eq_some_iff, Option.map_eq_some_iff] at e
  obtain ⟨⟨p, e1⟩, g1, x0, g2, e⟩ := e
  dsimp only at g2 e
  split at e
  case isFalse => cases e
  rename_i hl
  simp only [Option.bind_eq_some_iff, Option.map_eq_some_iff] at e
  obtain ⟨⟨p2, e2⟩, g3, x, g4, y, g5, res, g6, g7⟩ := e
  cases g7
  refine ⟨O, env, p, e1, w, g1, fun O1 H1 v st1 w1 rp1 => ⟨?_, O1, e1, p2, e2, w1, g3, fun O2 H2 v2 st2 w2 rp2 => ?_⟩⟩
  · have r := RepO.get w1 rp1 g2
    cases x0 with
    | list xs =>
      obtain ⟨a, us, rfl, h5, h6⟩ := r.list
      exact .inl ⟨rfl, us, SqL.of h5⟩
    | _ => cases hl
  · have rx := RepO.get w2 (RepO.evo st2.evo rp1) g4
    have ry := RepO.get w2 rp2 g5
    have q3 : RP X.K O2 H2 s Q := RP.end_ w2 fun O3 H3 v3 st3 wr => q O3 H3 v3 ((st1.trans st2 fun _ z => z).trans st3 fun _ z => z) wr
    cases m
    cases x with
    | list xs =>
      simp only [mthD] at g6
      split at g6
      case isFalse => cases g6
      rename_i hs
      simp only [Option.map_eq_some_iff] at g6
      obtain ⟨n, h7, h8⟩ := g6
      subst h8
      obtain ⟨j, z, e, i1, i2, i3⟩ := idxOf_some h7
      have ej : n = j := by omega
      subst ej
      obtain ⟨a, us, rfl, h5, h6⟩ := rx.list
      exact ⟨a, v2, y, xs, n, z, rfl, rfl, rx.dp, ry.dp, hs.1, hs.2, i1, i2, i3, q3.same w2.own (by simp only [RepD])⟩
    | _ => cases g6
end
end Mini

namespace Mini
open PySem PySem.Spec L2
/-! own functions -/
/-- what is told of the arguments behind a call: the box alone -/
def wb : En → En → En
  | .bx _ _ :: r, .bx cs rs :: _ => .bx cs rs :: r.map fun _ => .no
  | as, _ => as.map fun _ => .no
/-- the promise of function f: whatever P answers, the call answers -/
def spF (K : PySem.W.Frag) (P : Ph) (f : Nat) : Sp := fun vs H Q _ => ∃ O as r as', W K O H as (vs.map some) ∧ P f as = some (r, as') ∧
  ∀ O' H' v, Step O H (FpE H as (vs.map some)) O' H' (FpR H' (wb as as') (vs.map some) r v) → WR K O' H' (wb as as') (vs.map some) r v → Q v H'
section
variable {K : PySem.W.Frag} {O O' : Own} {H H' : Hp} {env : En} {σ : St}
theorem getSome {vs : List V} {i : Nat} : (vs.map some)[i]? = (vs[i]?).map some := List.getElem?_map
theorem rep_at {ds : List D} {vs : List V} (r : RepDs K O H ds vs) {i : Nat} {s : Sl} (e : (ds.map Sl.v)[i]? = some s) : ∃ d v, s = .v d ∧ vs[i]? = some v ∧ RepD K O H d v := by
  rw [List.getElem?_map] at e
  cases h : ds[i]? with
  | none => rw [h] at e; cases e
  | some d =>
    rw [h] at e; cases e
    obtain ⟨v, h1, h2⟩ := r.get h
    exact ⟨d, v, rfl, h1, h2⟩
/-- plain arguments stand -/
theorem W.ofArgs {ds : List D} {vs : List V} (own : OwnOk O H) (r : RepDs K O H ds vs) : W K O H (ds.map .v) (vs.map some) ∧ ∀ b, ¬ FpE H (ds.map .v) (vs.map some) b := by
  have no : ∀ (i : Nat) (s : Sl) (v : V) (b : Addr), (ds.map Sl.v)[i]? = some s → Fp H s v b → False := fun i s v b e f => by
    obtain ⟨d, u, rfl, _⟩ := rep_at r e
    exact f
  refine ⟨⟨own, by simp [r.length], fun i s e => ?_, fun i j s t v u b n e1 e2 e3 e4 f1 f2 => no i s v b e1 f1⟩, fun b ⟨i, s, v, e1, e2, f⟩ => no i s v b e1 f⟩
  obtain ⟨d, u, rfl, h1, h2⟩ := rep_at r e
  exact .inr ⟨u, by rw [getSome, h1]; rfl, h2⟩
theorem W.nos {as : En} (own : OwnOk O H) (l : as.length = σ.length) : W K O H (as.map fun _ => .no) σ ∧ ∀ b, ¬ FpE H (as.map fun _ => .no) σ b := by
  have no : ∀ (i : Nat) (s : Sl), (as.map fun _ => Sl.no)[i]? = some s → s = .no := fun i s e => by
    rw [List.getElem?_map] at e
    cases h : as[i]? with
    | none => rw [h] at e; cases e
    | some d => rw [h] at e; cases e; rfl
  refine ⟨⟨own, by simp [l], fun i s e => .inl (no i s e), fun i j s t v u b n e1 e2 e3 e4 f1 f2 => ?_⟩, fun b ⟨i, s, v, e1, e2, f⟩ => ?_⟩
  · rw [no i s e1] at f1; exact f1
  · rw [no i s e1] at f; exact f
theorem wb_plain {ds : List D} {as' : En} : wb (ds.map .v) as' = (ds.map Sl.v).map fun _ => .no := by
  cases ds <;> rfl
/-- a call without a box, as an operation -/
theorem call_plain {P : Ph} {f : Nat} {ds : List D} {vs : List V} {r : Sl} {as' : List Sl} {Q : VK} {E : XK} (own : OwnOk O H) (rd : RepDs K O H ds vs) (e : P f (ds.map .v) = some (r, as')) (q : RP K O H r Q) : spF K P f vs H Q E := by
  obtain ⟨w, nf⟩ := W.ofArgs own rd
  refine ⟨O, ds.map .v, r, as', w, e, fun O' H' v st wr => ?_⟩
  rw [wb_plain] at wr st
  exact q O' H' v ⟨st.evo, st.own, fun b e _ => st.keepO b e (nf b), fun b f => (st.fps b (.inr f)).elim (fun z => (nf b z).elim) .inr⟩ wr.val
end
section
variable {X : Cx} {P : Ph}
/-- a function of the program, callable -/
structure FnC (X : Cx) (P : Ph) (lev : Nat) (j : Nat) (x : Str) : Prop where
  ex : ∃ (f : Addr) (fd : FuncData) (ps : List Str), FnOk X.prog X.w X.K X.mg X.base CX0 lev f fd ps (spF X.K P j) ∧ X.mg x = some (.ref f) ∧ PySem.W.keepIn X.K (.ref f) = true ∧ Binds X.K fd ps []
theorem se_call {lev j : Nat} {x : Str} {e : Expr} {es : List Expr} {ms : List M} {p pos : Pos} (hr : Room lev X.A) (F : FnC X P lev j x) (hg : Gl X x) (hdb : (x == ("__debug__" : Str)) = false) (n : (e :: es).all notStar = true) (h : SEs X (e :: es) ms) : SE X (.Call (.Name x p) (e :: es) [] pos) (callM P j ms) := by
  obtain ⟨f, fd, ps, G, hm, hk, hb⟩ := F.ex
  have hs : starEach (e :: es) X.env = (false, eval e X.env) :: starEach es X.env := star_of (by simp only [List.all_cons, Bool.and_eq_true] at n; exact n.1)
  have hpl : (backTo pos (starEach es X.env)).any (·.1) = false := any_star (by simp only [List.all_cons, Bool.and_eq_true] at n; exact n.2)
  refine .ofVal rfl ((pe_call G hr hg hm hk hb .nil (pass0 (X := X)) (pa_args n h) hdb hs hpl).imp fun σ H Q q => ?_)
  obtain ⟨O, env, s, env', w, e, q⟩ := q
  simp only [Option.bind_eq_some_iff, Option.map_eq_some_iff, retOf] at e
  obtain ⟨⟨ds, e1⟩, h1, _, ⟨⟨r, as'⟩, h2, rfl⟩, h3⟩ := e
  cases h3
  refine ⟨O, env, ds, e1, w, h1, fun O1 H1 vs st1 w1 rd => ?_⟩
  show spF X.K P j (vs ++ []) H1 Q E0
  rw [List.append_nil]
  exact call_plain w1.own rd h2 (RP.end_ w1 fun O2 H2 v2 st2 wr => q O2 H2 v2 (st1.trans st2 fun _ z => z) wr)
/-- the script handed on -/
theorem se_callS {lev j i : Nat} {x n : Str} {p p2 pos : Pos} (hr : Room lev X.A) (F : FnC X P lev j x) (hg : Gl X x) (hdb : (x == ("__debug__" : Str)) = false) (hN : X.N[i]? = some n) (hv : Vis X.env.scope n) (hd : (n == ("__debug__" : Str)) = false) (hcd : (n == ("__classdict__" : Str)) = false) :
    SE X (.Call (.Name x p) [.Name n p2] [] pos) (callSM P j i) := by
  obtain ⟨f, fd, ps, G, hm, hk, hb⟩ := F.ex
  refine .ofVal rfl ((pe_call G hr hg hm hk hb .nil (pass0 (X := X)) (pa_cons (pe_slot hN hv hd hcd) pa_nil (star_of rfl)) hdb (star_of rfl) (any_star rfl)).imp fun σ H Q q => ?_)
  obtain ⟨O, env, s, env', w, e, q⟩ := q
  dsimp only at e
  split at e
  case h_2 => cases e
  rename_i ns g1
  simp only [Option.map_eq_some_iff, retOf] at e
  obtain ⟨_, ⟨⟨r, as'⟩, h2, rfl⟩, h3⟩ := e
  cases h3
  rcases w.rep i _ g1 with z | ⟨v, s1, rb⟩
  · cases z
  refine ⟨v, s1, ?_⟩
  show spF X.K P j ([v] ++ []) H Q E0
  have at0 : ∀ (k : Nat) (t : Sl), ([Sl.sc ns])[k]? = some t → k = 0 ∧ t = .sc ns := fun k t z => by
    cases k with
    | zero => exact ⟨rfl, by simpa using z.symm⟩
    | succ k => simp at z
  have wa : W X.K O H [.sc ns] ([v].map some) := by
    refine ⟨w.own, rfl, fun k t z => ?_, fun k l t t' v v' b ne e1 e2 e3 e4 f1 f2 => ?_⟩
    · obtain ⟨rfl, rfl⟩ := at0 k t z
      exact .inr ⟨v, rfl, rb⟩
    · obtain ⟨rfl, rfl⟩ := at0 k t e1
      exact f1
  have nf : ∀ b, ¬ FpE H [.sc ns] ([v].map some) b := fun b ⟨k, t, u, e1, e2, f⟩ => by
    obtain ⟨rfl, rfl⟩ := at0 k t e1
    exact f
  refine ⟨O, [.sc ns], r, as', wa, h2, fun O' H' v' st wr => ?_⟩
  have st' : Step O H F0 O' H' (fun b => Fp H' r v' b) := ⟨st.evo, st.own, fun b e _ => st.keepO b e (nf b), fun b f => (st.fps b (.inr f)).elim (fun z => (nf b z).elim) .inr⟩
  exact RP.end_ w (fun O2 H2 v2 st2 wr => q O2 H2 v2 st2 wr) O' H' v' st' wr.val
theorem isB_slot {K : PySem.W.Frag} {O : Own} {H : Hp} {env : En} {σ : St} {x : Nat} (w : W K O H env σ) (h : isB env[x]? = true) : ∃ v, σ[x]? = some (some v) := by
  cases e : env[x]? with
  | none => rw [e] at h; cases h
  | some s =>
    cases s with
    | bx cs rs =>
      rcases w.rep x _ e with z | ⟨v, h1, h2⟩
      · cases z
      · exact ⟨v, h1⟩
    | _ => rw [e] at h; cases h
theorem se_callB {lev j i : Nat} {x n : Str} {es : List Expr} {ms : List M} {p p2 pos : Pos} (hr : Room lev X.A) (F : FnC X P lev j x) (hg : Gl X x) (hdb : (x == ("__debug__" : Str)) = false) (hN : X.N[i]? = some n) (hv : Vis X.env.scope n) (hd : (n == ("__debug__" : Str)) = false) (hcd : (n == ("__classdict__" : Str)) = false)
    (ns : es.all notStar = true) (h : SEs X es ms) : SE X (.Call (.Name x p) (.Name n p2 :: es) [] pos) (callBM P j i ms) := by
  obtain ⟨f, fd, ps, G, hm, hk, hb⟩ := F.ex
  refine .ofVal rfl ((pe_call G hr hg hm hk hb .nil (pass0 (X := X)) (pa_cons (pe_slot hN hv hd hcd) (pa_args ns h) (star_of rfl)) hdb (star_of rfl) (any_star ns)).imp fun σ H Q q => ?_)
  obtain ⟨O, env, s, env', w, e, q⟩ := q
  dsimp only at e
  split at e
  case isFalse => cases e
  rename_i hB
  simp only [Option.bind_eq_some_iff] at e
  obtain ⟨⟨ds, e1⟩, h1, e⟩ := e
  split at e
  case h_2 => cases e
  rename_i cs rs g1
  simp only [Option.bind_eq_some_iff, retB] at e
  obtain ⟨⟨r, bb⟩, ⟨⟨r', as'⟩, h2, h2'⟩, e⟩ := e
  dsimp only at h2'
  split at h2'
  case h_2 => cases h2'
  rename_i b0 rest g3
  cases h2'
  dsimp only at e
  split at e
  case h_2 => cases e
  rename_i cs2 rs2
  cases e
  obtain ⟨vb, sb⟩ := isB_slot w hB
  refine ⟨vb, sb, O, env, ds, e1, w, h1, fun O1 H1 vs st1 w1 rd => ?_⟩
  show spF X.K P j (vb :: vs ++ []) H1 Q E0
  rw [List.append_nil]
  rcases w1.rep i _ g1 with z | ⟨u, s1, rb⟩
  · cases z
  rw [sb] at s1; cases s1
  -- the arguments
  have at0 : ∀ (k : Nat) (t : Sl), (Sl.bx cs rs :: ds.map Sl.v)[k]? = some t → (k = 0 ∧ t = .bx cs rs) ∨ ∃ k', k = k' + 1 ∧ (ds.map Sl.v)[k']? = some t := fun k t z => by
    cases k with
    | zero => exact .inl ⟨rfl, by simpa using z.symm⟩
    | succ k => exact .inr ⟨k, rfl, by simpa using z⟩
  have nov : ∀ (k : Nat) (t : Sl) (v : V) (b : Addr), (ds.map Sl.v)[k]? = some t → Fp H1 t v b → False := fun k t v b z f => by
    obtain ⟨d, u, rfl, _⟩ := rep_at rd z
    exact f
  have wa : W X.K O1 H1 (.bx cs rs :: ds.map .v) ((vb :: vs).map some) := by
    refine ⟨w1.own, by simp [rd.length], fun k t z => ?_, fun k l t t' v v' b ne e1 e2 e3 e4 f1 f2 => ?_⟩
    · rcases at0 k t z with ⟨rfl, rfl⟩ | ⟨k', rfl, z⟩
      · exact .inr ⟨vb, rfl, rb⟩
      · obtain ⟨d, u, rfl, g3, g4⟩ := rep_at rd z
        exact .inr ⟨u, by simp [g3], g4⟩
    · rcases at0 k t e1 with ⟨rfl, rfl⟩ | ⟨k', rfl, z⟩
      · rcases at0 l t' e2 with ⟨rfl, rfl⟩ | ⟨l', rfl, z⟩
        · exact ne rfl
        · exact nov l' t' v' b z f2
      · exact nov k' t v b z f1
  have fpa : ∀ b, FpE H1 (.bx cs rs :: ds.map .v) ((vb :: vs).map some) b → Fp H1 (.bx cs rs) vb b := fun b ⟨k, t, v, e1, e2, f⟩ => by
    rcases at0 k t e1 with ⟨rfl, rfl⟩ | ⟨k', rfl, z⟩
    · simp at e2; subst e2; exact f
    · exact (nov k' t v b z f).elim
  refine ⟨O1, _, s, _, wa, h2, fun O2 H2 v2 st2 wr => ?_⟩
  have ewb : wb (.bx cs rs :: ds.map .v) (.bx cs2 rs2 :: g3) = .bx cs2 rs2 :: (ds.map Sl.v).map fun _ => .no := rfl
  rw [ewb] at wr st2
  have rb2 : RepS X.K O2 H2 (.bx cs2 rs2) vb := by
    rcases wr.w.rep 0 (.bx cs2 rs2) rfl with z | ⟨u, g3, g4⟩
    · cases z
    · simp at g3; subst g3; exact g4
  have fb2 : ∀ b, Fp H2 (.bx cs2 rs2) vb b → FpE H2 (.bx cs2 rs2 :: (ds.map Sl.v).map fun _ => .no) ((vb :: vs).map some) b := fun b f => ⟨0, .bx cs2 rs2, vb, rfl, rfl, f⟩
  have stb : Step O1 H1 (Fp H1 (.bx cs rs) vb) O2 H2 (Fp H2 (.bx cs2 rs2) vb) := ⟨st2.evo, st2.own, fun b o nf => st2.keepO b o fun z => nf (fpa b z), fun b f => (st2.fps b (.inl (fb2 b f))).imp (fpa b) id⟩
  obtain ⟨w3, st3⟩ := w1.put stb g1 sb rb2
  have sepR : ∀ b, Fp H2 s v2 b → ¬ FpE H2 (e1.set i (.bx cs2 rs2)) σ b := fun b f ⟨k, t, u, e1', e2, f2⟩ => by
    by_cases hk : k = i
    · subst hk
      have e1'' : t = .bx cs2 rs2 := by
        rw [List.getElem?_set_self (w1.lt g1).1] at e1'; exact (Option.some.inj e1').symm
      subst e1''
      rw [sb] at e2; cases e2
      exact wr.sep b f (fb2 b f2)
    · rw [List.getElem?_set_ne (Ne.symm hk)] at e1'
      -- another slot: kept
      rcases w1.rep k t e1' with rfl | ⟨u', q1, q2⟩
      · exact f2
      · rw [e2] at q1; cases q1
        obtain ⟨_, kf⟩ := RepS.keep stb q2 fun b' f' g' => w1.sep k i t (.bx cs rs) u vb b' hk e1' g1 e2 sb f' g'
        have f3 := kf b f2
        rcases st2.fps b (.inr f) with z | z
        · exact w1.sep k i t (.bx cs rs) u vb b hk e1' g1 e2 sb f3 (fpa b z)
        · obtain ⟨xs, qq⟩ := w1.own b (Fp.own q2 f3)
          rw [z] at qq; cases qq
  refine q O2 H2 v2 ⟨(st1.trans st3 fun _ z => z).evo, st2.own, (st1.trans st3 fun _ z => z).keepO, fun b f => ?_⟩ ⟨w3, wr.val, sepR⟩
  rcases f with f | f
  · exact (st1.trans st3 fun _ z => z).fps b f
  · rcases st2.fps b (.inr f) with z | z
    · have := st1.fps b ⟨i, .bx cs rs, vb, g1, sb, fpa b z⟩
      exact this
    · refine .inr ?_
      cases qq : H b with
      | none => rfl
      | some u => exact absurd z (st1.evo.there b (by rw [qq]; exact Option.some_ne_none _))
end
end Mini

namespace Mini
open PySem PySem.Spec L2
/-! the text and the evaluator's terms, side by side -/
structure Ck where
  fn : List Str
  gl : List (Str × D)
  N : List Str
def visB (sc : Scope) (x : Str) : Bool := match sc.names.lookup x with
  | some .local => true
  | some .cell => true
  | some .free => true
  | _ => false
def glB (sc : Scope) (x : Str) : Bool := decide (sc.names.lookup x = some .globalImplicit)
def okN (x : Str) : Bool := !(x == ("__debug__" : Str)) && !(x == ("__classdict__" : Str))
mutual
def deq : D → D → Bool
  | .none, .none => true
  | .bool a, .bool b => a == b
  | .int a, .int b => a == b
  | .str a, .str b => decide (a = b)
  | .tuple xs, .tuple ys => deqs xs ys
  | .list xs, .list ys => deqs xs ys
  | _, _ => false
def deqs : List D → List D → Bool
  | [], [] => true
  | x :: xs, y :: ys => deq x y && deqs xs ys
  | _, _ => false
end
mutual
theorem deq_eq : ∀ {a b : D}, deq a b = true → a = b
  | .none, b, h => by cases b <;> first | rfl | (simp [deq] at h)
  | .bool x, b, h => by cases b <;> simp_all [deq]
  | .int x, b, h => by cases b <;> simp_all [deq]
  | .str x, b, h => by cases b <;> simp_all [deq]
  | .tuple xs, b, h => by
    cases b with
    | tuple ys => rw [deqs_eq (show deqs xs ys = true by simpa only [deq] using h)]
    | _ => simp [deq] at h
  | .list xs, b, h => by
    cases b with
    | list ys => rw [deqs_eq (show deqs xs ys = true by simpa only [deq] using h)]
    | _ => simp [deq] at h
  | .dict xs, b, h => by cases b <;> simp [deq] at h
theorem deqs_eq : ∀ {a b : List D}, deqs a b = true → a = b
  | [], b, h => by cases b <;> first | rfl | (simp [deqs] at h)
  | x :: xs, b, h => by
    cases b with
    | nil => simp [deqs] at h
    | cons y ys =>
      simp only [deqs, Bool.and_eq_true] at h
      rw [deq_eq h.1, deqs_eq h.2]
end
def notSet : Expr → Bool
  | .Set _ _ _ => false
  | _ => true
def isTuple : Expr → Bool
  | .Tuple _ _ _ => true
  | _ => false
def nmTup : Expr → Bool
  | .Name _ _ => true
  | .Tuple _ _ _ => true
  | _ => false
/-- the walked operands of a loop's iterable -/
def itArgs (sc : Scope) : IK → Bool → Expr → Option (List Expr)
  | .seq, _, e => if notSet e && notStar e && PlainT e then some [e] else none
  | .rng, _, .Call (.Name x _) args [] _ => if decide (x = "range") && glB sc x && args.all notStar && args.all PlainT && (args.length == 1 || args.length == 2) then some args else none
  | .enum, true, .Call (.Name x _) args [] _ => if decide (x = "enumerate") && glB sc x && args.all notStar && args.all PlainT && args.length == 1 then some args else none
  | .zip, true, .Call (.Name x _) args [] _ => if decide (x = "zip") && glB sc x && args.all notStar && args.all PlainT && args.length == 2 then some args else none
  | .rev, _, .Call (.Name x _) args [] _ => if decide (x = "reversed") && glB sc x && args.all notStar && args.all PlainT && args.length == 1 then some args else none
  | _, _, _ => none
def locB (raw : Scope) (x : Str) : Bool := match raw.names.lookup x with
  | some .local => true
  | some .cell => true
  | _ => false
mutual
def cT (N : List Str) (raw : Scope) : T → Expr → Bool
  | .nm i, .Name x _ => decide (N[i]? = some x) && locB raw x
  | .tp ts, .Tuple es _ _ => cTs N raw ts es
  | _, _ => false
def cTs (N : List Str) (raw : Scope) : List T → List Expr → Bool
  | [], [] => true
  | t :: ts, e :: es => cT N raw t e && cTs N raw ts es
  | _, _ => false
end
def ownP (N : List Str) (own : List Nat) : List (Str × Nat) := own.map fun i => ((N[i]?).getD "", i)
theorem ownP_snd (N : List Str) (own : List Nat) : (ownP N own).map (·.2) = own := by
  unfold ownP; rw [List.map_map]; exact List.map_id _
def cstB : Const → D → Bool
  | .none, .none => true
  | .bool a, .bool b => a == b
  | .int a, .int b => a == b
  | .str a, .str b => decide (a = b)
  | _, _ => false
theorem cstB_eq {c : Const} {d : D} (h : cstB c d = true) : cstD c = some d := by
  cases c <;> cases d <;> simp_all [cstB, cstD]
mutual
def cE (k : Ck) (sc : Scope) : E → Expr → Bool
  | .var i, .Name x _ => decide (k.N[i]? = some x) && visB sc x && okN x
  | .cst d, .Constant c _ _ => cstB c d
  | .cst d, .Name x _ => glB sc x && okN x && (match k.gl.lookup x with | some d' => deq d d' | none => false)
  | .bin op a b, .BinOp ea op' eb _ => decide (op = op') && cE k sc a ea && cE k sc b eb
  | .neg a, .UnaryOp .USub ea _ => cE k sc a ea
  | .not a, .UnaryOp .Not ea _ => cE k sc a ea
  | .cmp op a b, .Compare ea [op'] [eb] _ => decide (op = op') && notSet eb && cE k sc a ea && cE k sc b eb
  | .chn o1 o2 a b c, .Compare ea [p1, p2] [eb, ec] _ => decide (o1 = p1) && decide (o2 = p2) && notSet eb && notSet ec && cE k sc a ea && cE k sc b eb && cE k sc c ec
  | .isn ng a, .Compare ea [op] [.Constant .none _ _] _ => decide (op = if ng then .IsNot else .Is) && cE k sc a ea
  | .bop o es, .BoolOp o' ees _ => decide (o = o') && !ees.isEmpty && cEs k sc es ees
  | .ite c a b, .IfExp ec ea eb _ => cE k sc c ec && cE k sc a ea && cE k sc b eb
  | .tup es, .Tuple ees _ _ => ees.all notStar && cEs k sc es ees
  | .lst es, .List ees _ => ees.all notStar && cEs k sc es ees
  | .idx a i, .Subscript ea ei _ => plainIx ei && cE k sc a ea && cE k sc i ei
  | .slc a lo hi, .Subscript ea (.Slice elo ehi none _) _ => cE k sc a ea && cO k sc lo elo && cO k sc hi ehi
  | .call f es, .Call (.Name x _) ees [] _ => decide (k.fn[f]? = some x) && glB sc x && okN x && !ees.isEmpty && ees.all notStar && cEs k sc es ees
  | .callB f i es, .Call (.Name x _) (.Name n _ :: ees) [] _ => decide (k.fn[f]? = some x) && glB sc x && okN x && decide (k.N[i]? = some n) && visB sc n && okN n && ees.all notStar && cEs k sc es ees
  | .callS f i, .Call (.Name x _) [.Name n _] [] _ => decide (k.fn[f]? = some x) && glB sc x && okN x && decide (k.N[i]? = some n) && visB sc n && okN n
  | .blt b es, .Call (.Name x _) ees [] _ => decide (x = blName b) && glB sc x && !ees.isEmpty && ees.all notStar && cEs k sc es ees
  | .isi a t, .Call (.Name x _) [ea, .Name y _] [] _ => decide (x = "isinstance") && decide (y = (tyName t : Str)) && glB sc x && glB sc y && notStar ea && cE k sc a ea
  | .lc t kk its cond elt own, .ListComp eelt [g] scope _ => decide (g.is_async = 0) && blkC k.N sc scope (ownP k.N own) && cT k.N scope t g.target && t.slots.all (own.contains ·) && (match itArgs sc kk (isTuple g.target) g.iter with | some args => cEs k sc its args | none => false)
      && decide (g.ifs.length ≤ 1) && cEs k (relS scope sc) cond g.ifs && cE k (relS scope sc) elt eelt
  | .pop i, .Call (.Attribute (.Name n _) at_ apos) [] [] cpos => decide (at_ = "pop") && decide (k.N[i]? = some n) && visB sc n && okN n && (apos.endLine == cpos.line)
  | .mth m a e, .Call (.Attribute ea at_ apos) [ee] [] cpos => decide (at_ = mtName m) && attOk ea && notStar ee && (apos.endLine == cpos.line) && cE k sc a ea && cE k sc e ee
  | _, _ => false
def cEs (k : Ck) (sc : Scope) : List E → List Expr → Bool
  | [], [] => true
  | m :: ms, e :: es => cE k sc m e && cEs k sc ms es
  | _, _ => false
def cO (k : Ck) (sc : Scope) : List E → Option Expr → Bool
  | [], none => true
  | [m], some e => cE k sc m e
  | _, _ => false
end
/-- the context of the code -/
structure CtxOk (k : Ck) (sc raw : Scope) (P : Ph) (lev : Nat) (X : Cx) : Prop where
  hN : X.N = k.N
  nd : X.N.Nodup
  sc : X.env.scope = sc
  calm : X.calm = true
  room : Room lev X.A
  xe : X.xe = fun _ _ => False
  fns : ∀ (j : Nat) (x : Str), k.fn[j]? = some x → FnC X P lev j x
  gls : ∀ (x : Str) (d : D), k.gl.lookup x = some d → GlOk X x d
  bls : ∀ b : Bl, X.mg (blName b) = none
  tys : ∀ t : Ty, X.mg (tyName t : Str) = none
  isi : X.mg "isinstance" = none
  its : X.mg "range" = none ∧ X.mg "enumerate" = none ∧ X.mg "zip" = none ∧ X.mg "reversed" = none
  asg : ∀ x, locB raw x = true → Loc X.env.scope x ∧ (X.fn x = true ∨ X.env.scope.names.lookup x = some .local)
section
variable {k : Ck} {sc raw : Scope} {P : Ph} {lev : Nat} {X : Cx}
theorem vis_of (c : CtxOk k sc raw P lev X) {x : Str} (h : visB sc x = true) : Vis X.env.scope x := by
  rw [c.sc]
  unfold visB at h
  split at h
  · rename_i e; exact .inl e
  · rename_i e; exact .inr (.inl e)
  · rename_i e; exact .inr (.inr e)
  · cases h
theorem gl_of (c : CtxOk k sc raw P lev X) {x : Str} (h : glB sc x = true) : Gl X x := by
  show X.env.scope.names.lookup x = some .globalImplicit
  rw [c.sc]; exact of_decide_eq_true h
theorem okN_of {x : Str} (h : okN x = true) : (x == ("__debug__" : Str)) = false ∧ (x == ("__classdict__" : Str)) = false := by
  unfold okN at h
  simpa using h
/-- targets -/
theorem starA {e : Expr} {es : List Expr} {env : PySem.Env} (h : nmTup e = true) : assignEach (e :: es) env = (false, assign e env) :: assignEach es env := by
  cases e <;> first | rfl | cases h
theorem cT_form {N : List Str} {t : T} {e : Expr} (h : cT N raw t e = true) : nmTup e = true := by
  cases t <;> cases e <;> first | rfl | (simp [cT] at h)
mutual
theorem sT (c : CtxOk k sc raw P lev X) : ∀ (t : T) (e : Expr), cT k.N raw t e = true → PG X e (gT X.K t)
  | .nm i, e, h => by
    cases e with
    | Name x p =>
      simp only [cT, Bool.and_eq_true, decide_eq_true_eq] at h
      obtain ⟨h1, h2⟩ := c.asg x h.2
      exact pg_nm c.nd (by rw [c.hN]; exact h.1) h1 h2
    | _ => simp [cT] at h
  | .tp ts, e, h => by
    cases e with
    | Tuple es kk p =>
      have h' : cTs k.N raw ts es = true := by simpa only [cT] using h
      have key : ∀ (ts : List T) (es : List Expr), cTs k.N raw ts es = true → (assignEach es X.env).length = ts.length ∧ (assignEach es X.env).findIdx? (·.1) = none := by
        intro ts
        induction ts with
        | nil => intro es h; cases es with
          | nil => exact ⟨rfl, rfl⟩
          | cons _ _ => simp [cTs] at h
        | cons t ts ih => intro es h; cases es with
          | nil => simp [cTs] at h
          | cons e es =>
            simp only [cTs, Bool.and_eq_true] at h
            obtain ⟨h1, h2⟩ := ih es h.2
            rw [starA (cT_form h.1)]
            exact ⟨by simp [h1], by simp [List.findIdx?_cons, h2]⟩
      obtain ⟨k1, k2⟩ := key ts es h'
      exact pg_tp c.calm (sTs c ts es h') rfl k1 k2
    | _ => simp [cT] at h
theorem sTs (c : CtxOk k sc raw P lev X) : ∀ (ts : List T) (es : List Expr), cTs k.N raw ts es = true → PGs X es (gTs X.K ts)
  | [], es, h => by
    cases es with
    | nil => exact pgs_nilT
    | cons _ _ => simp [cTs] at h
  | t :: ts, es, h => by
    cases es with
    | nil => simp [cTs] at h
    | cons e es =>
      simp only [cTs, Bool.and_eq_true] at h
      exact pgs_consT (sT c t e h.1) (sTs c ts es h.2) (by rw [starA (cT_form h.1)]; rfl)
end
/-- a comprehension's block -/
theorem CtxOk.blk (c : CtxOk k sc raw P lev X) {scope : Scope} (own : List (Str × Nat)) (b : blkC k.N sc scope own = true) (s : Shared) (H : Hp) (C : Addr) (cl : List (Str × Addr)) (fp : List Addr) : CtxOk k (relS scope sc) scope P lev (X.blk s H scope (compEnvC scope cl C X.env) fp) where
  hN := c.hN
  nd := c.nd
  sc := by show relS scope X.env.scope = _; rw [c.sc]
  calm := c.calm
  room := c.room
  xe := rfl
  fns := fun j x h => ⟨(c.fns j x h).ex⟩
  gls := c.gls
  bls := c.bls
  tys := c.tys
  isi := c.isi
  its := c.its
  asg := fun x h => by
    unfold locB at h
    split at h
    · rename_i e
      have q : (relS scope X.env.scope).names.lookup x = some .local := lookup_relS_keep (by decide) e
      exact ⟨.inl q, .inr q⟩
    · rename_i e
      have q : (relS scope X.env.scope).names.lookup x = some .cell := lookup_relS_keep (by decide) e
      exact ⟨.inr q, .inl (by show (scope.names.lookup x == some .cell) = true; rw [e]; rfl)⟩
    · cases h
theorem notSet_mark {e : Expr} {op : CmpOp} (h : notSet e = true) : behindInMarks op e = false := by
  cases e <;> first | rfl | cases h
theorem fold_of {e : Expr} {env : PySem.Env} (h : notSet e = true) (x : Value) : foldedSetIterable e env x = pure x := by
  cases e <;> first | rfl | cases h
theorem plainIx_of {e : Expr} (h : plainIx e = true) : PlainIx e := fun o i => by
  cases e <;> first | rfl | cases h
/-- the walked thing -/
theorem sI (c : CtxOk k sc raw P lev X) {kk : IK} {tg iter : Expr} {args : List Expr} {ms : List M} (h : itArgs sc kk (isTuple tg) iter = some args) (hs : SEs X args ms) : PI X tg iter (tI X.K kk (opsM ms)) ∧ ∀ x, foldedSetIterable iter X.env x = pure x := by
  obtain ⟨m1, m2, m3, m4⟩ := c.its
  have call : ∀ (x : Str) (p : Pos) (as : List Expr) (pos : Pos) (v : Value), foldedSetIterable (.Call (.Name x p) as [] pos) X.env v = pure v := fun _ _ _ _ _ => rfl
  cases kk with
  | seq =>
    simp only [itArgs] at h
    split at h
    · rename_i hc
      simp only [Bool.and_eq_true] at hc
      cases h
      cases hs with
      | cons h1 h2 =>
        cases h2
        exact ⟨pi_seq h1, fold_of hc.1.1⟩
    · cases h
  | rng =>
    cases iter with
    | Call f as kw pos =>
      cases f with
      | Name x p =>
        cases kw with
        | nil =>
          simp only [itArgs] at h
          split at h
          · rename_i hc
            simp only [Bool.and_eq_true, decide_eq_true_eq] at hc
            obtain ⟨⟨⟨⟨rfl, hg⟩, hn⟩, hp⟩, hl⟩ := hc
            cases h
            refine ⟨?_, call _ _ _ _⟩
            cases hs with
            | nil => simp at hl
            | cons h1 h2 =>
              simp only [List.all_cons, Bool.and_eq_true] at hn
              cases h2 with
              | nil => exact pi_rng1 (gl_of c hg) m1 hn.1 h1
              | cons h3 h4 =>
                simp only [List.all_cons, Bool.and_eq_true] at hn
                cases h4 with
                | nil => exact pi_rng2 (gl_of c hg) m1 hn.1 hn.2.1 h1 h3
                | cons _ _ => simp at hl
          · cases h
        | cons _ _ => simp [itArgs] at h
      | _ => simp [itArgs] at h
    | _ => simp [itArgs] at h
  | enum =>
    cases tg with
    | Tuple elts k2 tpos =>
      cases iter with
      | Call f as kw pos =>
        cases f with
        | Name x p =>
          cases kw with
          | nil =>
            simp only [itArgs, isTuple] at h
            split at h
            · rename_i hc
              simp only [Bool.and_eq_true, decide_eq_true_eq] at hc
              obtain ⟨⟨⟨⟨rfl, hg⟩, hn⟩, hp⟩, hl⟩ := hc
              cases h
              refine ⟨?_, call _ _ _ _⟩
              cases hs with
              | nil => simp at hl
              | cons h1 h2 =>
                simp only [List.all_cons, Bool.and_eq_true] at hn
                cases h2 with
                | nil => exact pi_enumL (gl_of c hg) m2 hn.1 h1
                | cons _ _ => simp at hl
            · cases h
          | cons _ _ => simp [itArgs, isTuple] at h
        | _ => simp [itArgs, isTuple] at h
      | _ => simp [itArgs, isTuple] at h
    | _ => cases iter <;> simp [itArgs, isTuple] at h
  | zip =>
    cases tg with
    | Tuple elts k2 tpos =>
      cases iter with
      | Call f as kw pos =>
        cases f with
        | Name x p =>
          cases kw with
          | nil =>
            simp only [itArgs, isTuple] at h
            split at h
            · rename_i hc
              simp only [Bool.and_eq_true, decide_eq_true_eq] at hc
              obtain ⟨⟨⟨⟨rfl, hg⟩, hn⟩, hp⟩, hl⟩ := hc
              cases h
              refine ⟨?_, call _ _ _ _⟩
              cases hs with
              | nil => simp at hl
              | cons h1 h2 =>
                cases h2 with
                | nil => simp at hl
                | cons h3 h4 =>
                  simp only [List.all_cons, Bool.and_eq_true] at hn
                  cases h4 with
                  | nil => exact pi_zipD (gl_of c hg) m3 hn.1 hn.2.1 h1 h3
                  | cons _ _ => simp at hl
            · cases h
          | cons _ _ => simp [itArgs, isTuple] at h
        | _ => simp [itArgs, isTuple] at h
      | _ => simp [itArgs, isTuple] at h
    | _ => cases iter <;> simp [itArgs, isTuple] at h
  | rev =>
    cases iter with
    | Call f as kw pos =>
      cases f with
      | Name x p =>
        cases kw with
        | nil =>
          simp only [itArgs] at h
          split at h
          · rename_i hc
            simp only [Bool.and_eq_true, decide_eq_true_eq] at hc
            obtain ⟨⟨⟨⟨rfl, hg⟩, hn⟩, hp⟩, hl⟩ := hc
            cases h
            refine ⟨?_, call _ _ _ _⟩
            cases hs with
            | nil => simp at hl
            | cons h1 h2 =>
              simp only [List.all_cons, Bool.and_eq_true] at hn
              cases h2 with
              | nil => exact pi_rev1 (gl_of c hg) m4 hn.1 h1
              | cons _ _ => simp at hl
          · cases h
        | cons _ _ => simp [itArgs] at h
      | _ => simp [itArgs] at h
    | _ => simp [itArgs] at h
theorem itArgs_plain {kk : IK} {b : Bool} {iter : Expr} {args : List Expr} (h : itArgs sc kk b iter = some args) : args.all PlainT = true := by
  unfold itArgs at h
  split at h
  · split at h
    · rename_i hc
      simp only [Bool.and_eq_true] at hc
      cases h; simp [hc.2]
    · cases h
  all_goals first
    | (split at h
       · rename_i hc
         simp only [Bool.and_eq_true] at hc
         cases h
         first | exact hc.1.2 | exact hc.2
       · cases h)
    | cases h
theorem se_chn2 {k : Nat} (hr : Room k X.A) {a b c : Expr} {ma mb mc : M} {pos : Pos} {o1 o2 : CmpOp} (ha : SE X a ma) (hb : SE X b mb) (hc : SE X c mc) (nb : notSet b = true) (nc : notSet c = true) : SE X (.Compare a [o1, o2] [b, c] pos) (chnM o1 o2 ma mb mc) := by
  have hm : lastMarks [o1, o2] [b, c] = false := by
    show behindInMarks o2 c = false
    exact notSet_mark nc
  exact se_chn hr ha hb hc (pe_chain (or_cmp hr o1) (or_cmp hr o2) ha.opd hb.opd hc.opd hm) (pt_chain (or_cmp hr o1) (or_cmp hr o2) ha.opd hb.opd hc.opd hm)
end
end Mini

namespace Mini
open PySem PySem.Spec L2
section
variable {k : Ck} {P : Ph} {lev : Nat}
theorem pts_cond {X : Cx} : ∀ {ifs : List Expr} {ms : List M}, ifs.length ≤ 1 → SEs X ifs ms → PTs X ifs (tT X.K (condM ms))
  | [], _, _, .nil => ⟨fun pins s σ H Q I q => pts_nil.run pins s σ H Q I (by
      obtain ⟨O, env, b, env', w, e, q⟩ := q
      cases e
      exact q O H (Step.refl w.own) w)⟩
  | [e], _, _, .cons h .nil => pts_one h.tst
  | _ :: _ :: _, _, l, _ => by simp at l
/-- the parts of a comprehension -/
theorem lc_parts {X : Cx} {sc raw : Scope} {t : T} {kk : IK} {its cond : List E} {elt : E} {own : List Nat} {eelt tg iter : Expr} {ifs : List Expr} {scope : Scope} {pos : Pos} (c : CtxOk k sc raw P lev X) (hb : blkC k.N sc scope (ownP k.N own) = true)
    (ht : cT k.N scope t tg = true) (hsl : t.slots.all (own.contains ·) = true) {args : List Expr} (ha : itArgs sc kk (isTuple tg) iter = some args) (hl : ifs.length ≤ 1) (h1 : SEs X args (evs P its))
    (h2 : ∀ (s : Shared) (H : Hp) (C : Addr) (cl : List (Str × Addr)) (fp : List Addr), SEs (X.blk s H scope (compEnvC scope cl C X.env) fp) ifs (evs P cond)) (h3 : ∀ (s : Shared) (H : Hp) (C : Addr) (cl : List (Str × Addr)) (fp : List Addr), SE (X.blk s H scope (compEnvC scope cl C X.env) fp) eelt (ev P elt)) :
    (PE X (.ListComp eelt [⟨tg, iter, ifs, 0⟩] scope pos) (tE X.K (ev P (.lc t kk its cond elt own)).val)) ∧
    (∀ {i : Nat} {y : Str} {py spos : Pos} {fz : List Nat}, i ∉ fz → X.N[i]? = some y → X.env.scope.names.lookup y = some .local → swapsWith (.ListComp eelt [⟨tg, iter, ifs, 0⟩] scope pos) (some (.Name y py)) spos.line X.env = pure true →
      SS X fz (.Assign [.Name y py] (.ListComp eelt [⟨tg, iter, ifs, 0⟩] scope pos) spos) (asgO i (ev P (.lc t kk its cond elt own)).val)) := by
  have sl : ∀ i ∈ t.slots, i ∈ own := fun i hi => by
    have := List.all_eq_true.mp hsl i hi
    simpa using this
  obtain ⟨pi, fold⟩ := sI c ha h1
  have ok : BlkOk X.N X.env.scope scope (ownP k.N own) := by
    rw [c.hN, c.sc]; exact blkOk_by hb
  have hown := ownP_snd k.N own
  constructor
  · have pe := pe_lc (pos := pos) (te := tD X.K (frzM (ev P elt).val)) (tt := tT X.K (condM (evs P cond))) (g := gT X.K t) c.calm c.nd (PI.line pi) ok (fun s H C cl fp => sT (c.blk _ hb s H C cl fp) t tg ht) (fun s H C cl fp => pts_cond hl (h2 s H C cl fp)) (fun s H C cl fp => (h3 s H C cl fp).d) fold
    rw [hown] at pe
    exact pe.imp fun σ H Q q => te_lc sl (by simpa only [ev] using q)
  · intro i y py spos fz hz hi hy hsw
    have ps := ps_setLc (i := i) (pos := pos) (te := tD X.K (frzM (ev P elt).val)) (tt := tT X.K (condM (evs P cond))) (g := gT X.K t) c.calm c.nd hi hy hsw (PI.line pi) ok (fun s H C cl fp => sT (c.blk _ hb s H C cl fp) t tg ht) (fun s H C cl fp => pts_cond hl (h2 s H C cl fp)) (fun s H C cl fp => (h3 s H C cl fp).d) fold
    rw [hown] at ps
    exact ⟨ps.imp fun D σ H q => te_lc sl (by simpa only [ev] using asg_end hz q)⟩
set_option maxHeartbeats 4000000 in
mutual
/-- THE EXPRESSIONS -/
theorem sE : ∀ (m : E) (e : Expr) (X : Cx) (sc raw : Scope), CtxOk k sc raw P lev X → cE k sc m e = true → SE X e (ev P m)
  | .var i, e, X, sc, raw, c, h => by
    cases e with
    | Name x p =>
      simp only [cE, Bool.and_eq_true, decide_eq_true_eq] at h
      obtain ⟨n1, n2⟩ := okN_of h.2
      simp only [ev]
      exact se_var (by rw [c.hN]; exact h.1.1) (vis_of c h.1.2) n1 n2
    | _ => simp [cE] at h
  | .cst d, e, X, sc, raw, c, h => by
    cases e with
    | Constant v kk p =>
      simp only [cE] at h
      simp only [ev]
      exact se_cst (cstB_eq h)
    | Name x p =>
      simp only [cE, Bool.and_eq_true] at h
      obtain ⟨n1, n2⟩ := okN_of h.1.2
      obtain ⟨⟨h1, _⟩, h2⟩ := h
      split at h2
      · rename_i d' hd
        have e := deq_eq h2
        subst e
        simp only [ev]
        exact se_glob (gl_of c h1) (c.gls x d hd) n1
      · cases h2
    | _ => simp [cE] at h
  | .bin op a b, e, X, sc, raw, c, h => by
    cases e with
    | BinOp ea op' eb p =>
      simp only [cE, Bool.and_eq_true, decide_eq_true_eq] at h
      obtain ⟨⟨rfl, h1⟩, h2⟩ := h
      simp only [ev]
      exact se_bin (sE a ea X sc raw c h1) (sE b eb X sc raw c h2)
    | _ => simp [cE] at h
  | .neg a, e, X, sc, raw, c, h => by
    cases e with
    | UnaryOp op ea p =>
      cases op with
      | USub =>
        simp only [cE] at h
        simp only [ev]
        exact se_neg (sE a ea X sc raw c h)
      | _ => simp [cE] at h
    | _ => simp [cE] at h
  | .not a, e, X, sc, raw, c, h => by
    cases e with
    | UnaryOp op ea p =>
      cases op with
      | Not =>
        simp only [cE] at h
        simp only [ev]
        exact se_not (sE a ea X sc raw c h)
      | _ => simp [cE] at h
    | _ => simp [cE] at h
  | .cmp op a b, e, X, sc, raw, c, h => by
    cases e with
    | Compare ea ops es p =>
      match ops, es, h with
      | [op'], [eb], h =>
        simp only [cE, Bool.and_eq_true, decide_eq_true_eq] at h
        obtain ⟨⟨⟨rfl, hn⟩, h1⟩, h2⟩ := h
        simp only [ev]
        exact se_cmp c.room (sE a ea X sc raw c h1) (sE b eb X sc raw c h2) (notSet_mark hn)
      | [], _, h => simp [cE] at h
      | _ :: _ :: _, _, h => simp [cE] at h
      | [_], [], h => simp [cE] at h
      | [_], _ :: _ :: _, h => simp [cE] at h
    | _ => simp [cE] at h
  | .chn o1 o2 a b d, e, X, sc, raw, c, h => by
    cases e with
    | Compare ea ops es p =>
      match ops, es, h with
      | [p1, p2], [eb, ec], h =>
        simp only [cE, Bool.and_eq_true, decide_eq_true_eq] at h
        obtain ⟨⟨⟨⟨⟨⟨rfl, rfl⟩, hn⟩, hn2⟩, h1⟩, h2⟩, h3⟩ := h
        simp only [ev]
        exact se_chn2 c.room (sE a ea X sc raw c h1) (sE b eb X sc raw c h2) (sE d ec X sc raw c h3) hn hn2
      | [], _, h => simp [cE] at h
      | [_], _, h => simp [cE] at h
      | _ :: _ :: _ :: _, _, h => simp [cE] at h
      | [_, _], [], h => simp [cE] at h
      | [_, _], [_], h => simp [cE] at h
      | [_, _], _ :: _ :: _ :: _, h => simp [cE] at h
    | _ => simp [cE] at h
  | .isn ng a, e, X, sc, raw, c, h => by
    cases e with
    | Compare ea ops es p =>
      match ops, es, h with
      | [op'], [.Constant .none j p2], h =>
        simp only [cE, Bool.and_eq_true, decide_eq_true_eq] at h
        obtain ⟨rfl, h1⟩ := h
        simp only [ev]
        cases ng with
        | true => exact se_isnot (sE a ea X sc raw c h1)
        | false => exact se_is (sE a ea X sc raw c h1)
      | [], _, h => simp [cE] at h
      | _ :: _ :: _, _, h => simp [cE] at h
      | [_], [], h => simp [cE] at h
      | [_], _ :: _ :: _, h => simp [cE] at h
      | [_], [e1], h =>
        cases e1 with
        | Constant v j p2 =>
          cases v with
          | none =>
            simp only [cE, Bool.and_eq_true, decide_eq_true_eq] at h
            obtain ⟨rfl, h1⟩ := h
            simp only [ev]
            cases ng with
            | true => exact se_isnot (sE a ea X sc raw c h1)
            | false => exact se_is (sE a ea X sc raw c h1)
          | _ => simp [cE] at h
        | _ => simp [cE] at h
    | _ => simp [cE] at h
  | .bop o es, e, X, sc, raw, c, h => by
    cases e with
    | BoolOp o' ees p =>
      simp only [cE, Bool.and_eq_true, decide_eq_true_eq] at h
      obtain ⟨⟨rfl, hn⟩, h1⟩ := h
      simp only [ev]
      exact se_bop (by intro z; subst z; simp at hn) (sEs es ees X sc raw c h1)
    | _ => simp [cE] at h
  | .ite d a b, e, X, sc, raw, c, h => by
    cases e with
    | IfExp ec ea eb p =>
      simp only [cE, Bool.and_eq_true] at h
      simp only [ev]
      exact se_ite (sE d ec X sc raw c h.1.1) (sE a ea X sc raw c h.1.2) (sE b eb X sc raw c h.2)
    | _ => simp [cE] at h
  | .tup es, e, X, sc, raw, c, h => by
    cases e with
    | Tuple ees kk p =>
      simp only [cE, Bool.and_eq_true] at h
      simp only [ev]
      exact se_tup h.1 (sEs es ees X sc raw c h.2)
    | _ => simp [cE] at h
  | .lst es, e, X, sc, raw, c, h => by
    cases e with
    | List ees p =>
      simp only [cE, Bool.and_eq_true] at h
      simp only [ev]
      exact se_lst h.1 (sEs es ees X sc raw c h.2)
    | _ => simp [cE] at h
  | .idx a i, e, X, sc, raw, c, h => by
    cases e with
    | Subscript ea ei p =>
      simp only [cE, Bool.and_eq_true] at h
      simp only [ev]
      exact se_idx (sE a ea X sc raw c h.1.2) (sE i ei X sc raw c h.2) (plainIx_of h.1.1)
    | _ => simp [cE] at h
  | .slc a lo hi, e, X, sc, raw, c, h => by
    cases e with
    | Subscript ea ei p =>
      cases ei with
      | Slice elo ehi est p2 =>
        cases est with
        | none =>
          simp only [cE, Bool.and_eq_true] at h
          simp only [ev]
          exact se_slc (sE a ea X sc raw c h.1.1) (sO lo elo X sc raw c h.1.2) (sO hi ehi X sc raw c h.2)
        | some _ => simp [cE] at h
      | _ => simp [cE] at h
    | _ => simp [cE] at h
  | .call f es, e, X, sc, raw, c, h => by
    cases e with
    | Call g ees kw p =>
      cases g with
      | Name x p2 =>
        cases kw with
        | nil =>
          simp only [cE, Bool.and_eq_true, decide_eq_true_eq] at h
          obtain ⟨⟨⟨⟨⟨h1, h2⟩, h3⟩, h4⟩, h5⟩, h6⟩ := h
          obtain ⟨n1, n2⟩ := okN_of h3
          cases ees with
          | nil => simp at h4
          | cons e0 er =>
            simp only [ev]
            exact se_call c.room (c.fns f x h1) (gl_of c h2) n1 h5 (sEs es (e0 :: er) X sc raw c h6)
        | cons _ _ => simp [cE] at h
      | _ => simp [cE] at h
    | _ => simp [cE] at h
  | .callB f i es, e, X, sc, raw, c, h => by
    cases e with
    | Call g ees kw p =>
      cases g with
      | Name x p2 =>
        cases kw with
        | nil =>
          cases ees with
          | nil => simp [cE] at h
          | cons e0 er =>
            cases e0 with
            | Name n p3 =>
              simp only [cE, Bool.and_eq_true, decide_eq_true_eq] at h
              obtain ⟨⟨⟨⟨⟨⟨⟨h1, h2⟩, h3⟩, h4⟩, h5⟩, h6⟩, h7⟩, h8⟩ := h
              obtain ⟨n1, n2⟩ := okN_of h3
              obtain ⟨n3, n4⟩ := okN_of h6
              simp only [ev]
              exact se_callB c.room (c.fns f x h1) (gl_of c h2) n1 (by rw [c.hN]; exact h4) (vis_of c h5) n3 n4 h7 (sEs es er X sc raw c h8)
            | _ => simp [cE] at h
        | cons _ _ => simp [cE] at h
      | _ => simp [cE] at h
    | _ => simp [cE] at h
  | .callS f i, e, X, sc, raw, c, h => by
    cases e with
    | Call g ees kw p =>
      cases g with
      | Name x p2 =>
        cases kw with
        | nil =>
          match ees, h with
          | [], h => simp [cE] at h
          | _ :: _ :: _, h => simp [cE] at h
          | [e0], h =>
            cases e0 with
            | Name n p3 =>
              simp only [cE, Bool.and_eq_true, decide_eq_true_eq] at h
              obtain ⟨⟨⟨⟨⟨h1, h2⟩, h3⟩, h4⟩, h5⟩, h6⟩ := h
              obtain ⟨n1, n2⟩ := okN_of h3
              obtain ⟨n3, n4⟩ := okN_of h6
              simp only [ev]
              exact se_callS c.room (c.fns f x h1) (gl_of c h2) n1 (by rw [c.hN]; exact h4) (vis_of c h5) n3 n4
            | _ => simp [cE] at h
        | cons _ _ => simp [cE] at h
      | _ => simp [cE] at h
    | _ => simp [cE] at h
  | .blt b es, e, X, sc, raw, c, h => by
    cases e with
    | Call g ees kw p =>
      cases g with
      | Name x p2 =>
        cases kw with
        | nil =>
          simp only [cE, Bool.and_eq_true, decide_eq_true_eq] at h
          obtain ⟨⟨⟨⟨rfl, h2⟩, h4⟩, h5⟩, h6⟩ := h
          cases ees with
          | nil => simp at h4
          | cons e0 er =>
            simp only [ev]
            exact se_blt c.calm (gl_of c h2) (c.bls b) h5 (sEs es (e0 :: er) X sc raw c h6)
        | cons _ _ => simp [cE] at h
      | _ => simp [cE] at h
    | _ => simp [cE] at h
  | .isi a t, e, X, sc, raw, c, h => by
    cases e with
    | Call g ees kw p =>
      cases g with
      | Name x p2 =>
        cases kw with
        | nil =>
          match ees, h with
          | [ea, .Name y p3], h =>
            simp only [cE, Bool.and_eq_true, decide_eq_true_eq] at h
            obtain ⟨⟨⟨⟨⟨rfl, rfl⟩, h3⟩, h4⟩, h5⟩, h6⟩ := h
            simp only [ev]
            exact se_isi (gl_of c h3) c.isi (gl_of c h4) (c.tys t) h5 (sE a ea X sc raw c h6)
          | [], h => simp [cE] at h
          | [_], h => simp [cE] at h
          | _ :: _ :: _ :: _, h => simp [cE] at h
          | [ea, ey], h =>
            cases ey with
            | Name y p3 =>
              simp only [cE, Bool.and_eq_true, decide_eq_true_eq] at h
              obtain ⟨⟨⟨⟨⟨rfl, rfl⟩, h3⟩, h4⟩, h5⟩, h6⟩ := h
              simp only [ev]
              exact se_isi (gl_of c h3) c.isi (gl_of c h4) (c.tys t) h5 (sE a ea X sc raw c h6)
            | _ => simp [cE] at h
        | cons _ _ => simp [cE] at h
      | _ => simp [cE] at h
    | _ => simp [cE] at h
  | .lc t kk its cond elt own, e, X, sc, raw, c, h => by
    cases e with
    | ListComp eelt gens scope p =>
      match gens, h with
      | [⟨tg, iter, ifs, ia⟩], h =>
        simp only [cE, Bool.and_eq_true, decide_eq_true_eq] at h
        obtain ⟨⟨⟨⟨⟨⟨⟨rfl, hb⟩, ht⟩, hsl⟩, hit⟩, hl⟩, hc⟩, he⟩ := h
        split at hit
        case h_2 => cases hit
        rename_i args ha
        have pe := (lc_parts (pos := p) c hb ht hsl ha hl (sEs its args X sc raw c hit) (fun s H C cl fp => sEs cond ifs _ _ _ (c.blk _ hb s H C cl fp) hc) (fun s H C cl fp => sE elt eelt _ _ _ (c.blk _ hb s H C cl fp) he)).1
        have r := SE.ofVal (X := X) (e := .ListComp eelt [⟨tg, iter, ifs, 0⟩] scope p) rfl pe
        simp only [ev, lcM, M.ofVal] at r ⊢
        exact r
      | [], h => simp [cE] at h
      | _ :: _ :: _, h => simp [cE] at h
    | _ => simp [cE] at h
  | .pop i, e, X, sc, raw, c, h => by
    cases e with
    | Call g ees kw cp =>
      cases g with
      | Attribute o at_ ap =>
        cases o with
        | Name n p2 =>
          cases ees with
          | nil =>
            cases kw with
            | nil =>
              simp only [cE, Bool.and_eq_true, decide_eq_true_eq] at h
              obtain ⟨⟨⟨⟨rfl, h1⟩, h2⟩, h3⟩, h4⟩ := h
              obtain ⟨n1, n2⟩ := okN_of h3
              simp only [ev]
              exact se_pop (by rw [c.hN]; exact h1) (vis_of c h2) n1 n2 rfl h4
            | cons _ _ => simp [cE] at h
          | cons _ _ => simp [cE] at h
        | _ => simp [cE] at h
      | _ => simp [cE] at h
    | _ => simp [cE] at h
  | .mth m a e1, e, X, sc, raw, c, h => by
    cases e with
    | Call g ees kw cp =>
      cases g with
      | Attribute o at_ ap =>
        match ees, h with
        | [ee], h =>
          cases kw with
          | nil =>
            simp only [cE, Bool.and_eq_true, decide_eq_true_eq] at h
            obtain ⟨⟨⟨⟨⟨rfl, h1⟩, h2⟩, h3⟩, h4⟩, h5⟩ := h
            simp only [ev]
            exact se_mth c.room h1 h2 h3 (sE a o X sc raw c h4) (sE e1 ee X sc raw c h5)
          | cons _ _ => simp [cE] at h
        | [], h => simp [cE] at h
        | _ :: _ :: _, h => simp [cE] at h
      | _ => simp [cE] at h
    | _ => simp [cE] at h
theorem sEs : ∀ (ms : List E) (es : List Expr) (X : Cx) (sc raw : Scope), CtxOk k sc raw P lev X → cEs k sc ms es = true → SEs X es (evs P ms)
  | [], es, X, sc, raw, c, h => by
    cases es with
    | nil => exact .nil
    | cons _ _ => simp [cEs] at h
  | m :: ms, es, X, sc, raw, c, h => by
    cases es with
    | nil => simp [cEs] at h
    | cons e es =>
      simp only [cEs, Bool.and_eq_true] at h
      exact .cons (sE m e X sc raw c h.1) (sEs ms es X sc raw c h.2)
theorem sO : ∀ (ms : List E) (o : Option Expr) (X : Cx) (sc raw : Scope), CtxOk k sc raw P lev X → cO k sc ms o = true → match o, evs P ms with | none, [] => True | some e, [m] => SE X e m | _, _ => False
  | [], o, X, sc, raw, c, h => by
    cases o with
    | none => exact trivial
    | some e => simp [cO] at h
  | [m], o, X, sc, raw, c, h => by
    cases o with
    | none => simp [cO] at h
    | some e => exact sE m e X sc raw c (by simpa only [cO] using h)
  | _ :: _ :: _, o, X, sc, raw, c, h => by cases o <;> simp [cO] at h
end
end
end Mini

namespace Mini
open PySem PySem.Spec L2
/-! statements of the text -/
def plainSw : Expr → Bool
  | .ListComp _ _ _ _ => false
  | .SetComp _ _ _ _ => false
  | .DictComp _ _ _ _ _ => false
  | _ => true
theorem plainSw_of {v : Expr} {t : Option Expr} {l : Nat} {env : PySem.Env} (h : plainSw v = true) : swapsWith v t l env = pure false := by
  cases v <;> first | rfl | cases h
/-- a comprehension stored to a name: does the store swap -/
def swL (sc : Scope) (s : Scope) (x : Str) (xp lp : Pos) : Option Bool :=
  if sc.names.lookup x = some .local then
    (if (xp.line == lp.line) = true ∧ (s.names.any fun (n, k) => n == x && (k == .local || k == .cell)) = false then some true else if (xp.line == lp.line) = false then some false else none)
  else some false
theorem sw_false {elt : Expr} {gs : List Comprehension} {scope : Scope} {pos py : Pos} {y : Str} {l : Nat} {env : PySem.Env} (hy : env.scope.names.lookup y ≠ some .local) : swapsWith (.ListComp elt gs scope pos) (some (.Name y py)) l env = pure false := by
  have ky : (env.kindOf y == some .local) = false := by
    have : env.kindOf y ≠ some .local := hy
    simpa using this
  unfold swapsWith
  simp only [ky, Bool.and_false, Bool.false_and]
theorem sw_line {elt : Expr} {gs : List Comprehension} {scope : Scope} {pos py : Pos} {y : Str} {l : Nat} {env : PySem.Env} (hl : (py.line == pos.line) = false) : swapsWith (.ListComp elt gs scope pos) (some (.Name y py)) l env = pure false := by
  unfold swapsWith
  simp only [Expr.pos, hl, Bool.and_false, Bool.false_and]
def okV (sc : Scope) (x : Str) (xp : Pos) : Expr → Bool
  | .ListComp _ _ s lp => (match swL sc s x xp lp with | some _ => true | none => false)
  | v => plainSw v
/-- several names at once: which way the stores go -/
def isStar : Expr → Bool
  | .Starred _ _ => true
  | _ => false
def nmAt (sc : Scope) (line : Nat) : Expr → Option Str
  | .Name id pos => if sc.names.lookup id == some .local && pos.line == line then some id else none
  | _ => none
def nms (sc : Scope) (tes : List Expr) : List Str := tes.filterMap (nmAt sc ((tes.head?.map (·.pos.line)).getD 0))
def swS (sc : Scope) (tes : List Expr) (v : Expr) : Option (Option (List Str)) :=
  match v with
  | .Tuple vs _ _ =>
    if (!(tes.length == 2 || tes.length == 3) || vs.length != tes.length) = true then some none
    else if (vs.any isStar) = true then some none
    else if ((nms sc tes).length != tes.length || (nms sc tes).eraseDups.length != (nms sc tes).length) = true then some none
    else if vs.all (foldedForSure 8) = true then some none
    else if vs.all (constantsAlone 8) = true then none
    else some (some (nms sc tes))
  | _ => some none
theorem sw_form (tes vs : List Expr) (kt k2 : Nat) (pt p2 : Pos) (env : PySem.Env) : swappedStores [.Tuple tes kt pt] (.Tuple vs k2 p2) env =
    (if (!(tes.length == 2 || tes.length == 3) || vs.length != tes.length || env.blockKind != ScopeKind.function) = true then pure none
    else if (vs.any isStar) = true then pure none
    else if ((nms env.scope tes).length != tes.length || (nms env.scope tes).eraseDups.length != (nms env.scope tes).length) = true then pure none
    else if vs.all (foldedForSure 8) = true then pure none
    else if vs.all (constantsAlone 8) = true then (do unsupported "assign.tuple-of-constant-expressions:order-of-the-stores"; pure (some (nms env.scope tes))) else pure (some (nms env.scope tes))) := by
  unfold swappedStores
  dsimp only [pure_bind]
  rfl
theorem swS_of {sc : Scope} {tes : List Expr} {v : Expr} {kt : Nat} {pt : Pos} {env : PySem.Env} (hs : env.scope = sc) (hk : sc.kind = .function) {r : Option (List Str)} (h : swS sc tes v = some r) : swappedStores [.Tuple tes kt pt] v env = pure r := by
  have hb : env.blockKind = .function := by unfold PySem.Env.blockKind; rw [hs, hk]; rfl
  have hb2 : (env.blockKind != .function) = false := by rw [hb]; rfl
  subst hs
  have other : swS env.scope tes v = some none → (∀ vs a b, v ≠ .Tuple vs a b) → swappedStores [.Tuple tes kt pt] v env = pure none := fun _ n => by
    cases v <;> first | rfl | exact absurd rfl (n _ _ _)
  by_cases hv : ∃ vs a b, v = .Tuple vs a b
  · obtain ⟨vs, k2, p2, rfl⟩ := hv
    rw [sw_form, hb2, Bool.or_false]
    simp only [swS] at h
    by_cases c1 : (!(tes.length == 2 || tes.length == 3) || vs.length != tes.length) = true
    · rw [if_pos c1] at h ⊢; cases h; rfl
    rw [if_neg c1] at h ⊢
    by_cases c2 : (vs.any isStar) = true
    · rw [if_pos c2] at h ⊢; cases h; rfl
    rw [if_neg c2] at h ⊢
    by_cases c3 : ((nms env.scope tes).length != tes.length || (nms env.scope tes).eraseDups.length != (nms env.scope tes).length) = true
    · rw [if_pos c3] at h ⊢; cases h; rfl
    rw [if_neg c3] at h ⊢
    by_cases c4 : vs.all (foldedForSure 8) = true
    · rw [if_pos c4] at h ⊢; cases h; rfl
    rw [if_neg c4] at h ⊢
    by_cases c5 : vs.all (constantsAlone 8) = true
    · rw [if_pos c5] at h; cases h
    rw [if_neg c5] at h ⊢
    cases h; rfl
  · have n : ∀ vs a b, v ≠ .Tuple vs a b := fun vs a b e => hv ⟨vs, a, b, e⟩
    have e : swS env.scope tes v = some none := by
      cases v <;> first | rfl | exact absurd rfl (n _ _ _)
    rw [e] at h; cases h
    exact other e n
/-- two names at once -/
def parB (sc : Scope) (ts : List T) (e : E) (tes : List Expr) (v : Expr) (names : List Str) : Bool := match ts, e, tes, v with
        | [.nm i, .nm j], .tup [ea, eb], [.Name x _, .Name y _], .Tuple [a, b] _ _ => decide (i ≠ j) && notStar a && notStar b && decide (sc.names.lookup x = some .local) && decide (sc.names.lookup y = some .local) && decide (names = [x, y])
        | _, _, _, _ => false
theorem parB_form {sc : Scope} {ts : List T} {e : E} {tes : List Expr} {v : Expr} {names : List Str} (h : parB sc ts e tes v names = true) : ∃ i j ea eb x px y py a b k2 pt2, ts = [.nm i, .nm j] ∧ e = .tup [ea, eb] ∧ tes = [.Name x px, .Name y py] ∧ v = .Tuple [a, b] k2 pt2 ∧
    i ≠ j ∧ notStar a = true ∧ notStar b = true ∧ sc.names.lookup x = some .local ∧ sc.names.lookup y = some .local ∧ names = [x, y] := by
  unfold parB at h
  split at h
  · simp only [Bool.and_eq_true, decide_eq_true_eq] at h
    obtain ⟨⟨⟨⟨⟨g1, g2⟩, g3⟩, g4⟩, g5⟩, g6⟩ := h
    exact ⟨_, _, _, _, _, _, _, _, _, _, _, _, rfl, rfl, rfl, rfl, g1, g2, g3, g4, g5, g6⟩
  · cases h
def cAsg (k : Ck) (sc : Scope) (fz : List Nat) (t : T) (e : E) (st : Stmt) : Bool := match t, st with
  | .nm i, .Assign [.Name x xp] v p => decide (k.N[i]? = some x) && locB sc x && !fz.contains i && cE k sc e v && okV sc x xp v
  | .tp ts, .Assign [.Tuple tes kt pt] v p => cT k.N sc (.tp ts) (.Tuple tes kt pt) && (slotsL ts).all (fun i => !fz.contains i) && cE k sc e v && plainSw v && (match swS sc tes v with
      | some none => true
      | some (some names) => parB sc ts e tes v names
      | none => false)
  | _, _ => false
def notSlice : Expr → Bool
  | .Slice _ _ _ _ => false
  | _ => true
def cSeti (k : Ck) (sc : Scope) (x : Nat) (i e : E) (st : Stmt) : Bool := match st with
  | .Assign [.Subscript (.Name n _) ie _] v p => decide (k.N[x]? = some n) && visB sc n && okN n && plainSw v && notSlice ie && cE k sc i ie && cE k sc e v
  | _ => false
def cAug (k : Ck) (sc : Scope) (fz : List Nat) (i : Nat) (op : Operator) (e : E) (st : Stmt) : Bool := match st with
  | .AugAssign (.Name x _) op' v _ => decide (op = op') && decide (k.N[i]? = some x) && locB sc x && !fz.contains i && cE k sc e v
  | _ => false
def cMeth (k : Ck) (sc : Scope) (name : Str) (x : Nat) (e : E) (st : Stmt) : Bool := match st with
  | .Expr (.Call (.Attribute (.Name n _) at_ ap) [v] [] cp) _ => decide (at_ = name) && decide (k.N[x]? = some n) && visB sc n && okN n && notStar v && (ap.endLine == cp.line) && cE k sc e v
  | _ => false
def cExp (k : Ck) (sc : Scope) (e : E) (st : Stmt) : Bool := match st with
  | .Expr v _ => plainSw v && cE k sc e v
  | _ => false
def cRet (k : Ck) (sc : Scope) (e : E) (st : Stmt) : Bool := match st with
  | .Return (some v) _ => cE k sc e v
  | _ => false
def isBrk : Stmt → Bool
  | .Break _ => true
  | _ => false
def isCont : Stmt → Bool
  | .Continue _ => true
  | _ => false
def isPass : Stmt → Bool
  | .Pass _ => true
  | _ => false
mutual
def cC (k : Ck) (sc : Scope) (fz : List Nat) : C → Stmt → Bool
  | .asg t e, st => cAsg k sc fz t e st
  | .seti x i e, st => cSeti k sc x i e st
  | .aug i op e, st => cAug k sc fz i op e st
  | .augi x i op e, st => false
  | .app x e, st => cMeth k sc "append" x e st
  | .ext x e, st => cMeth k sc "extend" x e st
  | .expr e, st => cExp k sc e st
  | .ret e, st => cRet k sc e st
  | .ife c a b, st => (match st with
    | .If ec ea eb _ => cE k sc c ec && cCs k sc fz a ea && cCs k sc fz b eb
    | _ => false)
  | .wh c b, st => (match st with
    | .While ec eb el _ => el.isEmpty && cE k sc c ec && cCs k sc fz b eb
    | _ => false)
  | .fr t kk its b, st => (match st with
    | .For tg it eb el _ => el.isEmpty && cT k.N sc t tg && t.slots.all (fun i => !fz.contains i) && (match itArgs sc kk (isTuple tg) it with | some args => cEs k sc its args | none => false) && cCs k sc fz b eb
    | _ => false)
  | .brk, st => isBrk st
  | .cont, st => isCont st
  | .pass, st => isPass st
  | .never, _ => true
def cCs (k : Ck) (sc : Scope) (fz : List Nat) : List C → List Stmt → Bool
  | [], sts => sts.isEmpty
  | c :: cs, sts => (match sts with
    | s :: ss => cC k sc fz c s && cCs k sc fz cs ss
    | [] => false)
end
section
variable {k : Ck} {P : Ph} {lev : Nat} {sc : Scope} {X : Cx} {fz : List Nat}
theorem nin {i : Nat} (h : (!fz.contains i) = true) : i ∉ fz := fun z => by
  simp only [Bool.not_eq_true', List.contains_eq_mem, decide_eq_false_iff_not] at h; exact h z
theorem ses_frO {P : Ph} : ∀ {es : List Expr} {ms : List M}, es.all PlainT = true → SEs X es ms → SEs X es (ms.map frO)
  | [], _, _, .nil => .nil
  | e :: es, _, n, .cons h hs => by
    simp only [List.all_cons, Bool.and_eq_true] at n
    exact .cons (se_frO h n.1) (ses_frO (P := P) n.2 hs)
theorem loc_of (c : CtxOk k sc sc P lev X) {x : Str} (h : locB sc x = true) : Loc X.env.scope x := (c.asg x h).1
theorem assign_sub {n : Str} {p sp : Pos} {ie : Expr} {env : PySem.Env} (h : notSlice ie = true) (v : Value) : assign (.Subscript (.Name n p) ie sp) env v = (do
      let ov ← holding [v] (eval (.Name n p) env)
      let iv ← holding [v, ov] (eval ie env)
      standAt sp
      holding [v, ov, iv] (setItem ov iv v)
      release [v, ov, iv] []) := by
  cases ie <;> first | rfl | cases h
set_option maxHeartbeats 4000000 in
/-- the assignment to one name -/
theorem sAsg (hk : sc.kind = .function) (c : CtxOk k sc sc P lev X) {i : Nat} {x : Str} {xp p : Pos} {e : E} {v : Expr} (h1 : k.N[i]? = some x) (h2 : locB sc x = true) (h3 : i ∉ fz) (h4 : cE k sc e v = true)
    (h5 : okV sc x xp v = true) : SS X fz (.Assign [.Name x xp] v p) (asgO i (ev P e).val) := by
  have hi : X.N[i]? = some x := by rw [c.hN]; exact h1
  have hf := (c.asg x h2).2
  have plain : ∀ {l : Nat}, swapsWith v (some (.Name x xp)) l X.env = pure false → SS X fz (.Assign [.Name x xp] v p) (asgO i (ev P e).val) := fun {l} hs => by
    have hs' : swapsWith v (some (.Name x xp)) p.line X.env = pure false := by
      cases v with
      | ListComp elt gs s lp => exact hs
      | SetComp elt gs s lp => exact hs
      | DictComp a elt gs s lp => exact hs
      | _ => rfl
    exact ss_set h3 c.nd hi (loc_of c h2) (sE e v X sc sc c h4).val hs' hf
  cases v with
  | ListComp elt gs s lp =>
    simp only [okV] at h5
    split at h5
    case h_2 => cases h5
    rename_i bb hsw
    unfold swL at hsw
    split at hsw
    · rename_i hl
      split at hsw
      · rename_i hc
        -- the store swaps
        cases e with
        | lc t kk its cond elt' own =>
          match gs, h4 with
          | [⟨tg, iter, ifs, ia⟩], h =>
            simp only [cE, Bool.and_eq_true, decide_eq_true_eq] at h
            obtain ⟨⟨⟨⟨⟨⟨⟨rfl, hb⟩, ht⟩, hsl⟩, hit⟩, hl2⟩, hc2⟩, he⟩ := h
            split at hit
            case h_2 => cases hit
            rename_i args ha
            refine (lc_parts (pos := lp) c hb ht hsl ha hl2 (sEs its args X sc sc c hit) (fun s H C cl fp => sEs cond ifs _ _ _ (c.blk _ hb s H C cl fp) hc2) (fun s H C cl fp => sE elt' elt _ _ _ (c.blk _ hb s H C cl fp) he)).2 h3 hi (by rw [c.sc]; exact hl) ?_
            exact sw_true (by rw [c.sc]; exact hk) (by rw [c.sc]; exact hl) hc.1 hc.2
          | [], h => simp [cE] at h
          | _ :: _ :: _, h => simp [cE] at h
        | _ => simp [cE] at h4
      · split at hsw
        · rename_i hline
          exact plain (l := 0) (sw_line hline)
        · cases hsw
    · rename_i hl
      exact plain (l := 0) (sw_false (by rw [c.sc]; exact hl))
  | _ => exact plain (l := 0) (plainSw_of h5)
end
end Mini

namespace Mini
open PySem PySem.Spec L2
section
variable {k : Ck} {P : Ph} {lev : Nat} {sc : Scope} {X : Cx} {fz : List Nat}
theorem sPar (hk : sc.kind = .function) (c : CtxOk k sc sc P lev X) {ts : List T} {e : E} {tes : List Expr} {v : Expr} {names : List Str} {kt : Nat} {pt p : Pos} (hz : ∀ i ∈ fz, i ∉ (T.tp ts).slots) (h1 : cT k.N sc (.tp ts) (.Tuple tes kt pt) = true) (h3 : cE k sc e v = true) (h4 : plainSw v = true)
    (hsw : swS sc tes v = some (some names)) (h5 : parB sc ts e tes v names = true) : SS X fz (.Assign [.Tuple tes kt pt] v p) (unpO (.tp ts) (ev P e).val) := by
  obtain ⟨i, j, ea, eb, x, px, y, py, a, b, k2, pt2, rfl, rfl, rfl, rfl, g1, g2, g3, g4, g5, rfl⟩ := parB_form h5
  simp only [cT, cTs, Bool.and_eq_true, decide_eq_true_eq] at h1
  obtain ⟨⟨q1, q2⟩, ⟨q3, q4⟩, _⟩ := h1
  simp only [cE, cEs, Bool.and_eq_true] at h3
  obtain ⟨_, h3a, h3b, _⟩ := h3
  have hz' : ∀ l ∈ fz, l ≠ i ∧ l ≠ j := fun l hl => ⟨fun z => hz l hl (by subst z; simp [T.slots, slotsL]), fun z => hz l hl (by subst z; simp [T.slots, slotsL])⟩
  have hsl : swapsWithSole [.Tuple [.Name x px, .Name y py] kt pt] (.Tuple [a, b] k2 pt2) p.line X.env = pure false := plainSw_of (v := .Tuple [a, b] k2 pt2) (t := some (.Tuple [.Name x px, .Name y py] kt pt)) (l := p.line) (env := X.env) h4
  have r := ss_par (X := X) (fz := fz) (pos := p) (kt := kt) (pt := pt) (k2 := k2) (pt2 := pt2) (px := px) (py := py) hz' c.calm c.nd
    (by rw [c.hN]; exact q1) (by rw [c.hN]; exact q3) g1 (by rw [c.sc]; exact g4) (by rw [c.sc]; exact g5) g2 g3 (sE ea a X sc sc c h3a) (sE eb b X sc sc c h3b) (swS_of c.sc hk hsw) hsl
  have e2 : (ev P (.tup [ea, eb])).val = (tupM [ev P ea, ev P eb]).val := by simp only [ev, evs]
  rw [e2]; exact r
theorem sAsgC (hk : sc.kind = .function) (c : CtxOk k sc sc P lev X) (t : T) (e : E) (st : Stmt) (h : cAsg k sc fz t e st = true) : SS X fz st (ex P (.asg t e)) := by
  unfold cAsg at h
  split at h
  · rename_i i x xp v p
    simp only [Bool.and_eq_true, decide_eq_true_eq] at h
    obtain ⟨⟨⟨⟨h1, h2⟩, h3⟩, h4⟩, h5⟩ := h
    have r := sAsg (fz := fz) (xp := xp) (p := p) hk c h1 h2 (nin h3) h4 h5
    have e : ex P (.asg (.nm i) e) = asgO i (ev P e).val := by funext env; simp only [ex, asgO]
    rw [e]; exact r
  · rename_i ts tes kt pt v p
    simp only [Bool.and_eq_true] at h
    obtain ⟨⟨⟨⟨h1, h2⟩, h3⟩, h4⟩, h5⟩ := h
    have hz : ∀ i ∈ fz, i ∉ (T.tp ts).slots := fun i hi z => by
      have := List.all_eq_true.mp h2 i (by simpa only [T.slots] using z)
      exact nin this hi
    have e1 : ex P (.asg (.tp ts) e) = unpO (.tp ts) (ev P e).val := by funext env; simp only [ex, unpO]
    rw [e1]
    cases hsw : swS sc tes v with
    | none => rw [hsw] at h5; cases h5
    | some o =>
      cases o with
      | none =>
        have hsl : swapsWithSole [.Tuple tes kt pt] v p.line X.env = pure false := plainSw_of (v := v) (t := some (.Tuple tes kt pt)) (l := p.line) (env := X.env) h4
        exact ss_unp hz (sE e v X sc sc c h3).val (sT c (.tp ts) _ h1) hsl (swS_of c.sc hk hsw) rfl
      | some names =>
        rw [hsw] at h5
        exact sPar hk c hz h1 h3 h4 hsw h5
  · cases h
theorem sSetiC (c : CtxOk k sc sc P lev X) (x : Nat) (i e : E) (st : Stmt) (h : cSeti k sc x i e st = true) : SS X fz st (ex P (.seti x i e)) := by
  unfold cSeti at h
  split at h
  · rename_i n p2 ie sp v p
    simp only [Bool.and_eq_true, decide_eq_true_eq] at h
    obtain ⟨⟨⟨⟨⟨⟨h1, h2⟩, h3⟩, h4⟩, h5⟩, h6⟩, h7⟩ := h
    obtain ⟨n1, n2⟩ := okN_of h3
    have e1 : ex P (.seti x i e) = setiO x (ev P i) (ev P e) := by funext env; simp only [ex, setiO]
    rw [e1]
    have hsl : swapsWithSole [.Subscript (.Name n p2) ie sp] v p.line X.env = pure false := plainSw_of (v := v) (t := some (.Subscript (.Name n p2) ie sp)) (l := p.line) (env := X.env) h4
    exact ss_seti (by rw [c.hN]; exact h1) (vis_of c h2) n1 n2 (sE i ie X sc sc c h6) (sE e v X sc sc c h7) (assign_sub h5) hsl rfl
  · cases h
theorem sAugC (c : CtxOk k sc sc P lev X) (i : Nat) (op : Operator) (e : E) (st : Stmt) (h : cAug k sc fz i op e st = true) : SS X fz st (ex P (.aug i op e)) := by
  unfold cAug at h
  split at h
  · rename_i x p2 op' v p
    simp only [Bool.and_eq_true, decide_eq_true_eq] at h
    obtain ⟨⟨⟨⟨rfl, h1⟩, h2⟩, h3⟩, h4⟩ := h
    have e1 : ex P (.aug i op e) = augO i op (ev P e) := by funext env; simp only [ex, augO] <;> rfl
    rw [e1]
    exact ss_aug (nin h3) c.nd (by rw [c.hN]; exact h1) (loc_of c h2) (sE e v X sc sc c h4) (c.asg x h2).2
  · cases h
theorem sAppC (c : CtxOk k sc sc P lev X) (x : Nat) (e : E) (st : Stmt) (h : cMeth k sc "append" x e st = true) : SS X fz st (ex P (.app x e)) := by
  unfold cMeth at h
  split at h
  · rename_i n p2 at_ ap v cp p
    simp only [Bool.and_eq_true, decide_eq_true_eq] at h
    obtain ⟨⟨⟨⟨⟨⟨rfl, h1⟩, h2⟩, h3⟩, h4⟩, h5⟩, h6⟩ := h
    obtain ⟨n1, n2⟩ := okN_of h3
    have e1 : ex P (.app x e) = appO x (ev P e) := by funext env; simp only [ex, appO]
    rw [e1]
    exact ss_app (by rw [c.hN]; exact h1) (vis_of c h2) n1 n2 (sE e v X sc sc c h6) h4 rfl h5 (by rw [star_of h4]; rfl) rfl
  · cases h
theorem sExtC (c : CtxOk k sc sc P lev X) (x : Nat) (e : E) (st : Stmt) (h : cMeth k sc "extend" x e st = true) : SS X fz st (ex P (.ext x e)) := by
  unfold cMeth at h
  split at h
  · rename_i n p2 at_ ap v cp p
    simp only [Bool.and_eq_true, decide_eq_true_eq] at h
    obtain ⟨⟨⟨⟨⟨⟨rfl, h1⟩, h2⟩, h3⟩, h4⟩, h5⟩, h6⟩ := h
    obtain ⟨n1, n2⟩ := okN_of h3
    have e1 : ex P (.ext x e) = extO x (ev P e) := by funext env; simp only [ex, extO]
    rw [e1]
    exact ss_ext (by rw [c.hN]; exact h1) (vis_of c h2) n1 n2 (sE e v X sc sc c h6) h4 rfl h5 (by rw [star_of h4]; rfl) rfl
  · cases h
theorem sExpC (c : CtxOk k sc sc P lev X) (e : E) (st : Stmt) (h : cExp k sc e st = true) : SS X fz st (ex P (.expr e)) := by
  unfold cExp at h
  split at h
  · rename_i v p
    simp only [Bool.and_eq_true] at h
    have e1 : ex P (.expr e) = expO (ev P e).val := by funext env; simp only [ex, expO]
    rw [e1]
    exact ss_expr (sE e v X sc sc c h.2).val (plainSw_of h.1)
  · cases h
theorem sRetC (c : CtxOk k sc sc P lev X) (e : E) (st : Stmt) (h : cRet k sc e st = true) : SS X fz st (ex P (.ret e)) := by
  unfold cRet at h
  split at h
  · rename_i v p
    have e1 : ex P (.ret e) = retO (ev P e).val := by funext env; simp only [ex, retO]
    rw [e1]
    exact ss_ret (sE e v X sc sc c h).val
  · cases h
mutual
/-- THE STATEMENTS -/
theorem sC (hk : sc.kind = .function) (c : CtxOk k sc sc P lev X) : ∀ (m : C) (st : Stmt), cC k sc fz m st = true → SS X fz st (ex P m)
  | .asg t e, st, h => sAsgC hk c t e st (by rw [cC] at h; exact h)
  | .seti x i e, st, h => sSetiC c x i e st (by rw [cC] at h; exact h)
  | .aug i op e, st, h => sAugC c i op e st (by rw [cC] at h; exact h)
  | .augi x i op e, st, h => by rw [cC] at h; cases h
  | .app x e, st, h => sAppC c x e st (by rw [cC] at h; exact h)
  | .ext x e, st, h => sExtC c x e st (by rw [cC] at h; exact h)
  | .expr e, st, h => sExpC c e st (by rw [cC] at h; exact h)
  | .ret e, st, h => sRetC c e st (by rw [cC] at h; exact h)
  | .ife cc a b, st, h => by
    cases st with
    | If ec ea eb p =>
      simp only [cC, Bool.and_eq_true] at h
      have e1 : ex P (.ife cc a b) = ifO (ev P cc).tst (exs P a) (exs P b) := by funext env; simp only [ex, ifO]
      rw [e1]
      exact ss_if (sE cc ec X sc sc c h.1.1) (sCs hk c a ea h.1.2) (sCs hk c b eb h.2)
    | _ => simp [cC] at h
  | .wh cc b, st, h => by
    cases st with
    | While ec eb el p =>
      simp only [cC, Bool.and_eq_true, List.isEmpty_iff] at h
      obtain ⟨⟨rfl, h1⟩, h2⟩ := h
      have e1 : ex P (.wh cc b) = whC (ev P cc).tst (exs P b) := by funext env; simp only [ex]
      rw [e1]
      exact ss_wh (by rw [c.xe]; exact PassesOwn.never) (sE cc ec X sc sc c h1) (sCs hk c b eb h2)
    | _ => simp [cC] at h
  | .fr t kk its b, st, h => by
    cases st with
    | For tg it eb el p =>
      simp only [cC, Bool.and_eq_true, List.isEmpty_iff] at h
      obtain ⟨⟨⟨⟨rfl, h1⟩, h2⟩, h3⟩, h4⟩ := h
      cases ha : itArgs sc kk (isTuple tg) it with
      | none => rw [ha] at h3; cases h3
      | some args =>
        rw [ha] at h3
        have e1 : ex P (.fr t kk its b) = frO2 t kk (evs P its) (exs P b) := by funext env; simp only [ex, frO2]
        rw [e1]
        obtain ⟨pi, fold⟩ := sI c ha (ses_frO (P := P) (itArgs_plain ha) (sEs its args X sc sc c h3))
        exact ss_for (fun i hi z => nin (List.all_eq_true.mp h2 i z) hi) (by rw [c.xe]; exact PassesOwn.never) c.calm pi (sT c t tg h1) (sCs hk c b eb h4) fold
    | _ => simp [cC] at h
  | .brk, st, h => by
    rw [cC] at h
    have e1 : ex P .brk = fun env => some (.bk env) := by funext env; simp only [ex]
    rw [e1]
    cases st <;> first | exact ss_brk | cases h
  | .cont, st, h => by
    rw [cC] at h
    have e1 : ex P .cont = fun env => some (.ct env) := by funext env; simp only [ex]
    rw [e1]
    cases st <;> first | exact ss_cont | cases h
  | .pass, st, h => by
    rw [cC] at h
    have e1 : ex P .pass = fun env => some (.nx env) := by funext env; simp only [ex]
    rw [e1]
    cases st <;> first | exact ss_pass | cases h
  | .never, st, h => by
    have e1 : ex P .never = fun env => none := by funext env; simp only [ex]
    rw [e1]; exact ss_never
theorem sCs (hk : sc.kind = .function) (c : CtxOk k sc sc P lev X) : ∀ (ms : List C) (sts : List Stmt), cCs k sc fz ms sts = true → SB X fz sts (exs P ms)
  | [], sts, h => by
    rw [cCs, List.isEmpty_iff] at h
    subst h
    have e1 : exs P [] = fun env => some (.nx env) := by funext env; simp only [exs]
    rw [e1]; exact sb_nil
  | m :: ms, sts, h => by
    cases sts with
    | cons st sts =>
      simp only [cCs, Bool.and_eq_true] at h
      have e1 : exs P (m :: ms) = seqO (ex P m) (exs P ms) := by funext env; simp only [exs, seqO] <;> rfl
      rw [e1]
      exact sb_cons (sC hk c m st h.1) (sCs hk c ms sts h.2)
    | nil => simp [cCs] at h
end
end
end Mini

namespace Mini
open PySem PySem.Spec L2
section
variable {K : PySem.W.Frag} {O O' : Own} {H H' : Hp}
theorem pad_get {as : En} {n i : Nat} {s : Sl} (h : (as ++ List.replicate n Sl.no)[i]? = some s) : as[i]? = some s ∨ s = .no := by
  by_cases hi : i < as.length
  · rw [List.getElem?_append_left hi] at h; exact .inl h
  · rw [List.getElem?_append_right (by omega), List.getElem?_replicate] at h
    split at h
    · cases h; exact .inr rfl
    · cases h
theorem W.pad {as : En} {vs : List V} {n : Nat} (w : W K O H as (vs.map some)) : W K O H (as ++ List.replicate n .no) (vs.map some ++ List.replicate n none) ∧ ∀ b, FpE H (as ++ List.replicate n .no) (vs.map some ++ List.replicate n none) b → FpE H as (vs.map some) b := by
  have l : as.length = vs.length := by have := w.len; simpa using this
  have sg : ∀ {i : Nat} {s : Sl} {v : V}, as[i]? = some s → (vs.map some ++ List.replicate n none)[i]? = some (some v) → (vs.map some)[i]? = some (some v) := fun {i s v} e h => by
    have hi : i < as.length := (List.getElem?_eq_some_iff.mp e).1
    rw [List.getElem?_append_left (by simp; omega)] at h; exact h
  refine ⟨⟨w.own, by simp [l], fun i s e => ?_, fun i j s t v u b ne e1 e2 e3 e4 f1 f2 => ?_⟩, fun b ⟨i, s, v, e1, e2, f⟩ => ?_⟩
  · rcases pad_get e with e | z
    · have hi : i < as.length := (List.getElem?_eq_some_iff.mp e).1
      rcases w.rep i s e with z | ⟨v, h1, h2⟩
      · exact .inl z
      · exact .inr ⟨v, by rw [List.getElem?_append_left (by simp; omega)]; exact h1, h2⟩
    · exact .inl z
  · rcases pad_get e1 with e1 | rfl
    · rcases pad_get e2 with e2 | rfl
      · exact w.sep i j s t v u b ne e1 e2 (sg e1 e3) (sg e2 e4) f1 f2
      · exact f2
    · exact f1
  · rcases pad_get e1 with e1 | rfl
    · exact ⟨i, s, v, e1, sg e1 e2, f⟩
    · exact f.elim
/-- what is told of the arguments, from the frame's end -/
theorem W.back {as e : En} {vs : List V} {σ' : St} (w : W K O' H' e σ') (l : as.length = vs.length) (h0 : hasBx as = true → ∀ v, vs[0]? = some v → σ'[0]? = some (some v)) : W K O' H' (wb as e) (vs.map some) ∧ ∀ b, FpE H' (wb as e) (vs.map some) b → FpE H' e σ' b := by
  have nos : wb as e = as.map (fun _ => .no) → W K O' H' (wb as e) (vs.map some) ∧ ∀ b, FpE H' (wb as e) (vs.map some) b → FpE H' e σ' b := fun z => by
    rw [z]
    obtain ⟨w1, nf⟩ := W.nos (K := K) (O := O') (H := H') (as := as) (σ := vs.map some) w.own (by simp [l])
    exact ⟨w1, fun b f => (nf b f).elim⟩
  match as, e, w, l, h0, nos with
  | [], e, w, l, h0, nos => exact nos rfl
  | .no :: r, e, w, l, h0, nos => exact nos rfl
  | .v _ :: r, e, w, l, h0, nos => exact nos rfl
  | .l _ :: r, e, w, l, h0, nos => exact nos rfl
  | .sc _ :: r, e, w, l, h0, nos => exact nos rfl
  | .bx _ _ :: r, [], w, l, h0, nos => exact nos rfl
  | .bx _ _ :: r, .no :: _, w, l, h0, nos => exact nos rfl
  | .bx _ _ :: r, .v _ :: _, w, l, h0, nos => exact nos rfl
  | .bx _ _ :: r, .l _ :: _, w, l, h0, nos => exact nos rfl
  | .bx _ _ :: r, .sc _ :: _, w, l, h0, nos => exact nos rfl
  | .bx cs rs :: r, .bx cs2 rs2 :: e', w, l, h0, nos =>
    cases vs with
    | nil => simp at l
    | cons v0 vs =>
      have s0 : σ'[0]? = some (some v0) := h0 rfl v0 rfl
      have e0 : wb (.bx cs rs :: r) (.bx cs2 rs2 :: e') = .bx cs2 rs2 :: r.map fun _ => .no := rfl
      rw [e0]
      have get : ∀ (i : Nat) (s : Sl), (Sl.bx cs2 rs2 :: r.map fun _ => Sl.no)[i]? = some s → (i = 0 ∧ s = .bx cs2 rs2) ∨ s = .no := fun i s z => by
        cases i with
        | zero => exact .inl ⟨rfl, by simpa using z.symm⟩
        | succ i =>
          simp only [List.getElem?_cons_succ, List.getElem?_map] at z
          cases hh : r[i]? with
          | none => rw [hh] at z; cases z
          | some q => rw [hh] at z; cases z; exact .inr rfl
      have rep0 : RepS K O' H' (.bx cs2 rs2) v0 := by
        rcases w.rep 0 (.bx cs2 rs2) rfl with z | ⟨u, h1, h2⟩
        · cases z
        · rw [s0] at h1; cases h1; exact h2
      refine ⟨⟨w.own, by simpa using l, fun i s z => ?_, fun i j s t v u b ne e1 e2 e3 e4 f1 f2 => ?_⟩, fun b ⟨i, s, v, e1, e2, f⟩ => ?_⟩
      · rcases get i s z with ⟨rfl, rfl⟩ | z
        · exact .inr ⟨v0, rfl, rep0⟩
        · exact .inl z
      · rcases get i s e1 with ⟨rfl, rfl⟩ | rfl
        · rcases get j t e2 with ⟨rfl, rfl⟩ | rfl
          · exact ne rfl
          · exact f2
        · exact f1
      · rcases get i s e1 with ⟨rfl, rfl⟩ | rfl
        · simp at e2; subst e2
          exact ⟨0, .bx cs2 rs2, v0, rfl, s0, f⟩
        · exact f.elim
end
/-! a whole program -/
structure FnI where
  x : Str
  st : Stmt
  ps : List Str
  N : List Str
  body : List C
  b : Bool
def FnI.fz (i : FnI) : List Nat := if i.b then [0] else []
def scopeB (i : FnI) : Bool :=
  (match (defScope i.st).kind with | .function => true | _ => false) && !(defScope i.st).isCoroutine && !(defScope i.st).isGenerator && decide i.N.Nodup && decide (i.N.take i.ps.length = i.ps) &&
    i.ps.all (fun x => match (defScope i.st).names.lookup x with | some .local => true | some .cell => true | _ => false) && (defScope i.st).names.all (fun y => match y.2 with | .free => false | _ => true)
theorem scope_of {i : FnI} (h : scopeB i = true) : FnScope i.N i.ps (defScope i.st) := by
  unfold scopeB at h
  simp only [Bool.and_eq_true, Bool.not_eq_true', decide_eq_true_eq, List.all_eq_true] at h
  obtain ⟨⟨⟨⟨⟨⟨h1, h2⟩, h3⟩, h4⟩, h5⟩, h6⟩, h7⟩ := h
  refine ⟨?_, h2, h3, h4, h5, fun x hx => ?_, fun y hy z => ?_⟩
  · split at h1
    · assumption
    · cases h1
  · have := h6 x hx
    split at this
    · exact .inl (by assumption)
    · exact .inr (by assumption)
    · cases this
  · have := h7 y hy
    rw [z] at this; cases this
def fnB (fn : List Str) (gl : List (Str × D)) (i : FnI) : Bool := scopeB i && cCs ⟨fn, gl, i.N⟩ (defScope i.st) i.fz i.body (defBody i.st)
/-- what the program's top has left -/
structure Top (gl : List (Str × D)) (K : PySem.W.Frag) (mg : Str → Option Value) : Prop where
  gls : ∀ (x : Str) (d : D), gl.lookup x = some d → ∃ v u, mg x = some u ∧ RelV v u ∧ ∀ (O : Own) (H : Hp), RepD K O H d v
  bls : ∀ b : Bl, mg (blName b) = none
  tys : ∀ t : Ty, mg (tyName t : Str) = none
  isi : mg "isinstance" = none
  its : mg "range" = none ∧ mg "enumerate" = none ∧ mg "zip" = none ∧ mg "reversed" = none
section
variable {Pr : Program} {w : World} {K : PySem.W.Frag} {mg : Str → Option Value} {base : Heap}
/-- the functions at a level -/
def Lvl (Pr : Program) (w : World) (K : PySem.W.Frag) (mg : Str → Option Value) (base : Heap) (fn : List Str) (P : Ph) (lev : Nat) : Prop :=
  ∀ (j : Nat) (x : Str), fn[j]? = some x → ∃ (f : Addr) (fd : FuncData) (ps : List Str), FnOk Pr w K mg base CX0 lev f fd ps (spF K P j) ∧ mg x = some (.ref f) ∧ PySem.W.keepIn K (.ref f) = true ∧ Binds K fd ps []
theorem fn_body {fn : List Str} {gl : List (Str × D)} {i : FnI} {qual : Str} {f : Addr} {fd : FuncData} {P P' : Ph} {lev j : Nat} (F : Fun K i.x qual i.st f fd) (ok : fnB fn gl i = true) (T : Top gl K mg) (L : Lvl Pr w K mg base fn P lev)
    (hP : ∀ as, P' j as = runB P i.b i.ps.length i.N.length i.body as) : FnOk Pr w K mg base CX0 (lev + 1) f fd i.ps (spF K P' j) := by
  simp only [fnB, Bool.and_eq_true] at ok
  have S := scope_of ok.1
  have arity : ∀ (vs : List V) (H : Hp) (Q : VK) (E : XK), spF K P' j vs H Q E → vs.length = i.ps.length := fun vs H Q E h => by
    obtain ⟨O, as, r, as', wv, e, _⟩ := h
    rw [hP] at e
    unfold runB at e
    split at e
    · rename_i hl
      have := wv.len
      simp at this
      omega
    · cases e
  refine F.ok S arity fun cdv A outer s H vs Q E hr h => ?_
  have hvl := arity vs H Q E h
  obtain ⟨O, as, r, as', wv, e, q⟩ := h
  rw [hP] at e
  unfold runB at e
  split at e
  case isFalse => cases e
  rename_i hl
  simp only [Option.bind_eq_some_iff] at e
  obtain ⟨out, e1, e2⟩ := e
  have c : CtxOk ⟨fn, gl, i.N⟩ (defScope i.st) (defScope i.st) P lev (cxOf CX0 Pr w K mg base i.N qual (defScope i.st) f cdv A outer s H E).nox := {
    hN := rfl
    nd := S.nd
    sc := rfl
    calm := rfl
    room := hr
    xe := rfl
    fns := fun j x hx => ⟨L j x hx⟩
    gls := T.gls
    bls := T.bls
    tys := T.tys
    isi := T.isi
    its := T.its
    asg := fun x hx => by
      unfold locB at hx
      split at hx
      · rename_i z; exact ⟨.inl z, .inl rfl⟩
      · rename_i z; exact ⟨.inr z, .inl rfl⟩
      · cases hx }
  have sb := sCs (fz := i.fz) S.kind c i.body (defBody i.st) ok.2
  refine ⟨_, sb.run, ?_⟩
  have hst : L2.start i.N vs = vs.map some ++ List.replicate (i.N.length - i.ps.length) none := by unfold L2.start; rw [hvl]
  obtain ⟨wp, kp⟩ := wv.pad (n := i.N.length - i.ps.length)
  rw [hst]
  refine ⟨O, as ++ List.replicate (i.N.length - i.ps.length) Sl.no, out, wp, e1, ?_⟩
  -- the end
  have fin : ∀ {O' : Own} {H' : Hp} {σ' : St} {e' : En} {rr : Sl} {v : V}, Step O H (FpE H (as ++ List.replicate (i.N.length - i.ps.length) .no) (vs.map some ++ List.replicate (i.N.length - i.ps.length) none)) O' H' (FpR H' e' σ' rr v) → WR K O' H' e' σ' rr v →
      Kp i.fz (vs.map some ++ List.replicate (i.N.length - i.ps.length) none) σ' → r = rr → as' = e' → Q v H' := fun {O' H' σ' e' rr v} st wr kk er ee => by
    subst er ee
    obtain ⟨wB, kB⟩ := wr.w.back (as := as) (vs := vs) (by omega) fun hb v0 hv0 => by
      have hi : i.b = true := by rw [← hl.2]; exact hb
      have := kk 0 (by simp [FnI.fz, hi])
      rw [this, List.getElem?_append_left (by simp; exact (List.getElem?_eq_some_iff.mp hv0).1)]
      simp [hv0]
    refine q O' H' v ?_ ⟨wB, wr.val, fun b f1 f2 => wr.sep b f1 (kB b f2)⟩
    exact (st.wide kp).sub fun b f => f.imp (kB b) id
  cases out with
  | nx e' =>
    cases e2
    exact fun O' H' σ' st w' kk => fin (rr := .v .none) (v := .non) (st.sub fun b f => f.elim id fun z => z.elim) ⟨w', by simp only [RepS, RepD], fun b f => f.elim⟩ kk rfl rfl
  | rt s' e' =>
    cases e2
    exact fun O' H' σ' v st wr kk => fin st wr kk rfl rfl
  | bk e' => cases e2
  | ct e' => cases e2
/-- nothing is promised of no calls -/
theorem none_ok {f : Addr} {fd : FuncData} {ps : List Str} {P : Ph} {j lev : Nat} (h : ∀ as, P j as = none) : FnOk Pr w K mg base CX0 lev f fd ps (spF K P j) := by
  have no : ∀ vs H Q E, ¬ spF K P j vs H Q E := fun vs H Q E ⟨O, as, r, as', _, e, _⟩ => by rw [h] at e; cases e
  exact ⟨fun vs H Q E h => absurd h (no vs H Q E), fun A outer s H args us vs Q E _ _ _ _ h => absurd h (no vs H Q E)⟩
/-- a function of the table: of the text, or one that is shown by hand -/
inductive Entry where
  | user (i : FnI)
  | prim (m : Nat) (g : List Sl → Option (Sl × List Sl))
def Entry.fn : Entry → Fn
  | .user i => .user i.b i.ps.length i.N.length i.body
  | .prim m g => .prim m g
/-- what is to be known of each entry -/
def EntOk (Pr : Program) (w : World) (K : PySem.W.Frag) (mg : Str → Option Value) (base : Heap) (fn : List Str) (gl : List (Str × D)) (x : Str) : Entry → Prop
  | .user i => ∃ (f : Addr) (fd : FuncData), i.x = x ∧ Fun K x x i.st f fd ∧ fnB fn gl i = true ∧ mg x = some (.ref f) ∧ Binds K fd i.ps []
  | .prim m g => ∃ (f : Addr) (fd : FuncData) (ps : List Str), FnOk Pr w K mg base CX0 (m + 1) f fd ps (spF K (fun _ as => g as) 0) ∧ mg x = some (.ref f) ∧ PySem.W.keepIn K (.ref f) = true ∧ Binds K fd ps []
def tbOf (es : List Entry) (j : Nat) : Option Fn := (es[j]?).map Entry.fn
theorem all_ok {fn : List Str} {gl : List (Str × D)} {es : List Entry} (T : Top gl K mg) (len : fn.length = es.length) (h : ∀ (j : Nat) (x : Str) (e : Entry), fn[j]? = some x → es[j]? = some e → EntOk Pr w K mg base fn gl x e) : ∀ d, Lvl Pr w K mg base fn (callN (tbOf es) d) d
  | 0 => fun j x hx => by
    obtain ⟨e, he⟩ : ∃ e, es[j]? = some e := by
      have := (List.getElem?_eq_some_iff.mp hx).1
      exact ⟨es[j]'(by omega), List.getElem?_eq_getElem _⟩
    have := h j x e hx he
    cases e with
    | user i =>
      obtain ⟨f, fd, rfl, F, ok, hm, hb⟩ := this
      exact ⟨f, fd, i.ps, none_ok fun as => rfl, hm, F.kp, hb⟩
    | prim m g =>
      obtain ⟨f, fd, ps, F, hm, hk, hb⟩ := this
      exact ⟨f, fd, ps, none_ok fun as => rfl, hm, hk, hb⟩
  | d + 1 => fun j x hx => by
    have ih := all_ok T len h d
    obtain ⟨e, he⟩ : ∃ e, es[j]? = some e := by
      have := (List.getElem?_eq_some_iff.mp hx).1
      exact ⟨es[j]'(by omega), List.getElem?_eq_getElem _⟩
    have := h j x e hx he
    cases e with
    | user i =>
      obtain ⟨f, fd, rfl, F, ok, hm, hb⟩ := this
      exact ⟨f, fd, i.ps, fn_body F ok T ih fun as => by simp only [callN, tbOf, he, Option.map_some, Entry.fn], hm, F.kp, hb⟩
    | prim m g =>
      obtain ⟨f, fd, ps, F, hm, hk, hb⟩ := this
      refine ⟨f, fd, ps, ?_, hm, hk, hb⟩
      by_cases hmd : m ≤ d
      · refine (F.mono (by omega)).imp fun vs H Q E ⟨O, as, r, as', w1, e, q⟩ => ⟨O, as, r, as', w1, ?_, q⟩
        simpa only [callN, tbOf, he, Option.map_some, Entry.fn, if_pos hmd] using e
      · exact none_ok fun as => by simp only [callN, tbOf, he, Option.map_some, Entry.fn, if_neg hmd]
end
end Mini

namespace Mini
open PySem PySem.Spec L2
/-! the law's box: its own drawing of numbers -/
def boxMix (s : Int) : Int × Int :=
  let first := (s * 48271 + 17) % 2147483629
  let second := (first * 69621 + 5) % 2147483587
  let s2 := (second * 40692 + 3) % 2147483563
  (first * 4611686014132420609 + second * 2147483647 + s2, s2)
def boxLoad : List Int → Int → Int × List Int × Int
  | [], seed => ((boxMix seed).1, [], (boxMix seed).2)
  | c :: cs, seed =>
    let z := if c ≥ 0 then 2 * c else -2 * c - 1
    if z ≥ 1000000000000000000 then (z, cs, seed)
    else
      let s1 := (seed * 69621 + z * 48271 + 11) % 2147483647
      ((boxMix s1).1, cs, (boxMix s1).2)
def boxTake (cs : List Int) (size seed many : Int) : Int × List Int × Int × Int :=
  if size < many then ((boxLoad cs seed).1 % many, (boxLoad cs seed).2.1, (boxLoad cs seed).1 / many, (boxLoad cs seed).2.2)
  else (size % many, cs, size / many, seed)
def primDraw : List Sl → Option (Sl × List Sl)
  | [.bx cs [size, seed], .v (.int many)] => if divOk many then some (.v (.int (boxTake cs size seed many).1), [.bx (boxTake cs size seed many).2.1 [(boxTake cs size seed many).2.2.1, (boxTake cs size seed many).2.2.2], .v (.int many)]) else none
  | _ => none
def primBox : List Sl → Option (Sl × List Sl)
  | [.sc ns] => if ns.length ≤ 63 then some (.bx ns [0, 4711 + ns.length], [.sc ns]) else none
  | _ => none
/-- the promise of the loading -/
def spLoad : Sp := fun vs H Q _ => ∃ (a c : Addr) (cs : List Int) (size seed : Int), vs = [.ref a] ∧ H a = some (.lst [.ref c, .int size, .int seed]) ∧ H c = some (.lst (cs.map V.int)) ∧ a ≠ c ∧
  ∀ H', H' a = some (.lst [.ref c, .int size, .int (boxLoad cs seed).2.2]) → H' c = some (.lst ((boxLoad cs seed).2.1.map V.int)) → (∀ b, b ≠ a → b ≠ c → H' b = H b) → Q (.int (boxLoad cs seed).1) H'
/-- .. of the drawing -/
def spDraw : Sp := fun vs H Q _ => ∃ (a c : Addr) (cs : List Int) (size seed many : Int), vs = [.ref a, .int many] ∧ H a = some (.lst [.ref c, .int size, .int seed]) ∧ H c = some (.lst (cs.map V.int)) ∧ a ≠ c ∧ divOk many ∧
  ∀ H', H' a = some (.lst [.ref c, .int (boxTake cs size seed many).2.2.1, .int (boxTake cs size seed many).2.2.2]) → H' c = some (.lst ((boxTake cs size seed many).2.1.map V.int)) → (∀ b, b ≠ a → b ≠ c → H' b = H b) → Q (.int (boxTake cs size seed many).1) H'
theorem cmulR {i j : Int} (h : -(2 ^ 64) < j ∧ j < 2 ^ 64) : CMul i j := .inr h
theorem cmulL {i j : Int} (h : -(2 ^ 64) < i ∧ i < 2 ^ 64) : CMul i j := .inl h
end Mini

namespace Mini
open PySem L2
/-! the evaluator's equations, for the simplifier -/
section
variable (P : Ph) (env : En)
@[simp] theorem ev_var (i : Nat) : ev P (.var i) = varM i := by simp only [ev]
@[simp] theorem ev_cst (d : D) : ev P (.cst d) = .ofVal fun env => some (.v d, env) := by simp only [ev]
@[simp] theorem ev_bin (op : Operator) (a b : E) : ev P (.bin op a b) = op2 (binD op) (ev P a) (ev P b) := by simp only [ev]
@[simp] theorem ev_neg (a : E) : ev P (.neg a) = op1 negD (ev P a) := by simp only [ev]
@[simp] theorem ev_cmp (op : CmpOp) (a b : E) : ev P (.cmp op a b) = cmpM op (ev P a) (ev P b) := by simp only [ev]
@[simp] theorem ev_chn (o1 o2 : CmpOp) (a b c : E) : ev P (.chn o1 o2 a b c) = chnM o1 o2 (ev P a) (ev P b) (ev P c) := by simp only [ev]
@[simp] theorem ev_isn (ng : Bool) (a : E) : ev P (.isn ng a) = isnM ng (ev P a) := by simp only [ev]
@[simp] theorem ev_bop (o : BoolOp) (es : List E) : ev P (.bop o es) = bopM o (evs P es) := by simp only [ev]
@[simp] theorem ev_not (a : E) : ev P (.not a) = notM (ev P a) := by simp only [ev]
@[simp] theorem ev_ite (c a b : E) : ev P (.ite c a b) = iteM (ev P c) (ev P a) (ev P b) := by simp only [ev]
@[simp] theorem ev_tup (es : List E) : ev P (.tup es) = tupM (evs P es) := by simp only [ev]
@[simp] theorem ev_lst (es : List E) : ev P (.lst es) = lstM (evs P es) := by simp only [ev]
@[simp] theorem ev_idx (a i : E) : ev P (.idx a i) = op2 idxD (ev P a) (ev P i) := by simp only [ev]
@[simp] theorem ev_slc (a : E) (lo hi : List E) : ev P (.slc a lo hi) = slcM (ev P a) (evs P lo) (evs P hi) := by simp only [ev]
@[simp] theorem ev_call (f : Nat) (es : List E) : ev P (.call f es) = callM P f (evs P es) := by simp only [ev]
@[simp] theorem ev_callB (f i : Nat) (es : List E) : ev P (.callB f i es) = callBM P f i (evs P es) := by simp only [ev]
@[simp] theorem ev_callS (f i : Nat) : ev P (.callS f i) = callSM P f i := by simp only [ev]
@[simp] theorem ev_blt (b : Bl) (es : List E) : ev P (.blt b es) = bltM b (evs P es) := by simp only [ev]
@[simp] theorem ev_isi (a : E) (t : Ty) : ev P (.isi a t) = .cmp (op1 (fun d => some (.v (.bool (isiD d t)))) (ev P a)).val := by simp only [ev]
@[simp] theorem ev_lc (t : T) (k : IK) (its cond : List E) (elt : E) (own : List Nat) : ev P (.lc t k its cond elt own) = lcM t k (evs P its) (evs P cond) (ev P elt) own := by simp only [ev]
@[simp] theorem ev_pop (i : Nat) : ev P (.pop i) = popM i := by simp only [ev]
@[simp] theorem ev_mth (m : Mt) (a e : E) : ev P (.mth m a e) = mthM m (ev P a) (ev P e) := by simp only [ev]
@[simp] theorem evs_nil : evs P [] = [] := by simp only [evs]
@[simp] theorem evs_cons (e : E) (es : List E) : evs P (e :: es) = ev P e :: evs P es := by simp only [evs]
@[simp] theorem ofVal_val (f : En → Option (Sl × En)) : (M.ofVal f).val = f := (rfl)
@[simp] theorem ofVal_opd (f : En → Option (Sl × En)) : (M.ofVal f).opd env = (frzM f env).map fun r => (.d r.1, r.2) := (rfl)
@[simp] theorem ofVal_tst (f : En → Option (Sl × En)) : (M.ofVal f).tst env = trM (fun env => (frzM f env).map fun r => (.d r.1, r.2)) env := (rfl)
@[simp] theorem cmp_val (f : En → Option (Sl × En)) : (M.cmp f).val = f := (rfl)
@[simp] theorem cmp_opd (f : En → Option (Sl × En)) : (M.cmp f).opd env = (frzM f env).map fun r => (.d r.1, r.2) := (rfl)
@[simp] theorem cmp_tst (f : En → Option (Sl × En)) : (M.cmp f).tst env = (f env).bind fun r => (bOf r.1).map fun b => (b, r.2) := (rfl)
@[simp] theorem op1_eq (f : D → Option Sl) (a : M) : op1 f a = .ofVal fun env => (a.opd env).bind fun r => (r.1.get r.2).bind fun x => (f x).map fun s => (s, r.2) := (rfl)
@[simp] theorem op2_eq (f : D → D → Option Sl) (a b : M) : op2 f a b = .ofVal fun env => (a.opd env).bind fun r => (b.opd r.2).bind fun t => (r.1.get t.2).bind fun x => (t.1.get t.2).bind fun y => (f x y).map fun s => (s, t.2) := (rfl)
@[simp] theorem cmpM_eq (op : CmpOp) (a b : M) : cmpM op a b = .cmp (op2 (cmpD op) a b).val := (rfl)
@[simp] theorem chnM_eq (op op2 : CmpOp) (a b c : M) : chnM op op2 a b c = .cmp fun env => (a.opd env).bind fun r => (b.opd r.2).bind fun t => (r.1.get t.2).bind fun x => (t.1.get t.2).bind fun y =>
  (cmpD op x y).bind fun s => (bOf s).bind fun k => if k then (c.opd t.2).bind fun u => (t.1.get u.2).bind fun y2 => (u.1.get u.2).bind fun z => (cmpD op2 y2 z).map fun r2 => (r2, u.2) else some (.v (.bool false), t.2) := (rfl)
@[simp] theorem isnM_eq (ng : Bool) (a : M) : isnM ng a = .cmp (op1 (isnD ng) a).val := (rfl)
@[simp] theorem notM_val (a : M) : (notM a).val env = (trM a.opd env).map fun r => (.v (.bool !r.1), r.2) := (rfl)
@[simp] theorem notM_opd (a : M) : (notM a).opd env = (frzM (notM a).val env).map fun r => (.d r.1, r.2) := (rfl)
@[simp] theorem notM_tst (a : M) : (notM a).tst env = (a.tst env).map fun r => (!r.1, r.2) := (rfl)
@[simp] theorem bopM_val (o : BoolOp) (es : List M) : (bopM o es).val env = (bopV o es env).map fun r => (.v r.1, r.2) := (rfl)
@[simp] theorem bopM_opd (o : BoolOp) (es : List M) : (bopM o es).opd env = (frzM (bopM o es).val env).map fun r => (.d r.1, r.2) := (rfl)
@[simp] theorem bopM_tst (o : BoolOp) (es : List M) : (bopM o es).tst env = bopT o es env := (rfl)
@[simp] theorem bopV_1 (o : BoolOp) (a : M) : bopV o [a] env = frzM a.val env := (rfl)
@[simp] theorem bopV_2 (o : BoolOp) (a b : M) (r : List M) : bopV o (a :: b :: r) env = (frzM a.val env).bind fun t => (truth t.1).bind fun k => if k == isAnd o then bopV o (b :: r) t.2 else some (t.1, t.2) := (rfl)
@[simp] theorem bopT_1 (o : BoolOp) (a : M) : bopT o [a] env = a.tst env := (rfl)
@[simp] theorem bopT_2 (o : BoolOp) (a b : M) (r : List M) : bopT o (a :: b :: r) env = (a.tst env).bind fun t => if t.1 == isAnd o then bopT o (b :: r) t.2 else some (t.1, t.2) := (rfl)
@[simp] theorem isAnd_1 : isAnd .And = true := (rfl)
@[simp] theorem isAnd_2 : isAnd .Or = false := (rfl)
@[simp] theorem iteM_val (c a b : M) : (iteM c a b).val env = (c.tst env).bind fun r => if r.1 then a.val r.2 else b.val r.2 := (rfl)
@[simp] theorem iteM_opd (c a b : M) : (iteM c a b).opd env = (frzM (iteM c a b).val env).map fun r => (.d r.1, r.2) := (rfl)
@[simp] theorem iteM_tst (c a b : M) : (iteM c a b).tst env = (c.tst env).bind fun r => if r.1 then a.tst r.2 else b.tst r.2 := (rfl)
@[simp] theorem frzM_eq (f : En → Option (Sl × En)) : frzM f env = (f env).bind fun r => r.1.frz.map fun d => (d, r.2) := (rfl)
@[simp] theorem trM_eq (g : En → Option (Opd × En)) : trM g env = (g env).bind fun r => (r.1.get r.2).bind fun d => (truth d).map fun b => (b, r.2) := (rfl)
@[simp] theorem argsM_nil : argsM [] env = some ([], env) := (rfl)
@[simp] theorem argsM_cons (a : M) (r : List M) : argsM (a :: r) env = (frzM a.val env).bind fun t => (argsM r t.2).map fun u => (t.1 :: u.1, u.2) := (rfl)
@[simp] theorem opsM_nil : opsM [] env = some ([], env) := (rfl)
@[simp] theorem opsM_cons (a : M) (r : List M) : opsM (a :: r) env = (a.opd env).bind fun t => (opsM r t.2).map fun u => (t.1 :: u.1, u.2) := (rfl)
@[simp] theorem gets_nil : gets env [] = some [] := (rfl)
@[simp] theorem gets_cons (p : Opd) (r : List Opd) : gets env (p :: r) = (p.get env).bind fun d => (gets env r).map (d :: ·) := (rfl)
@[simp] theorem tupM_eq (es : List M) : tupM es = .ofVal fun env => (argsM es env).bind fun t => if t.1.length ≤ sizeLine then some (.v (.tuple t.1), t.2) else none := (rfl)
@[simp] theorem lstM_eq (es : List M) : lstM es = .ofVal fun env => (argsM es env).bind fun t => if t.1.length ≤ sizeLine then some (.l t.1, t.2) else none := (rfl)
@[simp] theorem bltM_eq (b : Bl) (es : List M) : bltM b es = .ofVal fun env => (opsM es env).bind fun t => (gets t.2 t.1).bind fun ds => (bltD b ds).map fun r => (r, t.2) := (rfl)
@[simp] theorem mthM_eq (m : Mt) (a b : M) : mthM m a b = .ofVal fun env => (a.opd env).bind fun r => (r.1.get r.2).bind fun x0 => if isLst x0 then (b.opd r.2).bind fun t => (r.1.get t.2).bind fun x => (t.1.get t.2).bind fun y => (mthD m x y).map fun z => (z, t.2) else none := (rfl)
@[simp] theorem isLst_l (xs : List D) : isLst (.list xs) = true := (rfl)
@[simp] theorem partM_0 : partM [] env = some (none, env) := (rfl)
@[simp] theorem partM_1 (a : M) : partM [a] env = (a.opd env).bind fun t => (t.1.get t.2).bind fun d => match d with
    | .int i => some (some i, t.2)
    | _ => none := (rfl)
@[simp] theorem slcM_eq (a : M) (lo hi : List M) : slcM a lo hi = .ofVal fun env => (a.opd env).bind fun t => (partM lo t.2).bind fun u => (partM hi u.2).bind fun v => (t.1.get v.2).bind fun x => (slcD x u.1 v.1).map fun r => (r, v.2) := (rfl)
@[simp] theorem callM_eq (f : Nat) (es : List M) : callM P f es = .ofVal fun env => (argsM es env).bind fun t => (retOf P f (t.1.map .v)).map fun r => (r, t.2) := (rfl)
@[simp] theorem callSM_val (f i : Nat) (ns : List Int) (h : env[i]? = some (.sc ns)) : (callSM P f i).val env = (retOf P f [.sc ns]).map fun r => (r, env) := by
  show (match env[i]? with | some (.sc ns) => (retOf P f [.sc ns]).map fun r => (r, env) | _ => none) = _
  rw [h]
@[simp] theorem varM_val (i : Nat) : (varM i).val env = match env[i]? with
    | some (.v d) => some (.v d, env)
    | some (.l xs) => some (.v (.list xs), env.set i (.v (.list xs)))
    | _ => none := (rfl)
@[simp] theorem varM_opd (i : Nat) : (varM i).opd env = match env[i]? with
    | some (.v d) => some (.d d, env)
    | some (.l _) => some (.s i, env)
    | _ => none := (rfl)
@[simp] theorem varM_tst (i : Nat) : (varM i).tst env = trM (varM i).opd env := (rfl)
@[simp] theorem get_d (x : D) : (Opd.d x).get env = some x := (rfl)
@[simp] theorem get_s (i : Nat) : (Opd.s i).get env = (env[i]?).bind Sl.rd := (rfl)
@[simp] theorem rd_v (x : D) : (Sl.v x).rd = some x := (rfl)
@[simp] theorem rd_l (x : List D) : (Sl.l x).rd = some (.list x) := (rfl)
@[simp] theorem frz_v (x : D) : (Sl.v x).frz = some x := (rfl)
@[simp] theorem frz_l (x : List D) : (Sl.l x).frz = some (.list x) := (rfl)
@[simp] theorem bOf_v (b : Bool) : bOf (.v (.bool b)) = some b := (rfl)
@[simp] theorem b2s_eq (b : Bool) : b2s b = some (.v (.bool b)) := (rfl)
@[simp] theorem setS_v (i : Nat) (s : Sl) (d : D) (h : env[i]? = some (.v d)) : setS i s env = some (env.set i s) := by unfold setS; rw [h]
@[simp] theorem setS_l (i : Nat) (s : Sl) (d : List D) (h : env[i]? = some (.l d)) : setS i s env = some (env.set i s) := by unfold setS; rw [h]
@[simp] theorem setS_no (i : Nat) (s : Sl) (h : env[i]? = some .no) : setS i s env = some (env.set i s) := by unfold setS; rw [h]
@[simp] theorem asgT_nm (i : Nat) (d : D) : asgT (.nm i) d env = setS i (.v d) env := by simp only [asgT]
@[simp] theorem asgT_tp (ts : List T) (ds : List D) : asgT (.tp ts) (.tuple ds) env = asgTs ts ds env := by simp only [asgT]
@[simp] theorem asgTs_nil : asgTs [] [] env = some env := by simp only [asgTs]
@[simp] theorem asgTs_cons (t : T) (ts : List T) (d : D) (ds : List D) : asgTs (t :: ts) (d :: ds) env = (asgT t d env).bind (asgTs ts ds) := by simp only [asgTs]
@[simp] theorem wipeE_nil : wipeE env [] = env := (rfl)
@[simp] theorem wipeE_cons (v : Nat) (vs : List Nat) : wipeE env (v :: vs) = (wipeE env vs).set v .no := (rfl)
@[simp] theorem ex_asg (i : Nat) (e : E) : ex P (.asg (.nm i) e) env = ((ev P e).val env).bind fun r => (setS i r.1 r.2).map .nx := by simp only [ex]
@[simp] theorem ex_unp (ts : List T) (e : E) : ex P (.asg (.tp ts) e) env = (frzM (ev P e).val env).bind fun r => (asgT (.tp ts) r.1 r.2).map .nx := by simp only [ex]
@[simp] theorem ex_seti (x : Nat) (i e : E) : ex P (.seti x i e) env = (frzM (ev P e).val env).bind fun r => if isL r.2[x]? then ((ev P i).opd r.2).bind fun t => (t.1.get t.2).bind fun k => setiS x k r.1 t.2 else none := by simp only [ex]
@[simp] theorem ex_aug (i : Nat) (op : Operator) (e : E) (a : D) (h : env[i]? = some (.v a)) : ex P (.aug i op e) env = (frzM (ev P e).val env).bind fun r => (augD op a r.1).bind fun s => (setS i s r.2).map .nx := by simp only [ex, h]
@[simp] theorem ex_app (x : Nat) (e : E) : ex P (.app x e) env = if isL env[x]? then (frzM (ev P e).val env).bind fun r => appS x r.1 r.2 else none := by simp only [ex]
@[simp] theorem ex_ext (x : Nat) (e : E) : ex P (.ext x e) env = if isL env[x]? then (frzM (ev P e).val env).bind fun r => extS x r.1 r.2 else none := by simp only [ex]
@[simp] theorem ex_expr (e : E) : ex P (.expr e) env = ((ev P e).val env).map fun r => .nx r.2 := by simp only [ex]
@[simp] theorem ex_ret (e : E) : ex P (.ret e) env = ((ev P e).val env).map fun r => .rt r.1 r.2 := by simp only [ex]
@[simp] theorem ex_ife (c : E) (a b : List C) : ex P (.ife c a b) env = ((ev P c).tst env).bind fun r => if r.1 then exs P a r.2 else exs P b r.2 := by simp only [ex]
@[simp] theorem ex_wh (c : E) (b : List C) : ex P (.wh c b) env = whC (ev P c).tst (exs P b) env := by simp only [ex]
@[simp] theorem ex_fr (t : T) (k : IK) (its : List E) (b : List C) : ex P (.fr t k its b) env = (opsM ((evs P its).map frO) env).bind fun r => (gets r.2 r.1).bind fun ds => (itemsOf k ds).bind fun xs => frL t (exs P b) xs r.2 := by simp only [ex]
@[simp] theorem ex_brk : ex P .brk env = some (.bk env) := by simp only [ex]
@[simp] theorem ex_cont : ex P .cont env = some (.ct env) := by simp only [ex]
@[simp] theorem ex_pass : ex P .pass env = some (.nx env) := by simp only [ex]
/-- what follows a statement -/
noncomputable def thenO (P : Ph) (cs : List C) : Out → Option Out
  | .nx e1 => exs P cs e1
  | .rt s e1 => some (.rt s e1)
  | .bk e1 => some (.bk e1)
  | .ct e1 => some (.ct e1)
@[simp] theorem thenO_nx (cs : List C) (e : En) : thenO P cs (.nx e) = exs P cs e := (rfl)
@[simp] theorem thenO_rt (cs : List C) (s : Sl) (e : En) : thenO P cs (.rt s e) = some (.rt s e) := (rfl)
@[simp] theorem thenO_bk (cs : List C) (e : En) : thenO P cs (.bk e) = some (.bk e) := (rfl)
@[simp] theorem thenO_ct (cs : List C) (e : En) : thenO P cs (.ct e) = some (.ct e) := (rfl)
@[simp] theorem exs_nil : exs P [] env = some (.nx env) := by simp only [exs]
@[simp] theorem exs_cons (c : C) (cs : List C) : exs P (c :: cs) env = (ex P c env).bind (thenO P cs) := by
  simp only [exs]; congr 1
@[simp] theorem frO_opd (m : M) : (frO m).opd env = (frzM m.val env).map fun r => (.d r.1, r.2) := (rfl)
end
/-! loops -/
theorem whN_mono {c : En → Option (Bool × En)} {b : En → Option Out} : ∀ {n m : Nat} {env : En} {o : Out}, whN c b n env = some o → n ≤ m → whN c b m env = some o
  | 0, _, _, _, h, _ => by cases h
  | n + 1, 0, _, _, _, l => by omega
  | n + 1, m + 1, env, o, h, l => by
    simp only [whN, Option.bind_eq_some_iff] at h ⊢
    obtain ⟨⟨k, e1⟩, h1, h2⟩ := h
    refine ⟨(k, e1), h1, ?_⟩
    cases k with
    | false => exact h2
    | true =>
      simp only [if_true] at h2 ⊢
      simp only [Option.bind_eq_some_iff] at h2 ⊢
      obtain ⟨r, h3, h4⟩ := h2
      refine ⟨r, h3, ?_⟩
      cases r with
      | nx e2 => exact whN_mono h4 (by omega)
      | ct e2 => exact whN_mono h4 (by omega)
      | bk e2 => exact h4
      | rt s e2 => exact h4
theorem whC_of {c : En → Option (Bool × En)} {b : En → Option Out} {n : Nat} {env : En} {o : Out} (h : whN c b n env = some o) : whC c b env = some o := by
  have hh : ∃ n r, whN c b n env = some r := ⟨n, o, h⟩
  unfold whC
  rw [dif_pos hh]
  have h2 := hh.choose_spec.choose_spec
  have h3 := whN_mono h (Nat.le_max_left n hh.choose)
  have h4 := whN_mono h2 (Nat.le_max_right n hh.choose)
  rw [h3] at h4
  exact h4.symm
theorem whC_end {c : En → Option (Bool × En)} {b : En → Option Out} {env e1 : En} (h : c env = some (false, e1)) : whC c b env = some (.nx e1) :=
  whC_of (n := 1) (by simp [whN, h])
theorem whC_step {c : En → Option (Bool × En)} {b : En → Option Out} {env e1 e2 : En} {o : Out} (h : c env = some (true, e1)) (hb : b e1 = some (.nx e2)) (r : whC c b e2 = some o) : whC c b env = some o := by
  obtain ⟨n, hn⟩ := whC_some r
  exact whC_of (n := n + 1) (by simp [whN, h, hb, hn])
theorem whC_ret {c : En → Option (Bool × En)} {b : En → Option Out} {env e1 e2 : En} {s : Sl} (h : c env = some (true, e1)) (hb : b e1 = some (.rt s e2)) : whC c b env = some (.rt s e2) :=
  whC_of (n := 1) (by simp [whN, h, hb])
/-- calls -/
theorem call_user {es : List Entry} {d j : Nat} {i : FnI} (h : es[j]? = some (.user i)) (as : List Sl) : callN (tbOf es) (d + 1) j as = runB (callN (tbOf es) d) i.b i.ps.length i.N.length i.body as := by
  simp only [callN, tbOf, h, Option.map_some, Entry.fn]
theorem call_prim {es : List Entry} {d j m : Nat} {g : List Sl → Option (Sl × List Sl)} (h : es[j]? = some (.prim m g)) (hm : m ≤ d) (as : List Sl) : callN (tbOf es) (d + 1) j as = g as := by
  simp only [callN, tbOf, h, Option.map_some, Entry.fn, if_pos hm]
/-- a function's answer, by its body's outcome -/
theorem ret_user {es : List Entry} {d j : Nat} {i : FnI} {as : List Sl} {s : Sl} {e : En} (h : es[j]? = some (.user i)) (hl : as.length = i.ps.length) (hb : hasBx as = i.b) (hx : exs (callN (tbOf es) d) i.body (as ++ List.replicate (i.N.length - i.ps.length) .no) = some (.rt s e)) : retOf (callN (tbOf es) (d + 1)) j as = some s := by
  unfold retOf
  rw [call_user h]
  unfold runB
  rw [if_pos ⟨hl, hb⟩, hx]
  rfl
theorem retB_user {es : List Entry} {d j : Nat} {i : FnI} {as : List Sl} {s b : Sl} {e : En} (h : es[j]? = some (.user i)) (hl : as.length = i.ps.length) (hb : hasBx as = i.b) (hx : exs (callN (tbOf es) d) i.body (as ++ List.replicate (i.N.length - i.ps.length) .no) = some (.rt s (b :: e))) : retB (callN (tbOf es) (d + 1)) j as = some (s, b) := by
  unfold retB
  rw [call_user h]
  unfold runB
  rw [if_pos ⟨hl, hb⟩, hx]
  rfl
end Mini

namespace Mini
open PySem PySem.Spec L2
section
theorem setS_ok {env : En} {i : Nat} {s : Sl} (h : ∃ t, env[i]? = some t ∧ t.isBx = false) : setS i s env = some (env.set i s) := by
  obtain ⟨t, h1, h2⟩ := h
  unfold setS; rw [h1]
  cases t <;> first | rfl | cases h2
theorem setS_t (env : En) (i : Nat) (s t : Sl) (h : env[i]? = some t) (h2 : t.isBx = false) : setS i s env = some (env.set i s) := setS_ok ⟨t, h, h2⟩
@[simp] theorem binD_add (x y : Int) : binD .Add (.int x) (.int y) = some (.v (.int (x + y))) := (rfl)
@[simp] theorem binD_sub (x y : Int) : binD .Sub (.int x) (.int y) = some (.v (.int (x - y))) := (rfl)
@[simp] theorem binD_mod (x y : Int) (h : 0 < y) : binD .Mod (.int x) (.int y) = some (.v (.int (x % y))) := by simp [binD, h]
@[simp] theorem binD_mul (x y : Int) (h : mulOk x y) : binD .Mult (.int x) (.int y) = some (.v (.int (x * y))) := by simp [binD, h]
@[simp] theorem binD_div (x y : Int) (h : divOk y) : binD .FloorDiv (.int x) (.int y) = some (.v (.int (x / y))) := by simp [binD, h]
@[simp] theorem negD_int (x : Int) : negD (.int x) = some (.v (.int (-x))) := (rfl)
@[simp] theorem truth_int (x : Int) : truth (.int x) = some (x != 0) := (rfl)
@[simp] theorem truth_bool (x : Bool) : truth (.bool x) = some x := (rfl)
@[simp] theorem isn_eq (ng : Bool) (d : D) : isnD ng d = some (.v (.bool (match d with | .none => !ng | _ => ng))) := by cases d <;> rfl
@[simp] theorem cmp_lt (x y : Int) : cmpD .Lt (.int x) (.int y) = some (.v (.bool (decide (x < y)))) := (rfl)
@[simp] theorem cmp_gt (x y : Int) : cmpD .Gt (.int x) (.int y) = some (.v (.bool (decide (y < x)))) := (rfl)
@[simp] theorem cmp_le (x y : Int) : cmpD .LtE (.int x) (.int y) = some (.v (.bool (decide (x ≤ y)))) := (rfl)
@[simp] theorem cmp_ge (x y : Int) : cmpD .GtE (.int x) (.int y) = some (.v (.bool (decide (y ≤ x)))) := (rfl)
@[simp] theorem shaped_int (x : Int) : SeqAt.shaped (.int x) = true := (rfl)
@[simp] theorem shaped_bool (x : Bool) : SeqAt.shaped (.bool x) = true := (rfl)
@[simp] theorem cmp_eq (x y : Int) : cmpD .Eq (.int x) (.int y) = some (.v (.bool (decide (x = y)))) := by simp [cmpD, PyData.eqv]; rfl
@[simp] theorem cmp_ne (x y : Int) : cmpD .NotEq (.int x) (.int y) = some (.v (.bool (!decide (x = y)))) := by simp [cmpD, PyData.eqv]; rfl
@[simp] theorem cmp_eqb (x y : Bool) : cmpD .Eq (.bool x) (.bool y) = some (.v (.bool (x == y))) := by simp [cmpD, PyData.eqv]
@[simp] theorem abs_int (x : Int) : bltD .abs [.int x] = some (.v (.int x.natAbs)) := by
  have : (if x < 0 then -x else x) = (x.natAbs : Int) := by split <;> omega
  simp [bltD, this]
@[simp] theorem len_t (xs : List D) : bltD .len [.tuple xs] = some (.v (.int xs.length)) := (rfl)
@[simp] theorem len_l (xs : List D) : bltD .len [.list xs] = some (.v (.int xs.length)) := (rfl)
@[simp] theorem isBx_v (x : D) : (Sl.v x).isBx = false := (rfl)
@[simp] theorem isBx_no : (Sl.no).isBx = false := (rfl)
@[simp] theorem isBx_l (xs : List D) : (Sl.l xs).isBx = false := (rfl)
def Sm (x : Int) : Prop := x.natAbs < 2 ^ 4000
theorem Sm.log {x : Int} (h : Sm x) : x.natAbs.log2 < 4001 := by
  by_cases z : x.natAbs = 0
  · rw [z]; decide
  · rw [Nat.log2_lt z]; exact Nat.lt_of_lt_of_le h (Nat.pow_le_pow_right (by decide) (by decide))
theorem Sm.mul {x y : Int} (h : Sm x) (k : Sm y) : mulOk x y := .inl (by have := h.log; have := k.log; omega)
theorem Sm.div {x : Int} (h : Sm x) (p : 0 < x) : divOk x := ⟨p, by have := h.log; omega⟩
theorem Sm.le {x y : Int} (h : Sm x) (k : y.natAbs ≤ x.natAbs) : Sm y := Nat.lt_of_le_of_lt k h
@[simp] theorem idx_t (xs : List D) (i : Int) : idxD (.tuple xs) (.int i) = (atI xs i).map .v := (rfl)
@[simp] theorem idx_l (xs : List D) (i : Int) : idxD (.list xs) (.int i) = (atI xs i).map .v := (rfl)
theorem at0 (a : D) (xs : List D) : atI (a :: xs) 0 = some a := by simp [atI, ixN]
theorem at1 (a b : D) (xs : List D) : atI (a :: b :: xs) 1 = some b := by
  have : (1 : Int) < (xs.length : Int) + 1 + 1 := by omega
  simp [atI, ixN, this]
@[simp] theorem at0s (a : D) (xs : List D) : atI (a :: xs) 0 = some a := at0 a xs
@[simp] theorem at1s (a b : D) (xs : List D) : atI (a :: b :: xs) 1 = some b := at1 a b xs
theorem sm_of {x : Int} {n : Nat} (h : x.natAbs < 2 ^ n) (l : n ≤ 4000) : Sm x := Nat.lt_of_lt_of_le h (Nat.pow_le_pow_right (by decide) l)
theorem bd_mul {x y : Int} {m n : Nat} (h : x.natAbs < 2 ^ m) (k : y.natAbs < 2 ^ n) : (x * y).natAbs < 2 ^ (m + n) := by
  rw [Int.natAbs_mul, Nat.pow_add]
  exact Nat.mul_lt_mul'' h k
theorem bd_add {x y : Int} {n : Nat} (h : x.natAbs < 2 ^ n) (k : y.natAbs < 2 ^ n) : (x + y).natAbs < 2 ^ (n + 1) := by
  have := Int.natAbs_add_le x y
  rw [Nat.pow_succ]; omega
theorem bd_neg {x : Int} {n : Nat} (h : x.natAbs < 2 ^ n) : (-x).natAbs < 2 ^ n := by simpa using h
theorem bd_le {x : Int} {m n : Nat} (h : x.natAbs < 2 ^ n) (l : n ≤ m) : x.natAbs < 2 ^ m := Nat.lt_of_lt_of_le h (Nat.pow_le_pow_right (by decide) l)
@[simp] theorem gets_pair (env : En) (x y : D) : gets env [.d x, .d y] = some [x, y] := (rfl)
open Classical in
@[simp] theorem lcM_val (t : T) (k : IK) (its cond : List M) (elt : M) (own : List Nat) (env : En) : (lcM t k its cond elt own).val env = (opsM its env).bind fun r => (gets r.2 r.1).bind fun ds => (itemsOf k ds).bind fun xs =>
  if stillB r.2 (wipeE r.2 own) r.1 then (lcLoop t cond elt own r.1 r.2 xs (wipeE r.2 own)).map fun u => (.l u.1, restE r.2 u.2 own) else none := by
  unfold lcM
  rfl
@[simp] theorem lcM_opd (t : T) (k : IK) (its cond : List M) (elt : M) (own : List Nat) (env : En) : (lcM t k its cond elt own).opd env = (frzM (lcM t k its cond elt own).val env).map fun r => (.d r.1, r.2) := (rfl)
@[simp] theorem stillB_nil (e0 e1 : En) : stillB e0 e1 [] = True := (rfl)
@[simp] theorem stillB_d (e0 e1 : En) (d : D) (r : List Opd) : stillB e0 e1 (.d d :: r) = stillB e0 e1 r := (rfl)
@[simp] theorem stillB_s (e0 e1 : En) (i : Nat) (r : List Opd) : stillB e0 e1 (.s i :: r) = (e1[i]? = e0[i]? ∧ stillB e0 e1 r) := (rfl)
@[simp] theorem condM_0 (env : En) : condM [] env = some (true, env) := (rfl)
@[simp] theorem condM_1 (c : M) (env : En) : condM [c] env = c.tst env := (rfl)
section
variable (t : T) (cond : List M) (elt : M) (own : List Nat) (ps : List Opd) (e0 env : En)
@[simp] theorem lcLoop_nil : lcLoop t cond elt own ps e0 [] env = some ([], env) := by unfold lcLoop; rfl
open Classical in
@[simp] theorem lcLoop_cons (x : D) (xs : List D) : lcLoop t cond elt own ps e0 (x :: xs) env = (asgT t x env).bind fun e1 => (condM cond e1).bind fun r =>
      if r.1 then (frzM elt.val r.2).bind fun u => if stillB e0 (wipeE u.2 own) ps then (lcLoop t cond elt own ps e0 xs (wipeE u.2 own)).map fun v => (u.1 :: v.1, v.2) else none
      else if stillB e0 (wipeE r.2 own) ps then lcLoop t cond elt own ps e0 xs (wipeE r.2 own) else none := by
  rw [lcLoop]
end
@[simp] theorem restE_nil (e1 e2 : En) : restE e1 e2 [] = e2 := (rfl)
theorem restE_no (e1 e2 : En) (i : Nat) (r : List Nat) (h : e1[i]? = some .no) : restE e1 e2 (i :: r) = restE e1 e2 r := by
  simp only [restE, h]
theorem restE_v (e1 e2 : En) (i : Nat) (r : List Nat) (d : D) (h : e1[i]? = some (.v d)) : restE e1 e2 (i :: r) = (restE e1 e2 r).set i (.v d) := by
  simp only [restE, h]
@[simp] theorem items_t (xs : List D) : itemsOf .seq [.tuple xs] = some xs := (rfl)
@[simp] theorem items_l (xs : List D) : itemsOf .seq [.list xs] = some xs := (rfl)
theorem items_r (n : Nat) (h : n ≤ 1000) : itemsOf .rng [.int n] = some (rngL 0 n) := by
  have h1 : rngOk n := by unfold rngOk; omega
  have h2 : (n : Int) ≤ (sizeLine : Nat) := by unfold sizeLine; omega
  simp [itemsOf, h1, h2]
@[simp] theorem all_l (xs : List D) : bltD .all [.list xs] = (boolsL xs).map fun bs => .v (.bool (bs.all id)) := (rfl)
@[simp] theorem boolsL_nil : boolsL [] = some [] := (rfl)
@[simp] theorem boolsL_cons (b : Bool) (r : List D) : boolsL (.bool b :: r) = (boolsL r).map (b :: ·) := (rfl)
@[simp] theorem isB_bx (cs rs : List Int) : isB (some (.bx cs rs)) = true := (rfl)
@[simp] theorem isL_l (xs : List D) : isL (some (.l xs)) = true := (rfl)
@[simp] theorem callBM_val (P : Ph) (f i : Nat) (es : List M) (env : En) : (callBM P f i es).val env = if isB env[i]? then (argsM es env).bind fun t => match t.2[i]? with
  | some (.bx cs rs) => (retB P f (.bx cs rs :: t.1.map .v)).bind fun u => match u.2 with
    | .bx cs2 rs2 => some (u.1, t.2.set i (.bx cs2 rs2))
    | _ => none
  | _ => none else none := (rfl)
@[simp] theorem callBM_opd (P : Ph) (f i : Nat) (es : List M) (env : En) : (callBM P f i es).opd env = (frzM (callBM P f i es).val env).map fun r => (.d r.1, r.2) := (rfl)
theorem frL_inv {t : T} {b : En → Option Out} (J : List D → En → Prop) (step : ∀ x xs env, J (x :: xs) env → ∃ e1 e2, asgT t x env = some e1 ∧ b e1 = some (.nx e2) ∧ J xs e2) : ∀ xs env, J xs env → ∃ e, frL t b xs env = some (.nx e) ∧ J [] e
  | [], env, h => ⟨env, rfl, h⟩
  | x :: xs, env, h => by
    obtain ⟨e1, e2, h1, h2, h3⟩ := step x xs env h
    obtain ⟨e, h4, h5⟩ := frL_inv J step xs e2 h3
    exact ⟨e, by simp only [frL, h1, h2, Option.bind_some, h4], h5⟩
theorem app_ok (i : Nat) (xs : List D) (d : D) (env : En) (h : env[i]? = some (.l xs)) (hl : xs.length < 1000) : appS i d env = some (.nx (env.set i (.l (xs ++ [d])))) := by
  unfold appS
  rw [h]
  simp only []
  rw [if_pos (by unfold sizeLine; omega)]
@[simp] theorem at_last (xs : List D) (d : D) : atI (xs ++ [d]) (-1) = some d := by
  have : (-((xs.length : Int) + 1) ≤ -1) := by omega
  have h2 : ((-1 : Int) + ((xs.length : Int) + 1)).toNat = xs.length := by omega
  simp [atI, ixN, this, h2]
end
end Mini

namespace Mini
open PySem PySem.Spec L2
/-! a law's end -/
/-- the law's promise: True for each script of at most 63 ints -/
def spLaw (K : PySem.W.Frag) : Sp := fun vs H Q _ => ∃ (a : Addr) (ns : List Int), vs = [.ref a] ∧ ScL K H a (ns.map V.int) ∧ ns.length ≤ 63 ∧ ∀ H', Q (.bl true) H'
theorem spLaw_of {K : PySem.W.Frag} {H : Hp} {a : Addr} {ns : List Int} (hl : ns.length ≤ 63) (o : Only H) (h : SqL K H a (ns.map V.int)) : spLaw K [.ref a] H (fun v _ => v = .bl true) fun _ _ _ => False := by
  refine ⟨a, ns, rfl, ?_, hl, fun _ => rfl⟩
  rcases h with (h | h) | h
  · rcases o a with z | ⟨ob, xs, z⟩
    · rw [z] at h; cases h
    · rw [z] at h; cases h
  · exact .inl h
  · exact .inr h
theorem law_imp {Pr : Program} {w : World} {K : PySem.W.Frag} {mg : Str → Option Value} {base : Heap} {lev : Nat} {f : Addr} {fd : FuncData} {ps : List Str} {P : Ph} {j : Nat} (F : FnOk Pr w K mg base CX0 lev f fd ps (spF K P j))
    (h : ∀ ns : List Int, ns.length ≤ 63 → retOf P j [.sc ns] = some (.v (.bool true))) : FnOk Pr w K mg base CX0 lev f fd ps (spLaw K) := by
  refine F.imp fun vs H Q E ⟨a, ns, e, hs, hl, q⟩ => ?_
  subst e
  have hh := h ns hl
  unfold retOf at hh
  simp only [Option.map_eq_some_iff] at hh
  obtain ⟨⟨r, as'⟩, h1, h2⟩ := hh
  have h2 : r = .v (.bool true) := h2
  subst h2
  have wa : W K (fun _ => False) H [.sc ns] ([V.ref a].map some) := by
    refine ⟨fun b z => z.elim, rfl, fun i s z => ?_, fun i j s t v u b n z1 z2 z3 z4 f1 f2 => ?_⟩
    · match i, z with
      | 0, z => have e : s = .sc ns := by simpa using z.symm
                subst e; exact .inr ⟨.ref a, rfl, a, rfl, hs⟩
      | i + 1, z => simp at z
    · match i, z1 with
      | 0, z1 => have e : s = .sc ns := by simpa using z1.symm
                 subst e; exact f1
      | i + 1, z1 => simp at z1
  refine ⟨fun _ => False, [.sc ns], _, as', wa, h1, fun O' H' v st wr => ?_⟩
  have e : v = .bl true := by simpa only [RepS, RepD] using wr.val
  subst e
  exact q H'
/-- constants of the top -/
def GVal (d : D) (u : Value) : Prop := match d with
  | .int i => ∃ t, u = .int i t
  | .str s => ∃ t, u = .str s t
  | .bool b => u = .bool b
  | .none => u = .none
  | _ => False
theorem gl_val {K : PySem.W.Frag} {mg : Str → Option Value} {x : Str} {d : D} {u : Value} (h : mg x = some u) (g : GVal d u) : ∃ v u, mg x = some u ∧ RelV v u ∧ ∀ (O : Own) (H : Hp), RepD K O H d v := by
  cases d with
  | int i => exact ⟨.int i, u, h, g, fun _ _ => by simp only [RepD]⟩
  | str i => exact ⟨.str i, u, h, g, fun _ _ => by simp only [RepD]⟩
  | bool i => exact ⟨.bl i, u, h, g, fun _ _ => by simp only [RepD]⟩
  | none => exact ⟨.non, u, h, g, fun _ _ => by simp only [RepD]⟩
  | _ => exact g.elim
def GVals : List D → List Value → Prop
  | [], us => us = []
  | d :: ds, us => ∃ u r, us = u :: r ∧ GVal d u ∧ GVals ds r
def GTup (K : PySem.W.Frag) (d : D) (us : List Value) : Prop := match d with
  | .tuple ds => us.length ≤ sizeLine ∧ GVals ds us
  | _ => False
theorem gvals_of {K : PySem.W.Frag} : ∀ {ds : List D} {us : List Value}, GVals ds us → ∃ vs, Vals vs us ∧ ∀ (O : Own) (H : Hp), RepDs K O H ds vs
  | [], us, h => by
    have h : us = [] := h
    subst h
    exact ⟨[], .nil, fun _ _ => by simp only [RepDs]⟩
  | d :: ds, us, h => by
    obtain ⟨u, r, rfl, h1, h2⟩ := h
    obtain ⟨v, u', e, hv, hr⟩ := gl_val (K := K) (mg := fun _ => some u) (x := "a") rfl h1
    cases e
    obtain ⟨vs, h3, h4⟩ := gvals_of (K := K) h2
    exact ⟨v :: vs, .cons hv h3, fun O H => by simp only [RepDs]; exact ⟨v, vs, rfl, hr O H, h4 O H⟩⟩
theorem gl_tuple {K : PySem.W.Frag} {mg : Str → Option Value} {x : Str} {d : D} {z : Addr} {dd : Option Addr} {its : Array Value} {n : Nat} {sl : Array (Option Value)} (h : mg x = some (.ref z)) (l : K.lookup z = some ⟨.type "tuple", dd, .seq its n, sl⟩) (g : GTup K d its.toList) : ∃ v u, mg x = some u ∧ RelV v u ∧ ∀ (O : Own) (H : Hp), RepD K O H d v := by
  cases d with
  | tuple ds =>
    obtain ⟨g1, g2⟩ := g
    obtain ⟨vs, h3, h4⟩ := gvals_of (K := K) g2
    refine ⟨.ref z, .ref z, h, rfl, fun O H => ?_⟩
    simp only [RepD]
    exact ⟨z, vs, rfl, .inr ⟨_, its, n, l, rfl, rfl, by simpa using g1, h3⟩, h4 O H⟩
  | _ => exact g.elim
theorem lookup_mem {α : Type} : ∀ {l : List (Str × α)} {x : Str} {d : α}, l.lookup x = some d → (x, d) ∈ l
  | [], x, d, h => by simp at h
  | (y, e) :: r, x, d, h => by
    rw [List.lookup_cons] at h
    split at h
    · rename_i hb
      cases h
      have : x = y := by simpa using hb
      subst this
      exact List.mem_cons_self
    · exact List.mem_cons_of_mem _ (lookup_mem h)
theorem gls_of {gl : List (Str × D)} {Q : Str → D → Prop} (h : ∀ p ∈ gl, Q p.1 p.2) (x : Str) (d : D) (e : gl.lookup x = some d) : Q x d := h (x, d) (lookup_mem e)
end Mini

namespace Mini
open PySem PySem.Spec L2
section
theorem gcd_step (a b : Nat) : Nat.gcd b (a % b) = Nat.gcd a b := by
  rw [Nat.gcd_comm b, ← Nat.gcd_rec b a, Nat.gcd_comm]
theorem gcd_w (P : Ph) : ∀ (n a b : Nat), b ≤ n → whC (ev P (.var 1)).tst (exs P [(.asg (.tp [(.nm 0), (.nm 1)]) (.tup [(.var 1), (.bin .Mod (.var 0) (.var 1))]))]) [.v (.int a), .v (.int b)] = some (.nx [.v (.int (Nat.gcd a b)), .v (.int 0)])
  | n, a, 0, l => by
    apply whC_end
    simp
  | 0, a, b + 1, l => by omega
  | n + 1, a, b + 1, l => by
    refine whC_step (e1 := [.v (.int a), .v (.int ((b + 1 : Nat) : Int))]) (e2 := [.v (.int ((b + 1 : Nat) : Int)), .v (.int ((a % (b + 1) : Nat) : Int))]) ?_ ?_ ?_
    · simp; omega
    · have : (0 : Int) < (b : Int) + 1 := by omega
      simp [this, sizeLine]
    · rw [gcd_w P n (b + 1) (a % (b + 1)) (by have : a % (b + 1) < b + 1 := Nat.mod_lt a (Nat.succ_pos b); omega), gcd_step]
def rp (p q : Int) : Int := (if q < 0 then -p else p) / (Int.gcd p q : Int)
def rq (p q : Int) : Int := (if q < 0 then -q else q) / (Int.gcd p q : Int)
theorem g_pos {p q : Int} (h : q ≠ 0) : 0 < (Int.gcd p q : Int) := by
  have := Int.gcd_pos_of_ne_zero_right p h
  omega
theorem g_div {p q : Int} (h : q ≠ 0) (s : Sm q) : divOk (Int.gcd p q : Int) := by
  refine Sm.div (s.le ?_) (g_pos h)
  have := Nat.le_of_dvd (by omega) (Int.gcd_dvd_natAbs_right p q)
  simpa using this
theorem div_w (P : Ph) : ∀ (n a b : Nat), b ≤ n → Sm a → Sm b → whC (ev P (.cmp .NotEq (.var 1) (.cst (.int 0)))).tst (exs P [(.asg (.tp [(.nm 0), (.nm 1)]) (.tup [(.var 1), (.bin .Sub (.var 0) (.bin .Mult (.bin .FloorDiv (.var 0) (.var 1)) (.var 1)))]))]) [.v (.int a), .v (.int b)] = some (.nx [.v (.int (Nat.gcd a b)), .v (.int 0)])
  | n, a, 0, l, _, _ => by
    apply whC_end
    simp
  | 0, a, b + 1, l, _, _ => by omega
  | n + 1, a, b + 1, l, sa, sb => by
    have hm : ((a : Int) - (a : Int) / ((b : Int) + 1) * ((b : Int) + 1)) = ((a % (b + 1) : Nat) : Int) := by
      have := Int.emod_def (a : Int) ((b : Int) + 1)
      rw [Int.mul_comm] at this
      rw [← this]; rfl
    have lt : a % (b + 1) < b + 1 := Nat.mod_lt a (Nat.succ_pos b)
    have hd : divOk ((b : Int) + 1) := sb.div (by omega)
    have hp : mulOk ((a : Int) / ((b : Int) + 1)) ((b : Int) + 1) := by
      refine Sm.mul (sa.le ?_) sb
      have : (a : Int) / ((b : Int) + 1) = ((a / (b + 1) : Nat) : Int) := rfl
      rw [this, Int.natAbs_natCast, Int.natAbs_natCast]
      exact Nat.div_le_self _ _
    refine whC_step (e1 := [.v (.int a), .v (.int ((b + 1 : Nat) : Int))]) (e2 := [.v (.int ((b + 1 : Nat) : Int)), .v (.int ((a % (b + 1) : Nat) : Int))]) ?_ ?_ ?_
    · simp; omega
    · simp [sizeLine, hd, hp, hm]
    · rw [div_w P n (b + 1) (a % (b + 1)) (by omega) sb (sb.le (by rw [Int.natAbs_natCast, Int.natAbs_natCast]; omega)), gcd_step]
structure Rat2 (x y : Int) (n : Nat) : Prop where
  p : x.natAbs < 2 ^ n
  q : y.natAbs < 2 ^ n
  pos : 0 < y
theorem rr {p q : Int} {n : Nat} (hp : p.natAbs < 2 ^ n) (hq : q.natAbs < 2 ^ n) (h : q ≠ 0) : Rat2 (rp p q) (rq p q) n := by
  have g := g_pos (p := p) h
  have gn : 0 < Int.gcd p q := by omega
  refine ⟨?_, ?_, ?_⟩
  · refine Nat.lt_of_le_of_lt ?_ hp
    unfold rp
    have := Int.natAbs_ediv_le_natAbs (if q < 0 then -p else p) (Int.gcd p q : Int)
    refine Nat.le_trans this ?_
    split <;> simp
  · refine Nat.lt_of_le_of_lt ?_ hq
    unfold rq
    have := Int.natAbs_ediv_le_natAbs (if q < 0 then -q else q) (Int.gcd p q : Int)
    refine Nat.le_trans this ?_
    split <;> simp
  · unfold rq
    apply Int.ediv_pos_of_pos_of_dvd (by split <;> omega) (by omega)
    split
    · exact Int.dvd_neg.mpr (Int.gcd_dvd_right p q)
    · exact Int.gcd_dvd_right p q
theorem plus_b {a b c d : Int} {m n : Nat} (h1 : Rat2 a b m) (h2 : Rat2 c d n) : Rat2 (rp (a * d + c * b) (b * d)) (rq (a * d + c * b) (b * d)) (m + n + 1) := by
  have s1 := bd_mul h1.q h2.q
  have s2 := bd_mul h1.p h2.q
  have s3 := bd_mul h2.p h1.q
  rw [Nat.add_comm] at s3
  have pp := Int.mul_pos h1.pos h2.pos
  exact rr (bd_add s2 s3) (bd_le s1 (by omega)) (by omega)
theorem Rat2.neg {c d : Int} {n : Nat} (h : Rat2 c d n) : Rat2 (-c) d n := ⟨bd_neg h.p, h.q, h.pos⟩
theorem rp_neg {p q : Int} (h : 0 < q) : (rp p q < 0) ↔ p < 0 := by
  have g := g_pos (p := p) (q := q) (by omega)
  unfold rp
  rw [if_neg (by omega)]
  exact ⟨fun z => by
    refine Int.not_le.mp fun l => ?_
    have := Int.ediv_nonneg l (Int.le_of_lt g)
    omega, fun z => Int.ediv_neg_of_neg_of_pos z g⟩
end
end Mini

namespace Mini
open PySem PySem.Spec L2
section
theorem rp_g {p q : Int} (h : 0 < q) : rp p q * (Int.gcd p q : Int) = p := by
  unfold rp
  rw [if_neg (by omega)]
  exact Int.ediv_mul_cancel (Int.gcd_dvd_left p q)
theorem rq_g {p q : Int} (h : 0 < q) : rq p q * (Int.gcd p q : Int) = q := by
  unfold rq
  rw [if_neg (by omega)]
  exact Int.ediv_mul_cancel (Int.gcd_dvd_right p q)
theorem rq_pos {p q : Int} (h : 0 < q) : 0 < rq p q := by
  have g := g_pos (p := p) (q := q) (by omega)
  have e := rq_g (p := p) h
  refine Int.not_le.mp fun l => ?_
  have := Int.mul_nonpos_of_nonpos_of_nonneg l (Int.le_of_lt g)
  omega
/-- cross products of what is reduced -/
theorem rat_cross {p q : Int} (h : 0 < q) : rp p q * q = p * rq p q := by
  have e1 := rp_g (p := p) h
  have e2 := rq_g (p := p) h
  calc rp p q * q = rp p q * (rq p q * (Int.gcd p q : Int)) := by rw [e2]
    _ = (rp p q * (Int.gcd p q : Int)) * rq p q := by ac_rfl
    _ = p * rq p q := by rw [e1]
theorem less_iff {a b c d : Int} (hb : 0 < b) (hd : 0 < d) : rp a b * rq c d < rp c d * rq a b ↔ a * d < c * b := by
  have e1 := rp_g (p := a) hb
  have e2 := rq_g (p := a) hb
  have e3 := rp_g (p := c) hd
  have e4 := rq_g (p := c) hd
  have g1 := g_pos (p := a) (q := b) (by omega)
  have g2 := g_pos (p := c) (q := d) (by omega)
  have gg := Int.mul_pos g1 g2
  have x1 : a * d = (rp a b * rq c d) * ((Int.gcd a b : Int) * (Int.gcd c d : Int)) := by
    calc a * d = (rp a b * (Int.gcd a b : Int)) * (rq c d * (Int.gcd c d : Int)) := by rw [e1, e4]
      _ = _ := by ac_rfl
  have x2 : c * b = (rp c d * rq a b) * ((Int.gcd a b : Int) * (Int.gcd c d : Int)) := by
    calc c * b = (rp c d * (Int.gcd c d : Int)) * (rq a b * (Int.gcd a b : Int)) := by rw [e3, e2]
      _ = _ := by ac_rfl
  rw [x1, x2]
  exact ⟨fun z => Int.mul_lt_mul_of_pos_right z gg, fun z => Int.lt_of_mul_lt_mul_right z (Int.le_of_lt gg)⟩
theorem gcd_red {p q : Int} (h : 0 < q) : Int.gcd (rp p q) (rq p q) = 1 := by
  unfold rp rq
  rw [if_neg (by omega), if_neg (by omega)]
  exact Int.gcd_ediv_gcd_ediv_gcd (by have := g_pos (p := p) (q := q) (by omega); omega)
theorem dvd_gcd1 {a b c : Int} (h : a ∣ b * c) (g : Int.gcd a b = 1) : a ∣ c := by
  rw [← Int.natAbs_dvd_natAbs] at h ⊢
  rw [Int.natAbs_mul] at h
  exact Nat.Coprime.dvd_of_dvd_mul_left (show Nat.gcd a.natAbs b.natAbs = 1 from g) h
/-- two reduced ratios with one value are one -/
theorem red_uniq {x y u v : Int} (hy : 0 < y) (hv : 0 < v) (g1 : Int.gcd x y = 1) (g2 : Int.gcd u v = 1) (e : x * v = u * y) : x = u ∧ y = v := by
  have d1 : y ∣ v := by
    have : y ∣ x * v := ⟨u, by rw [e, Int.mul_comm]⟩
    exact dvd_gcd1 this (by rw [Int.gcd_comm]; exact g1)
  have d2 : v ∣ y := by
    have : v ∣ u * y := ⟨x, by rw [← e, Int.mul_comm]⟩
    exact dvd_gcd1 this (by rw [Int.gcd_comm]; exact g2)
  have l1 := Int.le_of_dvd hv d1
  have l2 := Int.le_of_dvd hy d2
  have ev : y = v := by omega
  subst ev
  exact ⟨Int.eq_of_mul_eq_mul_right (by omega) e, rfl⟩
theorem rat_uniq {p q u v : Int} (hq : 0 < q) (hv : 0 < v) (e : p * v = u * q) : rp p q = rp u v ∧ rq p q = rq u v := by
  apply red_uniq (rq_pos hq) (rq_pos hv) (gcd_red hq) (gcd_red hv)
  have c1 := rat_cross (p := p) hq
  have c2 := rat_cross (p := u) hv
  have : (rp p q * rq u v) * (q * v) = (rp u v * rq p q) * (q * v) := by
    calc (rp p q * rq u v) * (q * v) = (rp p q * q) * (rq u v * v) := by ac_rfl
      _ = (p * rq p q) * (rq u v * v) := by rw [c1]
      _ = (p * v) * (rq p q * rq u v) := by ac_rfl
      _ = (u * q) * (rq p q * rq u v) := by rw [e]
      _ = (u * rq u v) * (rq p q * q) := by ac_rfl
      _ = (rp u v * v) * (rq p q * q) := by rw [c2]
      _ = (rp u v * rq p q) * (q * v) := by ac_rfl
  exact Int.eq_of_mul_eq_mul_right (Int.ne_of_gt (Int.mul_pos hq hv)) this
end
end Mini

namespace Mini
open PySem PySem.Spec L2
section
@[simp] theorem isi_none_int : isiD .none .int = false := rfl
@[simp] theorem isi_none_bool : isiD .none .bool = false := rfl
@[simp] theorem isi_none_tuple : isiD .none .tuple = false := rfl
@[simp] theorem isi_none_list : isiD .none .list = false := rfl
@[simp] theorem isi_none_str : isiD .none .str = false := rfl
@[simp] theorem isi_bool_int (b : Bool) : isiD (.bool b) .int = true := rfl
@[simp] theorem isi_bool_bool (b : Bool) : isiD (.bool b) .bool = true := rfl
@[simp] theorem isi_bool_tuple (b : Bool) : isiD (.bool b) .tuple = false := rfl
@[simp] theorem isi_bool_list (b : Bool) : isiD (.bool b) .list = false := rfl
@[simp] theorem isi_bool_str (b : Bool) : isiD (.bool b) .str = false := rfl
@[simp] theorem isi_int_int (b : Int) : isiD (.int b) .int = true := rfl
@[simp] theorem isi_int_bool (b : Int) : isiD (.int b) .bool = false := rfl
@[simp] theorem isi_int_tuple (b : Int) : isiD (.int b) .tuple = false := rfl
@[simp] theorem isi_int_list (b : Int) : isiD (.int b) .list = false := rfl
@[simp] theorem isi_int_str (b : Int) : isiD (.int b) .str = false := rfl
@[simp] theorem isi_str_int (b : Str) : isiD (.str b) .int = false := rfl
@[simp] theorem isi_str_bool (b : Str) : isiD (.str b) .bool = false := rfl
@[simp] theorem isi_str_tuple (b : Str) : isiD (.str b) .tuple = false := rfl
@[simp] theorem isi_str_list (b : Str) : isiD (.str b) .list = false := rfl
@[simp] theorem isi_str_str (b : Str) : isiD (.str b) .str = true := rfl
@[simp] theorem isi_tuple_int (b : List D) : isiD (.tuple b) .int = false := rfl
@[simp] theorem isi_tuple_bool (b : List D) : isiD (.tuple b) .bool = false := rfl
@[simp] theorem isi_tuple_tuple (b : List D) : isiD (.tuple b) .tuple = true := rfl
@[simp] theorem isi_tuple_list (b : List D) : isiD (.tuple b) .list = false := rfl
@[simp] theorem isi_tuple_str (b : List D) : isiD (.tuple b) .str = false := rfl
@[simp] theorem isi_list_int (b : List D) : isiD (.list b) .int = false := rfl
@[simp] theorem isi_list_bool (b : List D) : isiD (.list b) .bool = false := rfl
@[simp] theorem isi_list_tuple (b : List D) : isiD (.list b) .tuple = false := rfl
@[simp] theorem isi_list_list (b : List D) : isiD (.list b) .list = true := rfl
@[simp] theorem isi_list_str (b : List D) : isiD (.list b) .str = false := rfl
theorem cmp_eqs (x y : Str) (h : SeqAt.shaped (.str x) = true) (h2 : SeqAt.shaped (.str y) = true) : cmpD .Eq (.str x) (.str y) = some (.v (.bool (x == y))) := by
  show (if _ then b2s _ else none) = _
  rw [if_pos ⟨h, h2⟩]; rfl
/-- a comprehension whose parts leave the names as they are -/
theorem lc_gen {t : T} {cond : List M} {elt : M} {own : List Nat} {ps : List Opd} {e0 env : En} (f : D → D) (g : D → Bool) (hs : stillB e0 env ps) : ∀ (xs : List D),
    (∀ x ∈ xs, ∃ e1, asgT t x env = some e1 ∧ wipeE e1 own = env ∧ condM cond e1 = some (g x, e1) ∧ (g x = true → frzM elt.val e1 = some (f x, e1))) →
    lcLoop t cond elt own ps e0 xs env = some ((xs.filter g).map f, env)
  | [], h => by rw [lcLoop_nil]; rfl
  | x :: xs, h => by
    obtain ⟨e1, h1, h2, h3, h4⟩ := h x List.mem_cons_self
    have ih := lc_gen f g hs xs fun y hy => h y (List.mem_cons_of_mem _ hy)
    rw [lcLoop_cons, h1]
    simp only [Option.bind_some, h3]
    have hs' : stillB e0 (wipeE e1 own) ps := by rw [h2]; exact hs
    by_cases b : g x = true
    · simp only [b, if_true, h4 b, Option.bind_some, if_pos hs']
      rw [h2, ih]
      simp [b]
    · have b : g x = false := by simpa using b
      simp only [b, Bool.false_eq_true, if_false, if_pos hs']
      rw [h2, ih]
      simp [b]
/-- .. without a condition -/
theorem lc_map {t : T} {elt : M} {own : List Nat} {ps : List Opd} {e0 env : En} (f : D → D) (hs : stillB e0 env ps) (xs : List D)
    (h : ∀ x ∈ xs, ∃ e1, asgT t x env = some e1 ∧ wipeE e1 own = env ∧ frzM elt.val e1 = some (f x, e1)) :
    lcLoop t [] elt own ps e0 xs env = some (xs.map f, env) := by
  have := lc_gen (cond := []) f (fun _ => true) hs xs fun x hx => by
    obtain ⟨e1, h1, h2, h3⟩ := h x hx
    exact ⟨e1, h1, h2, rfl, fun _ => h3⟩
  rw [List.filter_eq_self.mpr (fun _ _ => rfl)] at this
  exact this
/-- .. whose parts change the names -/
theorem lc_inv {t : T} {cond : List M} {elt : M} {own : List Nat} {ps : List Opd} {e0 : En} (J : List D → List D → En → Prop)
    (step : ∀ x xs ys env, J (x :: xs) ys env → ∃ e1 e2, asgT t x env = some e1 ∧
      ((condM cond e1 = some (true, e2) ∧ ∃ d e3, frzM elt.val e2 = some (d, e3) ∧ stillB e0 (wipeE e3 own) ps ∧ J xs (ys ++ [d]) (wipeE e3 own)) ∨
       (condM cond e1 = some (false, e2) ∧ stillB e0 (wipeE e2 own) ps ∧ J xs ys (wipeE e2 own)))) :
    ∀ xs ys env, J xs ys env → ∃ zs e, lcLoop t cond elt own ps e0 xs env = some (zs, e) ∧ J [] (ys ++ zs) e
  | [], ys, env, h => ⟨[], env, by rw [lcLoop_nil], by simpa using h⟩
  | x :: xs, ys, env, h => by
    obtain ⟨e1, e2, h1, h2⟩ := step x xs ys env h
    rcases h2 with ⟨h2, d, e3, h3, h4, h5⟩ | ⟨h2, h4, h5⟩
    · obtain ⟨zs, e, h6, h7⟩ := lc_inv J step xs (ys ++ [d]) _ h5
      refine ⟨d :: zs, e, ?_, by simpa using h7⟩
      rw [lcLoop_cons, h1]
      simp only [Option.bind_some, h2, if_true, h3, if_pos h4, h6, Option.map_some]
    · obtain ⟨zs, e, h6, h7⟩ := lc_inv J step xs ys _ h5
      refine ⟨zs, e, ?_, h7⟩
      rw [lcLoop_cons, h1]
      simp only [Option.bind_some, h2, Bool.false_eq_true, if_false, if_pos h4, h6]
theorem lcM_of {t : T} {k : IK} {its cond : List M} {elt : M} {own : List Nat} {env e1 e2 : En} {ps : List Opd} {ds xs rs : List D} (h1 : opsM its env = some (ps, e1)) (h2 : gets e1 ps = some ds) (h3 : itemsOf k ds = some xs)
    (h4 : stillB e1 (wipeE e1 own) ps) (h5 : lcLoop t cond elt own ps e1 xs (wipeE e1 own) = some (rs, e2)) : (lcM t k its cond elt own).val env = some (.l rs, restE e1 e2 own) := by
  rw [lcM_val, h1, Option.bind_some, h2, Option.bind_some, h3, Option.bind_some, if_pos h4, h5, Option.map_some]
theorem fr_of {P : Ph} {t : T} {k : IK} {its : List E} {b : List C} {env e1 : En} {ps : List Opd} {ds xs : List D} (h1 : opsM ((evs P its).map frO) env = some (ps, e1)) (h2 : gets e1 ps = some ds) (h3 : itemsOf k ds = some xs) : ex P (.fr t k its b) env = frL t (exs P b) xs e1 := by
  rw [ex_fr, h1, Option.bind_some, h2, Option.bind_some, h3, Option.bind_some]
theorem frz_of {f : En → Option (Sl × En)} {env e1 : En} {s : Sl} {d : D} (h : f env = some (s, e1)) (h2 : s.frz = some d) : frzM f env = some (d, e1) := by
  rw [frzM_eq, h, Option.bind_some, h2, Option.map_some]
/-! the law's look at two values alike -/
def bSame (j : Nat) : List C := [(.ife (.bop .Or [(.bop .And [(.isi (.var 0) .tuple), (.isi (.var 1) .tuple)]), (.bop .And [(.isi (.var 0) .list), (.isi (.var 1) .list)])]) [(.ret (.bop .And [(.cmp .Eq (.blt .len [(.var 0)]) (.blt .len [(.var 1)])), (.blt .all [(.lc (.nm 2) .rng [(.blt .len [(.var 0)])] [] (.call j [(.idx (.var 0) (.var 2)), (.idx (.var 1) (.var 2))]) [2])])]))] []),
    (.ife (.bop .Or [(.isi (.var 0) .bool), (.isi (.var 1) .bool)]) [(.ret (.bop .And [(.isi (.var 0) .bool), (.isi (.var 1) .bool), (.cmp .Eq (.var 0) (.var 1))]))] []),
    (.ife (.bop .Or [(.bop .And [(.isi (.var 0) .int), (.isi (.var 1) .int)]), (.bop .And [(.isi (.var 0) .str), (.isi (.var 1) .str)])]) [(.ret (.cmp .Eq (.var 0) (.var 1)))] []),
    (.ret (.bop .And [(.isn false (.var 0)), (.isn false (.var 1))]))]
def cap : Nat := 1000000
/-- data that the look takes, of no more depth than n -/
inductive OkS : Nat → D → Prop
  | none (n : Nat) : OkS n .none
  | bool (n : Nat) (b : Bool) : OkS n (.bool b)
  | int (n : Nat) (b : Int) : OkS n (.int b)
  | str (n : Nat) (s : Str) (h : SeqAt.shaped (.str s) = true) : OkS n (.str s)
  | tuple (n : Nat) (xs : List D) (h : xs.length ≤ cap) (h2 : ∀ x ∈ xs, OkS n x) : OkS (n + 1) (.tuple xs)
  | list (n : Nat) (xs : List D) (h : xs.length ≤ cap) (h2 : ∀ x ∈ xs, OkS n x) : OkS (n + 1) (.list xs)
structure SameAt (es : List Entry) (j : Nat) (i : FnI) : Prop where
  e : es[j]? = some (.user i)
  b : i.body = bSame j
  p : i.ps.length = 2
  n : i.N.length = 3
  x : i.b = false
theorem at_nth (xs : List D) (k : Nat) (d : D) (h : xs[k]? = some d) : atI xs (k : Int) = some d := by
  have hk : k < xs.length := by
    rcases Nat.lt_or_ge k xs.length with q | q
    · exact q
    · rw [List.getElem?_eq_none q] at h; cases h
  unfold atI ixN
  rw [if_pos (by omega), if_pos (by omega)]
  simpa using h
theorem items_r2 (n : Nat) (h : n ≤ cap) : itemsOf .rng [.int n] = some (rngL 0 n) := by
  have h0 : n ≤ 1000000 := h
  have h1 : rngOk n := by unfold rngOk; omega
  have h2 : (n : Int) ≤ (sizeLine : Nat) := by unfold sizeLine; omega
  simp [itemsOf, h1, h2]
theorem boolsL_all : ∀ (n : Nat) (bs : List D), (∀ b ∈ bs, b = .bool true) → boolsL bs = some (List.replicate bs.length true)
  | n, [], h => rfl
  | n, b :: bs, h => by
    rw [h b List.mem_cons_self]
    simp only [boolsL, boolsL_all n bs fun x hx => h x (List.mem_cons_of_mem _ hx), Option.map_some, List.length_cons, List.replicate_succ]
section
variable {es : List Entry} {j : Nat} {i : FnI} (S : SameAt es j i)
include S
theorem same_fin (m : Nat) (d : D) (h : exs (callN (tbOf es) m) (bSame j) [.v d, .v d, .no] = some (.rt (.v (.bool true)) [.v d, .v d, .no])) : retOf (callN (tbOf es) (m + 1)) j [.v d, .v d] = some (.v (.bool true)) := by
  have e : ([.v d, .v d] : List Sl) ++ List.replicate (3 - 2) .no = [.v d, .v d, .no] := rfl
  have h1 : ([.v d, .v d] : List Sl).length = i.ps.length := by rw [S.p]; rfl
  have h2 : hasBx ([.v d, .v d] : List Sl) = i.b := by rw [S.x]; rfl
  refine ret_user S.e h1 h2 (e := [.v d, .v d, .no]) ?_
  rw [S.b, S.n, S.p, e]
  exact h
theorem same_lc (m : Nat) (xs : List D) (d : D) (hd : d = .tuple xs ∨ d = .list xs) (hx : ∀ x ∈ xs, retOf (callN (tbOf es) m) j [.v x, .v x] = some (.v (.bool true))) :
    lcLoop (.nm 2) [] (ev (callN (tbOf es) m) (.call j [(.idx (.var 0) (.var 2)), (.idx (.var 1) (.var 2))])) [2] [.d (.int xs.length)] [.v d, .v d, .no] (rngL 0 xs.length) [.v d, .v d, .no] = some ((rngL 0 xs.length).map fun _ => .bool true, [.v d, .v d, .no]) := by
  apply lc_map (fun _ => .bool true) (by simp)
  intro x hx'
  unfold rngL at hx'
  simp only [List.mem_map, List.mem_range] at hx'
  obtain ⟨q, hq, rfl⟩ := hx'
  have hy := at_nth xs q xs[q] (List.getElem?_eq_getElem hq)
  have hz := hx xs[q] (List.getElem_mem hq)
  refine ⟨[.v d, .v d, .v (.int (0 + q))], ?_, ?_, ?_⟩
  · simp
  · simp
  · rcases hd with rfl | rfl <;> simp [hy, hz]
theorem same_seq (m : Nat) (xs : List D) (d : D) (hd : d = .tuple xs ∨ d = .list xs) (hl : xs.length ≤ cap) (hx : ∀ x ∈ xs, retOf (callN (tbOf es) m) j [.v x, .v x] = some (.v (.bool true))) :
    retOf (callN (tbOf es) (m + 1)) j [.v d, .v d] = some (.v (.bool true)) := by
  apply same_fin S
  have lc := same_lc S m xs d hd hx
  have bl : boolsL ((rngL 0 xs.length).map fun _ => (.bool true : D)) = some (List.replicate xs.length true) := by
    rw [boolsL_all 0 _ (fun b hb => by simp only [List.mem_map] at hb; obtain ⟨_, _, e⟩ := hb; exact e.symm)]
    simp [rngL]
  have it := items_r2 xs.length hl
  have c1 : (ev (callN (tbOf es) m) (.bop .Or [(.bop .And [(.isi (.var 0) .tuple), (.isi (.var 1) .tuple)]), (.bop .And [(.isi (.var 0) .list), (.isi (.var 1) .list)])])).tst [.v d, .v d, .no] = some (true, [.v d, .v d, .no]) := by
    rcases hd with rfl | rfl <;> simp
  have c2 : frzM (ev (callN (tbOf es) m) (.cmp .Eq (.blt .len [(.var 0)]) (.blt .len [(.var 1)]))).val [.v d, .v d, .no] = some (.bool true, [.v d, .v d, .no]) := by
    rcases hd with rfl | rfl <;> simp
  have c3 : (opsM [ev (callN (tbOf es) m) (.blt .len [(.var 0)])]) [.v d, .v d, .no] = some ([.d (.int xs.length)], [.v d, .v d, .no]) := by
    rcases hd with rfl | rfl <;> simp
  have c4 : (lcM (.nm 2) .rng (evs (callN (tbOf es) m) [(.blt .len [(.var 0)])]) (evs (callN (tbOf es) m) []) (ev (callN (tbOf es) m) (.call j [(.idx (.var 0) (.var 2)), (.idx (.var 1) (.var 2))])) [2]).val [.v d, .v d, .no] = some (.l ((rngL 0 xs.length).map fun _ => .bool true), [.v d, .v d, .no]) := by
    have := lcM_of (ds := [.int xs.length]) (k := .rng) c3 rfl it (by simp) lc
    rw [evs_cons, evs_nil, this, restE_no _ _ _ _ rfl, restE_nil]
  have c5 : (ev (callN (tbOf es) m) (.blt .all [(.lc (.nm 2) .rng [(.blt .len [(.var 0)])] [] (.call j [(.idx (.var 0) (.var 2)), (.idx (.var 1) (.var 2))]) [2])])).val [.v d, .v d, .no] = some (.v (.bool true), [.v d, .v d, .no]) := by
    rw [ev_blt, evs_cons, evs_nil, ev_lc, bltM_eq, ofVal_val, opsM_cons, lcM_opd, frz_of c4 rfl]
    simp only [opsM_nil, Option.map_some, Option.bind_some, gets_cons, gets_nil, get_d, all_l, bl, List.all_replicate]
    simp
  have c6 : (ev (callN (tbOf es) m) (.bop .And [(.cmp .Eq (.blt .len [(.var 0)]) (.blt .len [(.var 1)])), (.blt .all [(.lc (.nm 2) .rng [(.blt .len [(.var 0)])] [] (.call j [(.idx (.var 0) (.var 2)), (.idx (.var 1) (.var 2))]) [2])])])).val [.v d, .v d, .no] = some (.v (.bool true), [.v d, .v d, .no]) := by
    rw [ev_bop, bopM_val, evs_cons, evs_cons, evs_nil, bopV_2, c2]
    simp only [Option.bind_some, truth_bool, isAnd_1, beq_self_eq_true, if_true, bopV_1]
    rw [frz_of c5 rfl]
    rfl
  rw [bSame, exs_cons, ex_ife, c1]
  simp only [Option.bind_some, if_true, exs_cons, ex_ret, c6, Option.map_some, thenO_rt]
theorem same_none (m : Nat) : retOf (callN (tbOf es) (m + 1)) j [.v .none, .v .none] = some (.v (.bool true)) := same_fin S _ _ (by simp [bSame])
theorem same_bl (m : Nat) (b : Bool) : retOf (callN (tbOf es) (m + 1)) j [.v (.bool b), .v (.bool b)] = some (.v (.bool true)) := same_fin S _ _ (by simp [bSame])
theorem same_in (m : Nat) (b : Int) : retOf (callN (tbOf es) (m + 1)) j [.v (.int b), .v (.int b)] = some (.v (.bool true)) := same_fin S _ _ (by simp [bSame])
theorem same_st (m : Nat) (b : Str) (hs : SeqAt.shaped (.str b) = true) : retOf (callN (tbOf es) (m + 1)) j [.v (.str b), .v (.str b)] = some (.v (.bool true)) := same_fin S _ _ (by simp [bSame, cmp_eqs, hs])
theorem same_self : ∀ (n k : Nat) (d : D), OkS n d → retOf (callN (tbOf es) (n + k + 1)) j [.v d, .v d] = some (.v (.bool true)) := by
  intro n
  induction n with
  | zero =>
    intro k d h
    cases h with
    | none => exact same_none S _
    | bool _ b => exact same_bl S _ _
    | int _ b => exact same_in S _ _
    | str _ b hs => exact same_st S _ _ hs
  | succ n ih =>
    intro k d h
    have e : n + 1 + k + 1 = (n + k + 1) + 1 := by omega
    rw [e]
    cases h with
    | none => exact same_none S _
    | bool _ b => exact same_bl S _ _
    | int _ b => exact same_in S _ _
    | str _ b hs => exact same_st S _ _ hs
    | tuple _ xs hl hx => exact same_seq S _ _ _ (.inl rfl) hl fun x hy => ih k x (hx x hy)
    | list _ xs hl hx => exact same_seq S _ _ _ (.inr rfl) hl fun x hy => ih k x (hx x hy)
end
end
end Mini

namespace Mini
open PySem PySem.Spec L2
/-! what an environment forgets: a slot may be told as empty -/
def sle (a b : Sl) : Prop := a = b ∨ (a = .no ∧ b.isBx = false)
inductive LE : En → En → Prop
  | nil : LE [] []
  | cons {a b : Sl} {as bs : En} : sle a b → LE as bs → LE (a :: as) (b :: bs)
theorem sle.refl (a : Sl) : sle a a := .inl rfl
theorem sle.trans {a b c : Sl} (h : sle a b) (g : sle b c) : sle a c := by
  rcases h with rfl | ⟨rfl, h⟩
  · exact g
  · rcases g with rfl | ⟨rfl, g⟩
    · exact .inr ⟨rfl, h⟩
    · exact .inr ⟨rfl, g⟩
theorem LE.refl : ∀ e : En, LE e e
  | [] => .nil
  | a :: as => .cons (.refl a) (LE.refl as)
theorem LE.trans : ∀ {e f g : En}, LE e f → LE f g → LE e g
  | _, _, _, .nil, .nil => .nil
  | _, _, _, .cons h1 h2, .cons g1 g2 => .cons (h1.trans g1) (h2.trans g2)
theorem LE.get : ∀ {e f : En} {i : Nat} {s : Sl}, LE e f → e[i]? = some s → ∃ t, f[i]? = some t ∧ sle s t
  | _, _, _, _, .nil, h => by simp at h
  | _, _, 0, s, .cons (b := b) h1 h2, h => by
    simp at h; subst h; exact ⟨b, by simp, h1⟩
  | _, _, i + 1, s, .cons h1 h2, h => by
    simp at h; simpa using LE.get h2 h
theorem LE.same {e f : En} {i : Nat} {s : Sl} (l : LE e f) (h : e[i]? = some s) (n : s ≠ .no) : f[i]? = some s := by
  obtain ⟨t, h1, h2⟩ := l.get h
  rcases h2 with rfl | ⟨z, _⟩
  · exact h1
  · exact absurd z n
theorem LE.set : ∀ {e f : En} {i : Nat} {s t : Sl}, LE e f → sle s t → LE (e.set i s) (f.set i t)
  | _, _, _, _, _, .nil, h => .nil
  | _, _, 0, s, t, .cons h1 h2, h => .cons h h2
  | _, _, i + 1, s, t, .cons h1 h2, h => .cons h1 (LE.set h2 h)
theorem LE.setR : ∀ {e f : En} {i : Nat} {t : Sl}, LE e f → (e[i]? = none ∨ e[i]? = some .no) → t.isBx = false → LE e (f.set i t)
  | _, _, _, _, .nil, h, b => .nil
  | _, _, 0, t, .cons (a := a) h1 h2, h, b => by
    simp at h
    exact .cons (.inr ⟨h, b⟩) h2
  | _, _, i + 1, t, .cons h1 h2, h, b => .cons h1 (LE.setR h2 (by simpa using h) b)
theorem LE.none : ∀ {e f : En} {i : Nat}, LE e f → e[i]? = none → f[i]? = none
  | _, _, _, .nil, h => by simp
  | _, _, 0, .cons h1 h2, h => by simp at h
  | _, _, i + 1, .cons h1 h2, h => by
    simp at h ⊢; 
    have := LE.none h2 (i := i) (by simpa using h)
    simpa using this
/-- at forgotten slots too -/
def Mon {α : Type} (f : En → Option (α × En)) : Prop := ∀ (e g : En) (r : α) (e1 : En), LE e g → f e = some (r, e1) → ∃ g1, f g = some (r, g1) ∧ LE e1 g1
section
variable {α β : Type}
theorem Mon.pure (r : α) : Mon fun e => some (r, e) := fun e g r' e1 l h => by
  cases h; exact ⟨g, rfl, l⟩
theorem Mon.none : Mon (fun _ => (none : Option (α × En))) := fun _ _ _ _ l h => by cases h
theorem Mon.opt (o : Option α) : Mon fun e => o.map fun r => (r, e) := fun e g r' e1 l h => by
  cases o with
  | none => cases h
  | some r => cases h; exact ⟨g, rfl, l⟩
theorem Mon.bind {f : En → Option (β × En)} {k : β → En → Option (α × En)} (hf : Mon f) (hk : ∀ b, Mon (k b)) : Mon fun e => (f e).bind fun p => k p.1 p.2 := fun e g r e1 l h => by
  obtain ⟨⟨b, e2⟩, h1, h2⟩ := Option.bind_eq_some_iff.mp h
  obtain ⟨g2, h3, h4⟩ := hf _ _ _ _ l h1
  obtain ⟨g1, h5, h6⟩ := hk b _ _ _ _ h4 h2
  exact ⟨g1, by simp only [h3, Option.bind_some, h5], h6⟩
theorem Mon.map {f : En → Option (β × En)} {k : β → α} (hf : Mon f) : Mon fun e => (f e).map fun p => (k p.1, p.2) := fun e g r e1 l h => by
  obtain ⟨⟨b, e2⟩, h1, h2⟩ := Option.map_eq_some_iff.mp h
  obtain ⟨g2, h3, h4⟩ := hf _ _ _ _ l h1
  cases h2
  exact ⟨g2, by simp only [h3, Option.map_some], h4⟩
theorem Mon.obind {o : Option β} {k : β → En → Option (α × En)} (hk : ∀ b, Mon (k b)) : Mon fun e => o.bind fun b => k b e := fun e g r e1 l h => by
  obtain ⟨b, h1, h2⟩ := Option.bind_eq_some_iff.mp h
  obtain ⟨g1, h5, h6⟩ := hk b _ _ _ _ l h2
  exact ⟨g1, by simp only [h1, Option.bind_some, h5], h6⟩
theorem get_mono {e g : En} {p : Opd} {x : D} (l : LE e g) (h : p.get e = some x) : p.get g = some x := by
  cases p with
  | d y => exact h
  | s i =>
    simp only [Opd.get, Option.bind_eq_some_iff] at h ⊢
    obtain ⟨s, h1, h2⟩ := h
    exact ⟨s, l.same h1 (by intro z; subst z; cases h2), h2⟩
theorem Mon.get {p : Opd} {k : D → En → Option (α × En)} (hk : ∀ x, Mon (k x)) : Mon fun e => (p.get e).bind fun x => k x e := fun e g r e1 l h => by
  obtain ⟨x, h1, h2⟩ := Option.bind_eq_some_iff.mp h
  obtain ⟨g1, h5, h6⟩ := hk x _ _ _ _ l h2
  exact ⟨g1, by simp only [get_mono l h1, Option.bind_some, h5], h6⟩
theorem gets_mono {e g : En} (l : LE e g) : ∀ {ps : List Opd} {ds : List D}, gets e ps = some ds → gets g ps = some ds
  | [], ds, h => h
  | p :: ps, ds, h => by
    simp only [gets, Option.bind_eq_some_iff, Option.map_eq_some_iff] at h ⊢
    obtain ⟨d, h1, r, h2, h3⟩ := h
    exact ⟨d, get_mono l h1, r, gets_mono l h2, h3⟩
theorem Mon.gets {ps : List Opd} {k : List D → En → Option (α × En)} (hk : ∀ x, Mon (k x)) : Mon fun e => (gets e ps).bind fun x => k x e := fun e g r e1 l h => by
  obtain ⟨x, h1, h2⟩ := Option.bind_eq_some_iff.mp h
  obtain ⟨g1, h5, h6⟩ := hk x _ _ _ _ l h2
  exact ⟨g1, by simp only [gets_mono l h1, Option.bind_some, h5], h6⟩
theorem Mon.ite {c : Prop} [Decidable c] {f k : En → Option (α × En)} (hf : Mon f) (hk : Mon k) : Mon fun e => if c then f e else k e := fun e g r e1 l h => by
  by_cases hc : c
  · simp only [if_pos hc] at h ⊢; exact hf _ _ _ _ l h
  · simp only [if_neg hc] at h ⊢; exact hk _ _ _ _ l h
end
structure MonM (m : M) : Prop where
  val : Mon m.val
  opd : Mon m.opd
  tst : Mon m.tst
theorem Mon.frz {f : En → Option (Sl × En)} (h : Mon f) : Mon (frzM f) :=
  Mon.bind (k := fun (s : Sl) (e1 : En) => s.frz.map fun d => (d, e1)) h fun s => Mon.opt s.frz
theorem Mon.tr {f : En → Option (Opd × En)} (h : Mon f) : Mon (trM f) :=
  Mon.bind (k := fun (p : Opd) (e1 : En) => (p.get e1).bind fun d => (truth d).map fun b => (b, e1)) h fun p => Mon.get fun d => Mon.opt (truth d)
theorem MonM.ofVal {f : En → Option (Sl × En)} (h : Mon f) : MonM (.ofVal f) :=
  ⟨h, Mon.map (k := fun d => Opd.d d) h.frz, Mon.tr (Mon.map (k := fun d => Opd.d d) h.frz)⟩
theorem MonM.cmp {f : En → Option (Sl × En)} (h : Mon f) : MonM (.cmp f) :=
  ⟨h, Mon.map (k := fun d => Opd.d d) h.frz, Mon.bind (k := fun (s : Sl) (e1 : En) => (bOf s).map fun b => (b, e1)) h fun s => Mon.opt (bOf s)⟩
theorem MonM.var (i : Nat) : MonM (varM i) := by
  have o : Mon (varM i).opd := fun e g r e1 l h => by
    simp only [varM] at h ⊢
    split at h
    · rename_i d hd
      cases h
      rw [l.same hd (by intro z; cases z)]
      exact ⟨g, rfl, l⟩
    · rename_i d hd
      cases h
      rw [l.same hd (by intro z; cases z)]
      exact ⟨g, rfl, l⟩
    · cases h
  refine ⟨fun e g r e1 l h => ?_, o, Mon.tr o⟩
  simp only [varM] at h ⊢
  split at h
  · rename_i d hd
    cases h
    rw [l.same hd (by intro z; cases z)]
    exact ⟨g, rfl, l⟩
  · rename_i d hd
    cases h
    rw [l.same hd (by intro z; cases z)]
    exact ⟨_, rfl, l.set (.refl _)⟩
  · cases h
theorem MonM.op1 {f : D → Option Sl} {a : M} (ha : MonM a) : MonM (op1 f a) :=
  .ofVal (Mon.bind (k := fun (p : Opd) (e1 : En) => (p.get e1).bind fun x => (f x).map fun r => (r, e1)) ha.opd fun p => Mon.get fun x => Mon.opt (f x))
theorem Mon.op2 {f : D → D → Option Sl} {a b : M} (ha : MonM a) (hb : MonM b) : Mon (op2 f a b).val :=
  Mon.bind (k := fun (p : Opd) (e1 : En) => (b.opd e1).bind fun t => (p.get t.2).bind fun x => (t.1.get t.2).bind fun y => (f x y).map fun r => (r, t.2)) ha.opd fun p =>
    Mon.bind (k := fun (q : Opd) (e2 : En) => (p.get e2).bind fun x => (q.get e2).bind fun y => (f x y).map fun r => (r, e2)) hb.opd fun q => Mon.get fun x => Mon.get fun y => Mon.opt (f x y)
theorem MonM.op2 {f : D → D → Option Sl} {a b : M} (ha : MonM a) (hb : MonM b) : MonM (op2 f a b) := .ofVal (Mon.op2 ha hb)
theorem MonM.chn {o1 o2 : CmpOp} {a b c : M} (ha : MonM a) (hb : MonM b) (hc : MonM c) : MonM (chnM o1 o2 a b c) :=
  .cmp (Mon.bind (k := fun (p : Opd) (e1 : En) => (b.opd e1).bind fun t => (p.get t.2).bind fun x => (t.1.get t.2).bind fun y =>
      (cmpD o1 x y).bind fun r => (bOf r).bind fun k => if k then (c.opd t.2).bind fun u => (t.1.get u.2).bind fun y2 => (u.1.get u.2).bind fun z => (cmpD o2 y2 z).map fun r2 => (r2, u.2) else some (.v (.bool false), t.2)) ha.opd fun p =>
    Mon.bind (k := fun (q : Opd) (e2 : En) => (p.get e2).bind fun x => (q.get e2).bind fun y =>
      (cmpD o1 x y).bind fun r => (bOf r).bind fun k => if k then (c.opd e2).bind fun u => (q.get u.2).bind fun y2 => (u.1.get u.2).bind fun z => (cmpD o2 y2 z).map fun r2 => (r2, u.2) else some (.v (.bool false), e2)) hb.opd fun q =>
      Mon.get fun x => Mon.get fun y => Mon.obind fun r => Mon.obind fun k => Mon.ite
        (Mon.bind (k := fun (t : Opd) (e3 : En) => (q.get e3).bind fun y2 => (t.get e3).bind fun z => (cmpD o2 y2 z).map fun r2 => (r2, e3)) hc.opd fun t => Mon.get fun y2 => Mon.get fun z => Mon.opt (cmpD o2 y2 z)) (Mon.pure _))
theorem MonM.not {a : M} (ha : MonM a) : MonM (notM a) :=
  have h := MonM.ofVal (Mon.map (k := fun b => Sl.v (.bool !b)) ha.opd.tr)
  ⟨h.val, h.opd, Mon.map (k := fun b => !b) ha.tst⟩
theorem Mon.bopV {o : BoolOp} : ∀ {es : List M}, (∀ m ∈ es, MonM m) → Mon (bopV o es)
  | [], h => Mon.none
  | [a], h => (h a List.mem_cons_self).val.frz
  | a :: b :: r, h => Mon.bind (k := fun (d : D) (e1 : En) => (truth d).bind fun k => if k == isAnd o then Mini.bopV o (b :: r) e1 else some (d, e1)) (h a List.mem_cons_self).val.frz fun d => Mon.obind fun k => Mon.ite (Mon.bopV fun m hm => h m (List.mem_cons_of_mem _ hm)) (Mon.pure d)
theorem Mon.bopT {o : BoolOp} : ∀ {es : List M}, (∀ m ∈ es, MonM m) → Mon (bopT o es)
  | [], h => Mon.none
  | [a], h => (h a List.mem_cons_self).tst
  | a :: b :: r, h => Mon.bind (k := fun (k : Bool) (e1 : En) => if k == isAnd o then Mini.bopT o (b :: r) e1 else some (k, e1)) (h a List.mem_cons_self).tst fun k => Mon.ite (Mon.bopT fun m hm => h m (List.mem_cons_of_mem _ hm)) (Mon.pure k)
theorem MonM.bop {o : BoolOp} {es : List M} (h : ∀ m ∈ es, MonM m) : MonM (bopM o es) :=
  have q := MonM.ofVal (Mon.map (k := fun d => Sl.v d) (Mon.bopV (o := o) h))
  ⟨q.val, q.opd, Mon.bopT h⟩
theorem MonM.ite {c a b : M} (hc : MonM c) (ha : MonM a) (hb : MonM b) : MonM (iteM c a b) :=
  have q := MonM.ofVal (Mon.bind (k := fun (k : Bool) (e1 : En) => if k then a.val e1 else b.val e1) hc.tst fun k => Mon.ite ha.val hb.val)
  ⟨q.val, q.opd, Mon.bind (k := fun (k : Bool) (e1 : En) => if k then a.tst e1 else b.tst e1) hc.tst fun k => Mon.ite ha.tst hb.tst⟩
theorem Mon.args : ∀ {es : List M}, (∀ m ∈ es, MonM m) → Mon (argsM es)
  | [], h => Mon.pure _
  | a :: r, h => Mon.bind (k := fun (d : D) (e1 : En) => (argsM r e1).map fun (u : List D × En) => (d :: u.1, u.2)) (h a List.mem_cons_self).val.frz fun d => Mon.map (k := fun (ds : List D) => d :: ds) (Mon.args fun m hm => h m (List.mem_cons_of_mem _ hm))
theorem Mon.ops : ∀ {es : List M}, (∀ m ∈ es, MonM m) → Mon (opsM es)
  | [], h => Mon.pure _
  | a :: r, h => Mon.bind (k := fun (d : Opd) (e1 : En) => (opsM r e1).map fun (u : List Opd × En) => (d :: u.1, u.2)) (h a List.mem_cons_self).opd fun d => Mon.map (k := fun (ds : List Opd) => d :: ds) (Mon.ops fun m hm => h m (List.mem_cons_of_mem _ hm))
theorem MonM.tup {es : List M} (h : ∀ m ∈ es, MonM m) : MonM (tupM es) :=
  .ofVal (Mon.bind (k := fun (ds : List D) (e1 : En) => if ds.length ≤ sizeLine then some (Sl.v (.tuple ds), e1) else none) (Mon.args h) fun ds => Mon.ite (Mon.pure _) Mon.none)
theorem MonM.lst {es : List M} (h : ∀ m ∈ es, MonM m) : MonM (lstM es) :=
  .ofVal (Mon.bind (k := fun (ds : List D) (e1 : En) => if ds.length ≤ sizeLine then some (Sl.l ds, e1) else none) (Mon.args h) fun ds => Mon.ite (Mon.pure _) Mon.none)
theorem MonM.blt {b : Bl} {es : List M} (h : ∀ m ∈ es, MonM m) : MonM (bltM b es) :=
  .ofVal (Mon.bind (k := fun (ps : List Opd) (e1 : En) => (gets e1 ps).bind fun ds => (bltD b ds).map fun r => (r, e1)) (Mon.ops h) fun ps => Mon.gets fun ds => Mon.opt _)
theorem Mon.part : ∀ {es : List M}, (∀ m ∈ es, MonM m) → Mon (partM es)
  | [], h => Mon.pure _
  | [a], h => Mon.bind (k := fun (p : Opd) (e1 : En) => (p.get e1).bind fun d => match d with
    | .int i => some (some i, e1)
    | _ => Option.none) (h a List.mem_cons_self).opd fun p => Mon.get fun d => by
      cases d <;> first | exact Mon.pure _ | exact Mon.none
  | _ :: _ :: _, h => Mon.none
theorem MonM.slc {a : M} {lo hi : List M} (ha : MonM a) (hl : ∀ m ∈ lo, MonM m) (hh : ∀ m ∈ hi, MonM m) : MonM (slcM a lo hi) :=
  .ofVal (Mon.bind (k := fun (p : Opd) (e1 : En) => (partM lo e1).bind fun u => (partM hi u.2).bind fun v => (p.get v.2).bind fun x => (slcD x u.1 v.1).map fun r => (r, v.2)) ha.opd fun p =>
    Mon.bind (k := fun (l : Option Int) (e2 : En) => (partM hi e2).bind fun v => (p.get v.2).bind fun x => (slcD x l v.1).map fun r => (r, v.2)) (Mon.part hl) fun l =>
    Mon.bind (k := fun (q : Option Int) (e3 : En) => (p.get e3).bind fun x => (slcD x l q).map fun r => (r, e3)) (Mon.part hh) fun q => Mon.get fun x => Mon.opt _)
section
variable {P : Ph}
theorem MonM.call {f : Nat} {es : List M} (h : ∀ m ∈ es, MonM m) : MonM (callM P f es) :=
  .ofVal (Mon.bind (k := fun (ds : List D) (e1 : En) => (retOf P f (ds.map .v)).map fun r => (r, e1)) (Mon.args h) fun ds => Mon.opt _)
theorem MonM.callS {f i : Nat} : MonM (callSM P f i) := .ofVal fun e g r e1 l h => by
  revert h
  cases hi : e[i]? with
  | none => intro h; cases h
  | some s =>
    cases s with
    | sc ns =>
      intro h
      obtain ⟨r', h1, h2⟩ := Option.map_eq_some_iff.mp h
      cases h2
      rw [l.same hi (by intro z; cases z)]
      exact ⟨g, by simp only [h1, Option.map_some], l⟩
    | _ => intro h; cases h
theorem MonM.callB {f i : Nat} {es : List M} (hs : ∀ m ∈ es, MonM m) : MonM (callBM P f i es) := .ofVal fun e g r e1 l h => by
  by_cases hb : isB e[i]? = true
  · rw [if_pos hb] at h
    have hb2 : isB g[i]? = true := by
      revert hb
      cases hi : e[i]? with
      | none => intro z; cases z
      | some s => intro z; rw [l.same hi (by intro q; subst q; cases z)]; exact z
    rw [if_pos hb2]
    obtain ⟨⟨ds, e2⟩, h1, h2⟩ := Option.bind_eq_some_iff.mp h
    obtain ⟨g2, h3, l2⟩ := Mon.args hs _ _ _ _ l h1
    simp only [h3, Option.bind_some]
    simp only at h2
    cases hi : e2[i]? with
    | none => rw [hi] at h2; cases h2
    | some s =>
      rw [hi] at h2
      cases s with
      | bx cs rs =>
        rw [l2.same hi (by intro z; cases z)]
        simp only at h2 ⊢
        obtain ⟨⟨r', b⟩, h4, h5⟩ := Option.bind_eq_some_iff.mp h2
        simp only [h4, Option.bind_some]
        simp only at h5
        cases b with
        | bx cs2 rs2 =>
          simp only at h5 ⊢
          cases h5
          exact ⟨_, rfl, l2.set (.refl _)⟩
        | _ => cases h5
      | _ => cases h2
  · rw [if_neg hb] at h; cases h
theorem setS_mono {e g e1 : En} {i : Nat} {s : Sl} (l : LE e g) (h : setS i s e = some e1) : ∃ g1, setS i s g = some g1 ∧ LE e1 g1 := by
  unfold setS at h
  split at h
  · cases h
  · cases h
  · rename_i t n hi
    cases h
    obtain ⟨t', h1, h2⟩ := l.get hi
    refine ⟨g.set i s, setS_ok ⟨t', h1, ?_⟩, l.set (.refl _)⟩
    rcases h2 with rfl | ⟨_, z⟩
    · cases t <;> first | rfl | exact absurd rfl (n _ _)
    · exact z
mutual
theorem asgT_mono : ∀ {t : T} {d : D} {e g e1 : En}, LE e g → asgT t d e = some e1 → ∃ g1, asgT t d g = some g1 ∧ LE e1 g1
  | .nm i, d, e, g, e1, l, h => by
    simp only [asgT] at h ⊢
    exact setS_mono l h
  | .tp ts, d, e, g, e1, l, h => by
    cases d with
    | tuple ds =>
      simp only [asgT] at h ⊢
      exact asgTs_mono l h
    | _ => simp [asgT] at h
theorem asgTs_mono : ∀ {ts : List T} {ds : List D} {e g e1 : En}, LE e g → asgTs ts ds e = some e1 → ∃ g1, asgTs ts ds g = some g1 ∧ LE e1 g1
  | [], [], e, g, e1, l, h => by
    simp only [asgTs] at h ⊢
    cases h; exact ⟨g, rfl, l⟩
  | t :: ts, d :: ds, e, g, e1, l, h => by
    simp only [asgTs] at h ⊢
    obtain ⟨e2, h1, h2⟩ := Option.bind_eq_some_iff.mp h
    obtain ⟨g2, h3, l2⟩ := asgT_mono l h1
    obtain ⟨g1, h4, l3⟩ := asgTs_mono l2 h2
    exact ⟨g1, by simp only [h3, Option.bind_some, h4], l3⟩
  | [], _ :: _, e, g, e1, l, h => by simp [asgTs] at h
  | _ :: _, [], e, g, e1, l, h => by simp [asgTs] at h
end
theorem wipe_mono {e g : En} (l : LE e g) : ∀ own, LE (wipeE e own) (wipeE g own)
  | [] => l
  | v :: vs => (wipe_mono l vs).set (.refl _)
theorem wipe_no {e : En} : ∀ {own : List Nat} {i : Nat}, i ∈ own → (wipeE e own)[i]? = none ∨ (wipeE e own)[i]? = some .no
  | v :: vs, i, h => by
    simp only [wipeE]
    by_cases hv : v = i
    · subst hv
      by_cases hl : v < (wipeE e vs).length
      · exact .inr (List.getElem?_set_self hl)
      · exact .inl (List.getElem?_eq_none (by simpa using hl))
    · rw [List.getElem?_set_ne hv]
      exact wipe_no ((List.mem_cons.mp h).resolve_left fun z => hv z.symm)
theorem Mon.cond : ∀ {es : List M}, (∀ m ∈ es, MonM m) → Mon (condM es)
  | [], h => Mon.pure _
  | [a], h => (h a List.mem_cons_self).tst
  | _ :: _ :: _, h => Mon.none
def Rdb (e : En) : List Opd → Prop
  | [] => True
  | .d _ :: r => Rdb e r
  | .s i :: r => (∃ s, e[i]? = some s ∧ s ≠ .no) ∧ Rdb e r
theorem rdb_of {e : En} : ∀ {ps : List Opd} {ds : List D}, gets e ps = some ds → Rdb e ps
  | [], _, _ => trivial
  | p :: ps, ds, h => by
    simp only [gets, Option.bind_eq_some_iff, Option.map_eq_some_iff] at h
    obtain ⟨d, h1, r, h2, h3⟩ := h
    cases p with
    | d x => exact rdb_of (ps := ps) h2
    | s i =>
      refine ⟨?_, rdb_of (ps := ps) h2⟩
      simp only [Opd.get, Option.bind_eq_some_iff] at h1
      obtain ⟨s, h4, h5⟩ := h1
      exact ⟨s, h4, by intro z; subst z; cases h5⟩
theorem still_mono {e0 g0 e1 g1 : En} (l0 : LE e0 g0) (l1 : LE e1 g1) : ∀ {ps : List Opd}, Rdb e0 ps → stillB e0 e1 ps → stillB g0 g1 ps
  | [], _, _ => trivial
  | .d _ :: r, h, s => still_mono (ps := r) l0 l1 h s
  | .s i :: r, h, s => by
    obtain ⟨⟨t, h1, h2⟩, h3⟩ := h
    refine ⟨?_, still_mono (ps := r) l0 l1 h3 s.2⟩
    have := s.1
    rw [h1] at this
    rw [l0.same h1 h2, l1.same this h2]
theorem lcLoop_mono {t : T} {cond : List M} {elt : M} {own : List Nat} {ps : List Opd} {e0 g0 : En} (hc : ∀ m ∈ cond, MonM m) (he : MonM elt) (l0 : LE e0 g0) (hp : Rdb e0 ps) : ∀ {xs : List D} {e g e1 : En} {r : List D}, LE e g → (∀ i ∈ own, e[i]? = none ∨ e[i]? = some .no) → lcLoop t cond elt own ps e0 xs e = some (r, e1) → (∃ g1, lcLoop t cond elt own ps g0 xs g = some (r, g1) ∧ LE e1 g1) ∧ ∀ i ∈ own, e1[i]? = none ∨ e1[i]? = some .no
  | [], e, g, e1, r, l, ho, h => by
    rw [lcLoop_nil] at h
    cases h
    exact ⟨⟨g, lcLoop_nil _ _ _ _ _ _ _, l⟩, ho⟩
  | x :: xs, e, g, e1, r, l, ho, h => by
    rw [lcLoop_cons] at h ⊢
    obtain ⟨e2, h1, h⟩ := Option.bind_eq_some_iff.mp h
    obtain ⟨g2, k1, l2⟩ := asgT_mono l h1
    obtain ⟨⟨b, e3⟩, h3, h⟩ := Option.bind_eq_some_iff.mp h
    obtain ⟨g3, k3, l3⟩ := Mon.cond hc _ _ _ _ l2 h3
    simp only [k1, Option.bind_some, k3]
    cases b with
    | false =>
      simp only [Bool.false_eq_true, if_false] at h ⊢
      by_cases hs : stillB e0 (wipeE e3 own) ps
      · rw [if_pos hs] at h
        rw [if_pos (still_mono l0 (wipe_mono l3 own) hp hs)]
        exact lcLoop_mono hc he l0 hp (wipe_mono l3 own) (fun i hi => wipe_no hi) h
      · rw [if_neg hs] at h; cases h
    | true =>
      simp only [if_true] at h ⊢
      obtain ⟨⟨d, e4⟩, h4, h⟩ := Option.bind_eq_some_iff.mp h
      obtain ⟨g4, k4, l4⟩ := he.val.frz _ _ _ _ l3 h4
      simp only [k4, Option.bind_some]
      by_cases hs : stillB e0 (wipeE e4 own) ps
      · rw [if_pos hs] at h
        rw [if_pos (still_mono l0 (wipe_mono l4 own) hp hs)]
        obtain ⟨⟨r', e5⟩, h5, h6⟩ := Option.map_eq_some_iff.mp h
        cases h6
        obtain ⟨⟨g5, k5, l5⟩, o5⟩ := lcLoop_mono hc he l0 hp (wipe_mono l4 own) (fun i hi => wipe_no hi) h5
        exact ⟨⟨g5, by simp only [k5, Option.map_some], l5⟩, o5⟩
      · rw [if_neg hs] at h; cases h
theorem rest_keep {e1 e2 : En} {i : Nat} (h : ∀ d, e1[i]? ≠ some (.v d)) : ∀ own, (restE e1 e2 own)[i]? = e2[i]?
  | [] => rfl
  | j :: r => by
    unfold restE
    split
    · rename_i d hd
      by_cases hj : j = i
      · subst hj; exact absurd hd (h d)
      · rw [List.getElem?_set_ne hj]; exact rest_keep h r
    · exact rest_keep h r
theorem rest_mono {e1 g1 e2 g2 : En} (l1 : LE e1 g1) (l2 : LE e2 g2) : ∀ {own : List Nat}, (∀ i ∈ own, e2[i]? = none ∨ e2[i]? = some .no) → LE (restE e1 e2 own) (restE g1 g2 own)
  | [], _ => l2
  | i :: r, ho => by
    have ih := rest_mono l1 l2 (own := r) fun j hj => ho j (List.mem_cons_of_mem _ hj)
    cases hi : e1[i]? with
    | none =>
      rw [restE, restE, hi, l1.none hi]
      exact ih
    | some s =>
      cases s with
      | v d =>
        rw [restE, restE, hi, l1.same hi (by intro z; cases z)]
        exact ih.set (.refl _)
      | no =>
        have k : (restE e1 e2 r)[i]? = none ∨ (restE e1 e2 r)[i]? = some .no := by
          rw [rest_keep (by intro d z; rw [hi] at z; cases z)]
          exact ho i List.mem_cons_self
        rw [restE, restE, hi]
        simp only
        split
        · exact ih.setR k rfl
        · exact ih
      | l xs =>
        rw [restE, restE, hi, l1.same hi (by intro z; cases z)]
        exact ih
      | bx cs rs =>
        rw [restE, restE, hi, l1.same hi (by intro z; cases z)]
        exact ih
      | sc ns =>
        rw [restE, restE, hi, l1.same hi (by intro z; cases z)]
        exact ih
theorem MonM.lc {t : T} {k : IK} {its cond : List M} {elt : M} {own : List Nat} (hi : ∀ m ∈ its, MonM m) (hc : ∀ m ∈ cond, MonM m) (he : MonM elt) : MonM (lcM t k its cond elt own) := by
  unfold lcM
  refine .ofVal fun e g r e1 l h => ?_
  obtain ⟨⟨ps, e2⟩, h1, h⟩ := Option.bind_eq_some_iff.mp h
  obtain ⟨g2, k1, l2⟩ := Mon.ops hi _ _ _ _ l h1
  obtain ⟨ds, h2, h⟩ := Option.bind_eq_some_iff.mp h
  obtain ⟨xs, h3, h⟩ := Option.bind_eq_some_iff.mp h
  simp only [k1, Option.bind_some, gets_mono l2 h2, h3]
  by_cases hs : stillB e2 (wipeE e2 own) ps
  · rw [if_pos hs] at h
    rw [if_pos (still_mono l2 (wipe_mono l2 own) (rdb_of h2) hs)]
    obtain ⟨⟨r', e5⟩, h5, h6⟩ := Option.map_eq_some_iff.mp h
    cases h6
    obtain ⟨⟨g5, k5, l5⟩, o5⟩ := lcLoop_mono hc he l2 (rdb_of h2) (wipe_mono l2 own) (fun i hi => wipe_no hi) h5
    exact ⟨_, by simp only [k5, Option.map_some], rest_mono l2 l5 o5⟩
  · rw [if_neg hs] at h; cases h
theorem MonM.pop {i : Nat} : MonM (popM i) := .ofVal fun e g r e1 l h => by
  revert h
  cases hi : e[i]? with
  | none => intro h; cases h
  | some s =>
    cases s with
    | l xs =>
      intro h
      rw [l.same hi (by intro z; cases z)]
      simp only at h ⊢
      cases hl : xs.getLast? with
      | none => rw [hl] at h; cases h
      | some d =>
        rw [hl] at h
        cases h
        exact ⟨_, rfl, l.set (.refl _)⟩
    | _ => intro h; cases h
theorem MonM.mth {m : Mt} {a b : M} (ha : MonM a) (hb : MonM b) : MonM (mthM m a b) :=
  .ofVal (Mon.bind (k := fun (p : Opd) (e1 : En) => (p.get e1).bind fun x0 => if isLst x0 then (b.opd e1).bind fun t => (p.get t.2).bind fun x => (t.1.get t.2).bind fun y => (mthD m x y).map fun z => (z, t.2) else none) ha.opd fun p =>
    Mon.get fun x0 => Mon.ite (Mon.bind (k := fun (q : Opd) (e2 : En) => (p.get e2).bind fun x => (q.get e2).bind fun y => (mthD m x y).map fun z => (z, e2)) hb.opd fun q => Mon.get fun x => Mon.get fun y => Mon.opt _) Mon.none)
mutual
theorem monE : ∀ e : E, MonM (ev P e)
  | .var i => by simp only [ev]; exact .var i
  | .cst d => by simp only [ev]; exact .ofVal (Mon.pure _)
  | .bin op a b => by simp only [ev]; exact .op2 (monE a) (monE b)
  | .neg a => by simp only [ev]; exact .op1 (monE a)
  | .cmp op a b => by simp only [ev]; exact .cmp (Mon.op2 (monE a) (monE b))
  | .chn o1 o2 a b c => by simp only [ev]; exact .chn (monE a) (monE b) (monE c)
  | .isn ng a => by simp only [ev]; exact .cmp (MonM.op1 (monE a)).val
  | .bop o es => by simp only [ev]; exact .bop (monEs es)
  | .not a => by simp only [ev]; exact .not (monE a)
  | .ite c a b => by simp only [ev]; exact .ite (monE c) (monE a) (monE b)
  | .tup es => by simp only [ev]; exact .tup (monEs es)
  | .lst es => by simp only [ev]; exact .lst (monEs es)
  | .idx a i => by simp only [ev]; exact .op2 (monE a) (monE i)
  | .slc a lo hi => by simp only [ev]; exact .slc (monE a) (monEs lo) (monEs hi)
  | .call f es => by simp only [ev]; exact .call (monEs es)
  | .callB f i es => by simp only [ev]; exact .callB (monEs es)
  | .callS f i => by simp only [ev]; exact .callS
  | .blt b es => by simp only [ev]; exact .blt (monEs es)
  | .isi a t => by simp only [ev]; exact .cmp (MonM.op1 (monE a)).val
  | .lc t k its cond elt own => by simp only [ev]; exact .lc (monEs its) (monEs cond) (monE elt)
  | .pop i => by simp only [ev]; exact .pop
  | .mth m a e => by simp only [ev]; exact .mth (monE a) (monE e)
theorem monEs : ∀ es : List E, ∀ m ∈ evs P es, MonM m
  | [], m, h => by simp only [evs] at h; cases h
  | e :: es, m, h => by
    simp only [evs, List.mem_cons] at h
    rcases h with rfl | h
    · exact monE e
    · exact monEs es m h
end
/-- outcomes -/
inductive OLE : Out → Out → Prop
  | nx {e g : En} : LE e g → OLE (.nx e) (.nx g)
  | rt {s : Sl} {e g : En} : LE e g → OLE (.rt s e) (.rt s g)
  | bk {e g : En} : LE e g → OLE (.bk e) (.bk g)
  | ct {e g : En} : LE e g → OLE (.ct e) (.ct g)
theorem OLE.refl (o : Out) : OLE o o := by cases o <;> constructor <;> exact LE.refl _
theorem OLE.trans {a b c : Out} (h : OLE a b) (g : OLE b c) : OLE a c := by
  cases h with
  | nx h => cases g with | nx g => exact .nx (h.trans g)
  | rt h => cases g with | rt g => exact .rt (h.trans g)
  | bk h => cases g with | bk g => exact .bk (h.trans g)
  | ct h => cases g with | ct g => exact .ct (h.trans g)
def MonO (f : En → Option Out) : Prop := ∀ (e g : En) (o : Out), LE e g → f e = some o → ∃ o', f g = some o' ∧ OLE o o'
theorem MonO.none : MonO (fun _ => Option.none) := fun _ _ _ l h => by cases h
theorem MonO.bind {β : Type} {f : En → Option (β × En)} {k : β → En → Option Out} (hf : Mon f) (hk : ∀ b, MonO (k b)) : MonO fun e => (f e).bind fun p => k p.1 p.2 := fun e g o l h => by
  obtain ⟨⟨b, e2⟩, h1, h2⟩ := Option.bind_eq_some_iff.mp h
  obtain ⟨g2, h3, h4⟩ := hf _ _ _ _ l h1
  obtain ⟨o', h5, h6⟩ := hk b _ _ _ h4 h2
  exact ⟨o', by simp only [h3, Option.bind_some, h5], h6⟩
theorem MonO.env {f : En → Option En} (hf : ∀ {e g e1 : En}, LE e g → f e = some e1 → ∃ g1, f g = some g1 ∧ LE e1 g1) : MonO fun e => (f e).map Out.nx := fun e g o l h => by
  obtain ⟨e1, h1, h2⟩ := Option.map_eq_some_iff.mp h
  cases h2
  obtain ⟨g1, h3, l1⟩ := hf l h1
  exact ⟨.nx g1, by simp only [h3, Option.map_some], .nx l1⟩
theorem MonO.ite {c : Prop} [Decidable c] {f k : En → Option Out} (hf : MonO f) (hk : MonO k) : MonO fun e => if c then f e else k e := fun e g o l h => by
  by_cases hc : c
  · simp only [if_pos hc] at h ⊢; exact hf _ _ _ l h
  · simp only [if_neg hc] at h ⊢; exact hk _ _ _ l h
theorem whN_le {c : En → Option (Bool × En)} {b : En → Option Out} (hc : Mon c) (hb : MonO b) : ∀ {n : Nat}, MonO (whN c b n)
  | 0, e, g, o, l, h => by cases h
  | n + 1, e, g, o, l, h => by
    simp only [whN] at h ⊢
    obtain ⟨⟨k, e1⟩, h1, h⟩ := Option.bind_eq_some_iff.mp h
    obtain ⟨g1, k1, l1⟩ := hc _ _ _ _ l h1
    simp only [k1, Option.bind_some]
    cases k with
    | false =>
      simp only [Bool.false_eq_true, if_false] at h ⊢
      cases h
      exact ⟨_, rfl, .nx l1⟩
    | true =>
      simp only [if_true] at h ⊢
      obtain ⟨r, h2, h⟩ := Option.bind_eq_some_iff.mp h
      obtain ⟨r', k2, lr⟩ := hb _ _ _ l1 h2
      simp only [k2, Option.bind_some]
      cases lr with
      | nx l2 => exact whN_le hc hb _ _ _ l2 h
      | ct l2 => exact whN_le hc hb _ _ _ l2 h
      | bk l2 => cases h; exact ⟨_, rfl, .nx l2⟩
      | rt l2 => cases h; exact ⟨_, rfl, .rt l2⟩
theorem whC_le {c : En → Option (Bool × En)} {b : En → Option Out} (hc : Mon c) (hb : MonO b) : MonO (whC c b) := fun e g o l h => by
  obtain ⟨n, hn⟩ := whC_some h
  obtain ⟨o', h1, h2⟩ := whN_le hc hb _ _ _ l hn
  exact ⟨o', whC_of h1, h2⟩
theorem frL_le {t : T} {b : En → Option Out} (hb : MonO b) : ∀ {xs : List D}, MonO (frL t b xs)
  | [], e, g, o, l, h => by cases h; exact ⟨_, rfl, .nx l⟩
  | x :: xs, e, g, o, l, h => by
    simp only [frL] at h ⊢
    obtain ⟨e1, h1, h⟩ := Option.bind_eq_some_iff.mp h
    obtain ⟨g1, k1, l1⟩ := asgT_mono l h1
    obtain ⟨r, h2, h⟩ := Option.bind_eq_some_iff.mp h
    obtain ⟨r', k2, lr⟩ := hb _ _ _ l1 h2
    simp only [k1, Option.bind_some, k2]
    cases lr with
    | nx l2 => exact frL_le hb _ _ _ l2 h
    | ct l2 => exact frL_le hb _ _ _ l2 h
    | bk l2 => cases h; exact ⟨_, rfl, .nx l2⟩
    | rt l2 => cases h; exact ⟨_, rfl, .rt l2⟩
theorem isL_mono {e g : En} {x : Nat} (l : LE e g) (h : isL e[x]? = true) : isL g[x]? = true := by
  revert h
  cases hi : e[x]? with
  | none => intro z; cases z
  | some s => intro z; rw [l.same hi (by intro q; subst q; cases z)]; exact z
theorem MonO.isL {x : Nat} {f : En → Option Out} (hf : MonO f) : MonO fun e => if Mini.isL e[x]? then f e else Option.none := fun e g o l h => by
  by_cases hc : Mini.isL e[x]? = true
  · simp only [if_pos hc] at h
    simp only
    rw [if_pos (isL_mono l hc)]; exact hf _ _ _ l h
  · simp only [if_neg hc] at h; cases h
theorem app_mono {x : Nat} {d : D} : MonO (appS x d) := fun e g o l h => by
  unfold appS at h ⊢
  split at h
  · rename_i xs hi
    rw [l.same hi (by intro z; cases z)]
    simp only
    split at h
    · rename_i hl
      rw [if_pos hl]
      cases h
      exact ⟨_, rfl, .nx (l.set (.refl _))⟩
    · cases h
  · cases h
theorem ext_mono {x : Nat} {d : D} : MonO (extS x d) := fun e g o l h => by
  unfold extS at h ⊢
  split at h
  · rename_i xs ys hi
    rw [l.same hi (by intro z; cases z)]
    simp only
    split at h
    · rename_i hl
      rw [if_pos hl]
      cases h
      exact ⟨_, rfl, .nx (l.set (.refl _))⟩
    · cases h
  · cases h
theorem seti_mono {x : Nat} {i d : D} : MonO (setiS x i d) := fun e g o l h => by
  unfold setiS at h ⊢
  split at h
  · rename_i xs k hi
    rw [l.same hi (by intro z; cases z)]
    simp only
    obtain ⟨j, h1, h2⟩ := Option.map_eq_some_iff.mp h
    cases h2
    simp only [h1, Option.map_some]
    exact ⟨_, rfl, .nx (l.set (.refl _))⟩
  · cases h
mutual
theorem monC : ∀ c : C, MonO (ex P c)
  | .asg t e => by
    cases t with
    | nm i =>
      intro e0 g o l h
      rw [ex_asg] at h ⊢
      exact MonO.bind (k := fun (s : Sl) (e1 : En) => (setS i s e1).map .nx) (monE (P := P) e).val (fun s => MonO.env fun l h => setS_mono l h) _ _ _ l h
    | tp ts =>
      intro e0 g o l h
      rw [ex_unp] at h ⊢
      exact MonO.bind (k := fun (s : D) (e1 : En) => (asgT (.tp ts) s e1).map .nx) (monE (P := P) e).val.frz (fun s => MonO.env fun l h => asgT_mono l h) _ _ _ l h
  | .seti x i e => by
    intro e0 g o l h
    rw [ex_seti] at h ⊢
    exact MonO.bind (k := fun (d : D) (e1 : En) => if isL e1[x]? then ((ev P i).opd e1).bind fun t => (t.1.get t.2).bind fun k => setiS x k d t.2 else none) (monE (P := P) e).val.frz (fun d => MonO.isL (MonO.bind (k := fun (p : Opd) (e2 : En) => (p.get e2).bind fun k => setiS x k d e2) (monE (P := P) i).opd fun p => fun e g o l h => by
      obtain ⟨k, h1, h2⟩ := Option.bind_eq_some_iff.mp h
      obtain ⟨o', h3, h4⟩ := seti_mono _ _ _ l h2
      exact ⟨o', by simp only [get_mono l h1, Option.bind_some, h3], h4⟩)) _ _ _ l h
  | .aug i op e => by
    intro e0 g o l h
    cases hi : e0[i]? with
    | none => simp only [ex, hi] at h; cases h
    | some s =>
      cases s with
      | v a =>
        rw [ex_aug _ _ _ _ _ a hi] at h
        rw [ex_aug _ _ _ _ _ a (l.same hi (by intro z; cases z))]
        exact MonO.bind (k := fun (d : D) (e1 : En) => (augD op a d).bind fun s => (setS i s e1).map .nx) (monE (P := P) e).val.frz (fun d => fun e g o l h => by
          obtain ⟨k, h1, h2⟩ := Option.bind_eq_some_iff.mp h
          obtain ⟨o', h3, h4⟩ := (MonO.env (f := setS i k) fun l h => setS_mono l h) _ _ _ l h2
          exact ⟨o', by simp only [h1, Option.bind_some]; exact h3, h4⟩) _ _ _ l h
      | _ => simp only [ex, hi] at h; cases h
  | .augi x i op e => by
    intro e0 g o l h
    simp only [ex] at h ⊢
    refine MonO.isL (x := x) (f := fun env => ((ev P i).opd env).bind fun p => (p.1.get p.2).bind fun k => match p.2[x]?, k with
      | some (.l xs), .int n => (atI xs n).bind fun old => (frzM (ev P e).val p.2).bind fun q => (augD op old q.1).bind fun r => r.frz.bind fun z => setiS x k z q.2
      | _, _ => none) ?_ _ _ _ l h
    refine MonO.bind (k := fun (p : Opd) (e1 : En) => (p.get e1).bind fun k => match e1[x]?, k with
      | some (.l xs), .int n => (atI xs n).bind fun old => (frzM (ev P e).val e1).bind fun q => (augD op old q.1).bind fun r => r.frz.bind fun z => setiS x k z q.2
      | _, _ => none) (monE (P := P) i).opd fun p => fun e1 g1 o l h => ?_
    obtain ⟨k, h1, h2⟩ := Option.bind_eq_some_iff.mp h
    simp only [get_mono l h1, Option.bind_some]
    cases hi : e1[x]? with
    | none => rw [hi] at h2; cases h2
    | some s =>
      rw [hi] at h2
      cases s with
      | l xs =>
        rw [l.same hi (by intro z; cases z)]
        cases k with
        | int n =>
          simp only at h2 ⊢
          obtain ⟨old, h3, h4⟩ := Option.bind_eq_some_iff.mp h2
          simp only [h3, Option.bind_some]
          exact MonO.bind (k := fun (d : D) (e2 : En) => (augD op old d).bind fun r => r.frz.bind fun z => setiS x (.int n) z e2) (monE (P := P) e).val.frz (fun d => fun e g o l h => by
            obtain ⟨r, h5, h6⟩ := Option.bind_eq_some_iff.mp h
            obtain ⟨z, h7, h8⟩ := Option.bind_eq_some_iff.mp h6
            obtain ⟨o', h9, h10⟩ := seti_mono _ _ _ l h8
            exact ⟨o', by simp only [h5, Option.bind_some, h7, h9], h10⟩) _ _ _ l h4
        | _ => cases h2
      | _ => cases h2
  | .app x e => by
    intro e0 g o l h
    rw [ex_app] at h ⊢
    exact MonO.isL (MonO.bind (k := fun (d : D) (e1 : En) => appS x d e1) (monE (P := P) e).val.frz fun d => app_mono) _ _ _ l h
  | .ext x e => by
    intro e0 g o l h
    rw [ex_ext] at h ⊢
    exact MonO.isL (MonO.bind (k := fun (d : D) (e1 : En) => extS x d e1) (monE (P := P) e).val.frz fun d => ext_mono) _ _ _ l h
  | .expr e => by
    intro e0 g o l h
    rw [ex_expr] at h ⊢
    obtain ⟨⟨s, e1⟩, h1, h2⟩ := Option.map_eq_some_iff.mp h
    cases h2
    obtain ⟨g1, k1, l1⟩ := (monE (P := P) e).val _ _ _ _ l h1
    exact ⟨.nx g1, by simp only [k1, Option.map_some], .nx l1⟩
  | .ret e => by
    intro e0 g o l h
    rw [ex_ret] at h ⊢
    obtain ⟨⟨s, e1⟩, h1, h2⟩ := Option.map_eq_some_iff.mp h
    cases h2
    obtain ⟨g1, k1, l1⟩ := (monE (P := P) e).val _ _ _ _ l h1
    exact ⟨.rt s g1, by simp only [k1, Option.map_some], .rt l1⟩
  | .ife c a b => by
    intro e0 g o l h
    rw [ex_ife] at h ⊢
    exact MonO.bind (k := fun (k : Bool) (e1 : En) => if k then exs P a e1 else exs P b e1) (monE (P := P) c).tst (fun k => MonO.ite (monCs a) (monCs b)) _ _ _ l h
  | .wh c b => by
    intro e0 g o l h
    rw [ex_wh] at h ⊢
    exact whC_le (monE (P := P) c).tst (monCs b) _ _ _ l h
  | .fr t k its b => by
    intro e0 g o l h
    rw [ex_fr] at h ⊢
    have hm : ∀ m ∈ (evs P its).map frO, MonM m := fun m hm => by
      obtain ⟨m', h1, rfl⟩ := List.mem_map.mp hm
      have q := monEs (P := P) its m' h1
      exact ⟨q.val, Mon.map (k := fun d => Opd.d d) q.val.frz, q.tst⟩
    refine MonO.bind (k := fun (ps : List Opd) (e1 : En) => (gets e1 ps).bind fun ds => (itemsOf k ds).bind fun xs => frL t (exs P b) xs e1) (Mon.ops hm) (fun ps => fun e g o l h => ?_) _ _ _ l h
    obtain ⟨ds, h1, h2⟩ := Option.bind_eq_some_iff.mp h
    obtain ⟨xs, h3, h4⟩ := Option.bind_eq_some_iff.mp h2
    simp only [gets_mono l h1, Option.bind_some, h3]
    exact frL_le (monCs b) _ _ _ l h4
  | .brk => by
    intro e0 g o l h
    rw [ex_brk] at h ⊢
    cases h; exact ⟨_, rfl, .bk l⟩
  | .cont => by
    intro e0 g o l h
    rw [ex_cont] at h ⊢
    cases h; exact ⟨_, rfl, .ct l⟩
  | .pass => by
    intro e0 g o l h
    rw [ex_pass] at h ⊢
    cases h; exact ⟨_, rfl, .nx l⟩
  | .never => by
    intro e0 g o l h
    simp only [ex] at h
    cases h
theorem monCs : ∀ cs : List C, MonO (exs P cs)
  | [] => by
    intro e0 g o l h
    rw [exs_nil] at h ⊢
    cases h; exact ⟨_, rfl, .nx l⟩
  | c :: cs => by
    intro e0 g o l h
    rw [exs_cons] at h ⊢
    obtain ⟨r, h1, h2⟩ := Option.bind_eq_some_iff.mp h
    obtain ⟨r', k1, lr⟩ := monC c _ _ _ l h1
    simp only [k1, Option.bind_some]
    cases lr with
    | nx l2 => exact monCs cs _ _ _ l2 h2
    | ct l2 => cases h2; exact ⟨_, rfl, .ct l2⟩
    | bk l2 => cases h2; exact ⟨_, rfl, .bk l2⟩
    | rt l2 => cases h2; exact ⟨_, rfl, .rt l2⟩
end
end
end Mini

namespace Mini
open PySem PySem.Spec L2
/-! runs, told by what they come to at least -/
inductive Oc where
  | nx (e : En) | rt (s : Sl) | rb (s : Sl) (cs rs : List Int) | bk (e : En) | ct (e : En)
def Oc.sat : Oc → Out → Prop
  | .nx e, .nx f => LE e f
  | .rt s, .rt t _ => s = t
  | .rb s cs rs, .rt t (.bx cs2 rs2 :: _) => s = t ∧ cs = cs2 ∧ rs = rs2
  | .bk e, .bk f => LE e f
  | .ct e, .ct f => LE e f
  | _, _ => False
theorem Oc.mono {q : Oc} {o o' : Out} (h : q.sat o) (l : OLE o o') : q.sat o' := by
  cases l with
  | nx l => cases q <;> first | exact h.elim | exact LE.trans h l
  | bk l => cases q <;> first | exact h.elim | exact LE.trans h l
  | ct l => cases q <;> first | exact h.elim | exact LE.trans h l
  | @rt s e g l =>
    cases q with
    | rt t => exact h
    | rb t cs rs =>
      cases l with
      | nil => exact h.elim
      | @cons a b as bs h1 h2 =>
        cases a with
        | bx cs2 rs2 =>
          rcases h1 with rfl | ⟨z, _⟩
          · exact h
          · cases z
        | _ => exact h.elim
    | _ => exact h.elim
def Go (P : Ph) (cs : List C) (e : En) (q : Oc) : Prop := ∃ o, exs P cs e = some o ∧ q.sat o
def Go1 (P : Ph) (c : C) (e : En) (q : Oc) : Prop := ∃ o, ex P c e = some o ∧ q.sat o
def GoF (P : Ph) (t : T) (b : List C) (xs : List D) (e : En) (q : Oc) : Prop := ∃ o, frL t (exs P b) xs e = some o ∧ q.sat o
section
variable {P : Ph}
theorem Go.le {cs : List C} {e f : En} {q : Oc} (h : Go P cs e q) (l : LE e f) : Go P cs f q := by
  obtain ⟨o, h1, h2⟩ := h
  obtain ⟨o', h3, h4⟩ := monCs (P := P) cs _ _ _ l h1
  exact ⟨o', h3, Oc.mono h2 h4⟩
theorem Go1.le {c : C} {e f : En} {q : Oc} (h : Go1 P c e q) (l : LE e f) : Go1 P c f q := by
  obtain ⟨o, h1, h2⟩ := h
  obtain ⟨o', h3, h4⟩ := monC (P := P) c _ _ _ l h1
  exact ⟨o', h3, Oc.mono h2 h4⟩
theorem GoF.le {t : T} {b : List C} {xs : List D} {e f : En} {q : Oc} (h : GoF P t b xs e q) (l : LE e f) : GoF P t b xs f q := by
  obtain ⟨o, h1, h2⟩ := h
  obtain ⟨o', h3, h4⟩ := frL_le (monCs (P := P) b) _ _ _ l h1
  exact ⟨o', h3, Oc.mono h2 h4⟩
theorem sat_nx {e f : En} {o : Out} (l : LE e f) (h : (Oc.nx f).sat o) : (Oc.nx e).sat o := by
  cases o <;> first | exact h.elim | exact l.trans h
theorem Go.low {cs : List C} {e f g : En} (h : Go P cs e (.nx f)) (l : LE g f) : Go P cs e (.nx g) := by
  obtain ⟨o, h1, h2⟩ := h
  exact ⟨o, h1, sat_nx l h2⟩
theorem GoF.low {t : T} {b : List C} {xs : List D} {e f g : En} (h : GoF P t b xs e (.nx f)) (l : LE g f) : GoF P t b xs e (.nx g) := by
  obtain ⟨o, h1, h2⟩ := h
  exact ⟨o, h1, sat_nx l h2⟩
theorem Go.of {cs : List C} {e f : En} (h : exs P cs e = some (.nx f)) : Go P cs e (.nx f) := ⟨_, h, LE.refl f⟩
theorem Go.rtOf {cs : List C} {e f : En} {s : Sl} (h : exs P cs e = some (.rt s f)) : Go P cs e (.rt s) := ⟨_, h, rfl⟩
theorem Go1.of {c : C} {e f : En} (h : ex P c e = some (.nx f)) : Go1 P c e (.nx f) := ⟨_, h, LE.refl f⟩
theorem Go1.rtOf {c : C} {e f : En} {s : Sl} (h : ex P c e = some (.rt s f)) : Go1 P c e (.rt s) := ⟨_, h, rfl⟩
theorem Go.nil {e f : En} (l : LE f e) : Go P [] e (.nx f) := ⟨_, exs_nil P e, l⟩
theorem Go.cons {c : C} {cs : List C} {e f : En} {q : Oc} (h : Go1 P c e (.nx f)) (g : Go P cs f q) : Go P (c :: cs) e q := by
  obtain ⟨o, h1, h2⟩ := h
  cases o with
  | nx f2 =>
    obtain ⟨o2, g1, g2⟩ := g.le h2
    exact ⟨o2, by rw [exs_cons, h1, Option.bind_some, thenO_nx, g1], g2⟩
  | _ => exact h2.elim
theorem Go.rt {c : C} {cs : List C} {e : En} {s : Sl} (h : Go1 P c e (.rt s)) : Go P (c :: cs) e (.rt s) := by
  obtain ⟨o, h1, h2⟩ := h
  cases o with
  | rt s2 f2 => exact ⟨_, by rw [exs_cons, h1, Option.bind_some, thenO_rt], h2⟩
  | _ => exact h2.elim
theorem Go.ct {c : C} {cs : List C} {e f : En} (h : Go1 P c e (.ct f)) : Go P (c :: cs) e (.ct f) := by
  obtain ⟨o, h1, h2⟩ := h
  cases o with
  | ct f2 => exact ⟨_, by rw [exs_cons, h1, Option.bind_some, thenO_ct], h2⟩
  | _ => exact h2.elim
theorem Go.bk {c : C} {cs : List C} {e f : En} (h : Go1 P c e (.bk f)) : Go P (c :: cs) e (.bk f) := by
  obtain ⟨o, h1, h2⟩ := h
  cases o with
  | bk f2 => exact ⟨_, by rw [exs_cons, h1, Option.bind_some, thenO_bk], h2⟩
  | _ => exact h2.elim
theorem Go.rb {c : C} {cs : List C} {e : En} {s : Sl} {ds rs : List Int} (h : Go1 P c e (.rb s ds rs)) : Go P (c :: cs) e (.rb s ds rs) := by
  obtain ⟨o, h1, h2⟩ := h
  cases o with
  | rt s2 f2 => exact ⟨_, by rw [exs_cons, h1, Option.bind_some, thenO_rt], h2⟩
  | _ => exact h2.elim
/-- statements in front, run by the simplifier -/
theorem Go.app {as bs : List C} {e f : En} {q : Oc} (h : Go P as e (.nx f)) (g : Go P bs f q) : Go P (as ++ bs) e q := by
  induction as generalizing e with
  | nil =>
    obtain ⟨o, h1, h2⟩ := h
    rw [exs_nil] at h1
    cases h1
    exact g.le h2
  | cons a as ih =>
    obtain ⟨o, h1, h2⟩ := h
    rw [exs_cons] at h1
    obtain ⟨r, h3, h4⟩ := Option.bind_eq_some_iff.mp h1
    cases r with
    | nx e2 =>
      rw [thenO_nx] at h4
      obtain ⟨o2, g1, g2⟩ := ih ⟨o, h4, h2⟩
      exact ⟨o2, by rw [List.cons_append, exs_cons, h3, Option.bind_some, thenO_nx, g1], g2⟩
    | rt s e2 => cases h4; exact h2.elim
    | bk e2 => cases h4; exact h2.elim
    | ct e2 => cases h4; exact h2.elim
theorem Go.ret {e f : E} {en en2 : En} {s : Sl} {cs : List C} (h : (ev P e).val en = some (s, en2)) : Go P (.ret e :: cs) en (.rt s) :=
  Go.rt ⟨.rt s en2, by rw [ex_ret, h]; rfl, rfl⟩
theorem Go.ife {c : E} {a b cs : List C} {e e1 : En} {k : Bool} {q : Oc} (h : (ev P c).tst e = some (k, e1)) (g : Go P ((if k then a else b) ++ cs) e1 q) : Go P (.ife c a b :: cs) e q := by
  obtain ⟨o, g1, g2⟩ := g
  refine ⟨o, ?_, g2⟩
  rw [exs_cons, ex_ife, h, Option.bind_some]
  have key : ∀ as : List C, exs P (as ++ cs) e1 = (exs P as e1).bind (thenO P cs) := by
    intro as
    have : ∀ (as : List C) (e1 : En), exs P (as ++ cs) e1 = (exs P as e1).bind (thenO P cs) := by
      intro as
      induction as with
      | nil => intro e1; simp
      | cons a as ih =>
        intro e1
        rw [List.cons_append, exs_cons, exs_cons, Option.bind_assoc]
        congr 1
        funext r
        cases r with
        | nx e2 => exact ih e2
        | _ => rfl
    exact this as e1
  cases k with
  | true => rw [if_pos rfl] at g1; simp only [if_true]; rw [← key]; exact g1
  | false =>
    rw [if_neg (by decide)] at g1
    simp only [Bool.false_eq_true, if_false]; rw [← key]; exact g1
/-- loops -/
theorem GoF.nil {t : T} {b : List C} {e f : En} (l : LE f e) : GoF P t b [] e (.nx f) := ⟨.nx e, rfl, l⟩
theorem GoF.cons {t : T} {b : List C} {x : D} {xs : List D} {e e1 e2 : En} {q : Oc} (h1 : asgT t x e = some e1) (h2 : Go P b e1 (.nx e2) ∨ Go P b e1 (.ct e2)) (h3 : GoF P t b xs e2 q) : GoF P t b (x :: xs) e q := by
  rcases h2 with ⟨o, h4, h5⟩ | ⟨o, h4, h5⟩
  · cases o with
    | nx e3 =>
      obtain ⟨o2, h6, h7⟩ := h3.le h5
      exact ⟨o2, by simp only [frL, h1, h4, Option.bind_some, h6], h7⟩
    | _ => exact h5.elim
  · cases o with
    | ct e3 =>
      obtain ⟨o2, h6, h7⟩ := h3.le h5
      exact ⟨o2, by simp only [frL, h1, h4, Option.bind_some, h6], h7⟩
    | _ => exact h5.elim
theorem GoF.rt {t : T} {b : List C} {x : D} {xs : List D} {e e1 : En} {s : Sl} (h1 : asgT t x e = some e1) (h2 : Go P b e1 (.rt s)) : GoF P t b (x :: xs) e (.rt s) := by
  obtain ⟨o, h4, h5⟩ := h2
  cases o with
  | rt s2 e3 => exact ⟨_, by simp only [frL, h1, h4, Option.bind_some], h5⟩
  | _ => exact h5.elim
theorem GoF.bk {t : T} {b : List C} {x : D} {xs : List D} {e e1 e2 : En} (h1 : asgT t x e = some e1) (h2 : Go P b e1 (.bk e2)) : GoF P t b (x :: xs) e (.nx e2) := by
  obtain ⟨o, h4, h5⟩ := h2
  cases o with
  | bk e3 => exact ⟨.nx e3, by simp only [frL, h1, h4, Option.bind_some], show LE e2 e3 from h5⟩
  | _ => exact h5.elim
theorem Go1.fr {t : T} {k : IK} {its : List E} {b : List C} {e e1 : En} {ps : List Opd} {ds xs : List D} {q : Oc} (h1 : opsM ((evs P its).map frO) e = some (ps, e1)) (h2 : gets e1 ps = some ds) (h3 : itemsOf k ds = some xs) (h4 : GoF P t b xs e1 q) : Go1 P (.fr t k its b) e q := by
  obtain ⟨o, h5, h6⟩ := h4
  exact ⟨o, by rw [fr_of h1 h2 h3, h5], h6⟩
/-- a loop by the places of its items -/
theorem GoF.idx {t : T} {b : List C} (E : Nat → En) : ∀ (xs : List D) (j : Nat), (∀ (i : Nat) (x : D), xs[i]? = some x → ∃ e1, asgT t x (E (j + i)) = some e1 ∧ (Go P b e1 (.nx (E (j + i + 1))) ∨ Go P b e1 (.ct (E (j + i + 1))))) → GoF P t b xs (E j) (.nx (E (j + xs.length)))
  | [], j, h => .nil (.refl _)
  | x :: xs, j, h => by
    obtain ⟨e1, h1, h2⟩ := h 0 x rfl
    have := GoF.idx E xs (j + 1) fun i y hy => by
      have := h (i + 1) y (by simpa using hy)
      have e : j + (i + 1) = j + 1 + i := by omega
      rw [e] at this
      exact this
    have e : j + 1 + xs.length = j + (x :: xs).length := by simp only [List.length_cons]; omega
    rw [e] at this
    exact .cons h1 h2 this
theorem GoF.idx0 {t : T} {b : List C} (E : Nat → En) (xs : List D) (h : ∀ (i : Nat) (x : D), xs[i]? = some x → ∃ e1, asgT t x (E i) = some e1 ∧ (Go P b e1 (.nx (E (i + 1))) ∨ Go P b e1 (.ct (E (i + 1))))) : GoF P t b xs (E 0) (.nx (E xs.length)) := by
  have := GoF.idx (P := P) (t := t) (b := b) E xs 0 (by simpa using h)
  simpa using this
theorem rngL_at {a : Int} {n i : Nat} {x : D} (h : (rngL a n)[i]? = some x) : i < n ∧ x = .int (a + i) := by
  unfold rngL at h
  rw [List.getElem?_map] at h
  obtain ⟨k, h1, h2⟩ := Option.map_eq_some_iff.mp h
  obtain ⟨h3, h4⟩ := List.getElem?_eq_some_iff.mp h1
  simp only [List.length_range] at h3
  simp only [List.getElem_range] at h4
  subst h4
  exact ⟨h3, h2.symm⟩
theorem rngL_len (a : Int) (n : Nat) : (rngL a n).length = n := by simp [rngL]
theorem GoF.rng {t : T} {b : List C} (E : Nat → En) (a : Int) (n : Nat) (h : ∀ i, i < n → ∃ e1, asgT t (.int (a + i)) (E i) = some e1 ∧ (Go P b e1 (.nx (E (i + 1))) ∨ Go P b e1 (.ct (E (i + 1))))) : GoF P t b (rngL a n) (E 0) (.nx (E n)) := by
  have := GoF.idx0 (P := P) (t := t) (b := b) E (rngL a n) fun i x hx => by
    obtain ⟨h1, rfl⟩ := rngL_at hx
    exact h i h1
  rw [rngL_len] at this
  exact this
/-- a loop whose state is told by a property -/
theorem GoF.inv {t : T} {b : List C} (J : Nat → En → Prop) : ∀ (xs : List D) (j : Nat) (e : En), (∀ (i : Nat) (x : D) (e : En), xs[i]? = some x → J (j + i) e → ∃ e1 e2, asgT t x e = some e1 ∧ (Go P b e1 (.nx e2) ∨ Go P b e1 (.ct e2)) ∧ J (j + i + 1) e2) → J j e → ∃ e2, J (j + xs.length) e2 ∧ GoF P t b xs e (.nx e2)
  | [], j, e, h, q => ⟨e, q, .nil (.refl _)⟩
  | x :: xs, j, e, h, q => by
    obtain ⟨e1, e2, h1, h2, h3⟩ := h 0 x e rfl q
    obtain ⟨e3, h4, h5⟩ := GoF.inv J xs (j + 1) e2 (fun i y e hy q => by
      have eq : j + (i + 1) = j + 1 + i := by omega
      have := h (i + 1) y e (by simpa using hy) (by rw [eq]; exact q)
      rw [eq] at this
      exact this) h3
    have eq : j + 1 + xs.length = j + (x :: xs).length := by simp only [List.length_cons]; omega
    rw [eq] at h4
    exact ⟨e3, h4, .cons h1 h2 h5⟩
/-- the first item at which the loop ends the function -/
theorem GoF.rtAt {t : T} {b : List C} {s : Sl} (E : Nat → En) : ∀ (xs : List D) (j k : Nat), k < xs.length → (∀ (i : Nat) (x : D), i < k → xs[i]? = some x → ∃ e1, asgT t x (E (j + i)) = some e1 ∧ (Go P b e1 (.nx (E (j + i + 1))) ∨ Go P b e1 (.ct (E (j + i + 1))))) → (∀ x, xs[k]? = some x → ∃ e1, asgT t x (E (j + k)) = some e1 ∧ Go P b e1 (.rt s)) → GoF P t b xs (E j) (.rt s)
  | [], j, k, hk, h, g => by simp at hk
  | x :: xs, j, 0, hk, h, g => by
    obtain ⟨e1, h1, h2⟩ := g x rfl
    exact .rt h1 h2
  | x :: xs, j, k + 1, hk, h, g => by
    obtain ⟨e1, h1, h2⟩ := h 0 x (by omega) rfl
    have := GoF.rtAt E xs (j + 1) k (by simpa using hk) (fun i y hi hy => by
      have := h (i + 1) y (by omega) (by simpa using hy)
      have e : j + (i + 1) = j + 1 + i := by omega
      rw [e] at this
      exact this) (fun y hy => by
      have := g y (by simpa using hy)
      have e : j + (k + 1) = j + 1 + k := by omega
      rw [e] at this
      exact this)
    exact .cons h1 h2 this
theorem Go1.wh {c : E} {b : List C} {e e1 e2 : En} {q : Oc} (h : (ev P c).tst e = some (true, e1)) (g : Go P b e1 (.nx e2)) (r : Go1 P (.wh c b) e2 q) : Go1 P (.wh c b) e q := by
  obtain ⟨o, g1, g2⟩ := g
  cases o with
  | nx e3 =>
    obtain ⟨o2, r1, r2⟩ := r.le g2
    rw [ex_wh] at r1
    exact ⟨o2, by rw [ex_wh, whC_step h g1 r1], r2⟩
  | _ => exact g2.elim
theorem Go1.whEnd {c : E} {b : List C} {e e1 f : En} (h : (ev P c).tst e = some (false, e1)) (l : LE f e1) : Go1 P (.wh c b) e (.nx f) :=
  ⟨.nx e1, by rw [ex_wh, whC_end h], l⟩
theorem Go1.whRt {c : E} {b : List C} {e e1 : En} {s : Sl} (h : (ev P c).tst e = some (true, e1)) (g : Go P b e1 (.rt s)) : Go1 P (.wh c b) e (.rt s) := by
  obtain ⟨o, g1, g2⟩ := g
  cases o with
  | rt s2 e3 => exact ⟨_, by rw [ex_wh, whC_ret h g1], g2⟩
  | _ => exact g2.elim
/-- a while by its number of turns -/
theorem Go1.whN {c : E} {b : List C} (E : Nat → En) : ∀ (n j : Nat), (∀ i, i < n → (ev P c).tst (E (j + i)) = some (true, E (j + i)) ∧ Go P b (E (j + i)) (.nx (E (j + i + 1)))) → (ev P c).tst (E (j + n)) = some (false, E (j + n)) → Go1 P (.wh c b) (E j) (.nx (E (j + n)))
  | 0, j, h, g => .whEnd g (.refl _)
  | n + 1, j, h, g => by
    obtain ⟨h1, h2⟩ := h 0 (by omega)
    have e : j + (n + 1) = j + 1 + n := by omega
    rw [e] at g ⊢
    have := Go1.whN E n (j + 1) (fun i hi => by
      have := h (i + 1) (by omega)
      have e : j + (i + 1) = j + 1 + i := by omega
      rw [e] at this
      exact this) g
    exact .wh h1 h2 this
end
/-- a function's answer -/
theorem fn_go {es : List Entry} {d j : Nat} {i : FnI} {as : List Sl} {s : Sl} (h : es[j]? = some (.user i)) (hl : as.length = i.ps.length) (hb : hasBx as = i.b) (hx : Go (callN (tbOf es) d) i.body (as ++ List.replicate (i.N.length - i.ps.length) .no) (.rt s)) : retOf (callN (tbOf es) (d + 1)) j as = some s := by
  obtain ⟨o, h1, h2⟩ := hx
  cases o with
  | rt s2 e => cases h2; exact ret_user h hl hb h1
  | _ => exact h2.elim
theorem fn_goB {es : List Entry} {d j : Nat} {i : FnI} {as : List Sl} {s : Sl} {cs rs : List Int} (h : es[j]? = some (.user i)) (hl : as.length = i.ps.length) (hb : hasBx as = i.b) (hx : Go (callN (tbOf es) d) i.body (as ++ List.replicate (i.N.length - i.ps.length) .no) (.rb s cs rs)) : retB (callN (tbOf es) (d + 1)) j as = some (s, .bx cs rs) := by
  obtain ⟨o, h1, h2⟩ := hx
  cases o with
  | rt s2 e =>
    cases e with
    | nil => exact h2.elim
    | cons b e =>
      cases b with
      | bx cs2 rs2 =>
        obtain ⟨rfl, rfl, rfl⟩ := h2
        exact retB_user h hl hb h1
      | _ => exact h2.elim
  | _ => exact h2.elim
/-! the order, for the simplifier -/
@[simp] theorem le_nil : LE [] [] := .nil
@[simp] theorem le_cons {a b : Sl} {as bs : En} : LE (a :: as) (b :: bs) ↔ sle a b ∧ LE as bs := ⟨fun h => by cases h with | cons h1 h2 => exact ⟨h1, h2⟩, fun h => .cons h.1 h.2⟩
@[simp] theorem sle_self (a : Sl) : sle a a := .refl a
@[simp] theorem sle_nov (d : D) : sle .no (.v d) := .inr ⟨rfl, rfl⟩
@[simp] theorem sle_nol (d : List D) : sle .no (.l d) := .inr ⟨rfl, rfl⟩
@[simp] theorem sle_nos (d : List Int) : sle .no (.sc d) := .inr ⟨rfl, rfl⟩
theorem sle_nob {s : Sl} (h : s.isBx = false) : sle .no s := .inr ⟨rfl, h⟩
/-! comprehensions that leave the names as they are -/
theorem rest_self {e : En} : ∀ {own : List Nat}, wipeE e own = e → restE e e own = e := fun {own} h => by
  have key : ∀ (o2 : List Nat), (∀ i ∈ o2, i ∈ own) → restE e e o2 = e := by
    intro o2
    induction o2 with
    | nil => intro _; rfl
    | cons i r ih =>
      intro hi
      have h1 := wipe_no (e := e) (hi i List.mem_cons_self)
      rw [h] at h1
      unfold restE
      rw [ih fun j hj => hi j (List.mem_cons_of_mem _ hj)]
      rcases h1 with h1 | h1 <;> rw [h1]
  exact key own fun _ h => h
theorem still_self {e : En} : ∀ {ps : List Opd}, stillB e e ps
  | [] => trivial
  | .d _ :: r => still_self (ps := r)
  | .s i :: r => ⟨rfl, still_self (ps := r)⟩
section
variable {P : Ph} {t : T} {k : IK} {its cond : List E} {elt : E} {own : List Nat} {e : En} {ps : List Opd} {ds xs : List D}
/-- each item, in an environment whose own names are free -/
theorem lc_of (f : D → D) (g : D → Bool) (hw : wipeE e own = e) (h1 : opsM (evs P its) e = some (ps, e)) (h2 : gets e ps = some ds) (h3 : itemsOf k ds = some xs)
    (h : ∀ x ∈ xs, ∃ e1, asgT t x e = some e1 ∧ wipeE e1 own = e ∧ condM (evs P cond) e1 = some (g x, e1) ∧ (g x = true → frzM (ev P elt).val e1 = some (f x, e1))) :
    (ev P (.lc t k its cond elt own)).val e = some (.l ((xs.filter g).map f), e) := by
  rw [ev_lc, lcM_of h1 h2 h3 (by rw [hw]; exact still_self) (by rw [hw]; exact lc_gen f g still_self xs h), rest_self hw]
theorem lc_of0 (f : D → D) (hw : wipeE e own = e) (h1 : opsM (evs P its) e = some (ps, e)) (h2 : gets e ps = some ds) (h3 : itemsOf k ds = some xs)
    (h : ∀ x ∈ xs, ∃ e1, asgT t x e = some e1 ∧ wipeE e1 own = e ∧ frzM (ev P elt).val e1 = some (f x, e1)) :
    (ev P (.lc t k its [] elt own)).val e = some (.l (xs.map f), e) := by
  rw [ev_lc, evs_nil, lcM_of h1 h2 h3 (by rw [hw]; exact still_self) (by rw [hw]; exact lc_map f still_self xs h), rest_self hw]
end
theorem cmp_eqS {a b : D} (h : SeqAt.shaped a = true) (h2 : SeqAt.shaped b = true) : cmpD .Eq a b = some (.v (.bool (PyData.eqv a b))) := by
  simp only [cmpD, h, h2, and_self, if_true, b2s]
theorem cmp_neS {a b : D} (h : SeqAt.shaped a = true) (h2 : SeqAt.shaped b = true) : cmpD .NotEq a b = some (.v (.bool (!PyData.eqv a b))) := by
  simp only [cmpD, h, h2, and_self, if_true, b2s]
/-- the law's drawing -/
theorem draw_ok {es : List Entry} {j : Nat} (h : es[j]? = some (.prim 1 primDraw)) {d : Nat} (hd : 2 ≤ d) (cs : List Int) (a b m : Int) (hm : 0 < m) (hm2 : m ≤ 1000000000000000000) : ∃ (x : Int) (cs2 : List Int) (a2 b2 : Int), retB (callN (tbOf es) d) j [.bx cs [a, b], .v (.int m)] = some (.v (.int x), .bx cs2 [a2, b2]) ∧ 0 ≤ x ∧ x < m := by
  obtain ⟨d, rfl⟩ : ∃ d', d = d' + 1 := ⟨d - 1, by omega⟩
  have dv : divOk m := ⟨hm, by
    have h0 : m.natAbs ≠ 0 := by omega
    have h1 : m.natAbs < 2 ^ 64 := by omega
    have := (Nat.log2_lt h0).mpr h1
    omega⟩
  have e : retB (callN (tbOf es) (d + 1)) j [.bx cs [a, b], .v (.int m)] = some (.v (.int (boxTake cs a b m).1), .bx (boxTake cs a b m).2.1 [(boxTake cs a b m).2.2.1, (boxTake cs a b m).2.2.2]) := by
    unfold retB
    rw [call_prim (m := 1) (g := primDraw) h (by omega)]
    simp [primDraw, dv]
  refine ⟨_, _, _, _, e, ?_⟩
  unfold boxTake
  split
  · exact ⟨Int.emod_nonneg _ (by omega), Int.emod_lt_of_pos _ hm⟩
  · exact ⟨Int.emod_nonneg _ (by omega), Int.emod_lt_of_pos _ hm⟩
end Mini

namespace Law
open PySem PySem.Spec L2 Mini
def top (i : Nat) : Stmt := PySem.Challenge.pw_pantrykept_k91_whole_freezers.main.body.getD i (.Pass ⟨0, 0, 0, 0⟩)
def b_common_divisor : List C := [(.asg (.tp [(.nm 0), (.nm 1)]) (.tup [(.blt .abs [(.var 0)]), (.blt .abs [(.var 1)])])),
    (.wh (.var 1) [(.asg (.tp [(.nm 0), (.nm 1)]) (.tup [(.var 1), (.bin .Mod (.var 0) (.var 1))]))]),
    (.ret (.var 0))]
def i_common_divisor : FnI := ⟨"common_divisor", top 4, ["a", "b"], ["a", "b"], b_common_divisor, false⟩
def b_ratio : List C := [(.ife (.cmp .Eq (.var 1) (.cst (.int 0))) [.never] []),
    (.ife (.cmp .Lt (.var 1) (.cst (.int 0))) [(.asg (.tp [(.nm 0), (.nm 1)]) (.tup [(.neg (.var 0)), (.neg (.var 1))]))] []),
    (.asg (.nm 2) (.call 0 [(.var 0), (.var 1)])),
    (.ret (.tup [(.bin .FloorDiv (.var 0) (.var 2)), (.bin .FloorDiv (.var 1) (.var 2))]))]
def i_ratio : FnI := ⟨"ratio", top 5, ["p", "q"], ["p", "q", "d"], b_ratio, false⟩
def b_less : List C := [(.ret (.cmp .Lt (.bin .Mult (.idx (.var 0) (.cst (.int 0))) (.idx (.var 1) (.cst (.int 1)))) (.bin .Mult (.idx (.var 1) (.cst (.int 0))) (.idx (.var 0) (.cst (.int 1))))))]
def i_less : FnI := ⟨"less", top 6, ["one", "other"], ["one", "other"], b_less, false⟩
def b_cost_hired : List C := [(.ret (.ite (.cmp .Lt (.var 2) (.var 1)) (.var 2) (.bin .Add (.bin .Sub (.var 1) (.cst (.int 1))) (.var 0))))]
def i_cost_hired : FnI := ⟨"cost_hired", top 9, ["price", "day", "needed"], ["price", "day", "needed"], b_cost_hired, false⟩
def b_best_known : List C := [(.ret (.blt .min [(.var 0), (.var 1)]))]
def i_best_known : FnI := ⟨"best_known", top 10, ["price", "needed"], ["price", "needed"], b_best_known, false⟩
def b_worst_ratio : List C := [(.ret (.call 1 [(.bin .Add (.bin .Sub (.var 1) (.cst (.int 1))) (.var 0)), (.blt .min [(.var 0), (.var 1)])]))]
def i_worst_ratio : FnI := ⟨"worst_ratio", top 11, ["price", "day"], ["price", "day"], b_worst_ratio, false⟩
def b_best_day : List C := [(.asg (.nm 1) (.cst (.int 1))),
    (.fr (.nm 2) .rng [(.cst (.int 2)), (.bin .Add (.var 0) (.cst (.int 1)))] [(.ife (.call 2 [(.call 5 [(.var 0), (.var 2)]), (.call 5 [(.var 0), (.var 1)])]) [(.asg (.nm 1) (.var 2))] [])]),
    (.ret (.var 1))]
def i_best_day : FnI := ⟨"best_day", top 12, ["price"], ["price", "found", "day"], b_best_day, false⟩
def b_never_ratio : List C := [(.ret (.call 1 [(.var 1), (.call 4 [(.var 0), (.var 1)])]))]
def i_never_ratio : FnI := ⟨"never_ratio", top 13, ["price", "needed"], ["price", "needed"], b_never_ratio, false⟩
def b_adversary : List C := [(.ret (.var 1))]
def i_adversary : FnI := ⟨"adversary", top 14, ["price", "day"], ["price", "day"], b_adversary, false⟩
def b_beats : List C := [(.ret (.call 2 [(.call 5 [(.var 0), (.var 1)]), (.call 5 [(.var 0), (.var 2)])]))]
def i_beats : FnI := ⟨"beats", top 15, ["price", "one", "other"], ["price", "one", "other"], b_beats, false⟩
def b_average_cost : List C := [(.asg (.tp [(.nm 3), (.nm 4)]) (.tup [(.tup [(.cst (.int 0)), (.cst (.int 1))]), (.tup [(.cst (.int 0)), (.cst (.int 1))])])),
    (.fr (.tp [(.nm 5), (.nm 6)]) .enum [(.var 2)] [(.asg (.nm 7) (.call 3 [(.var 0), (.var 1), (.bin .Add (.var 5) (.cst (.int 1)))])),
    (.asg (.nm 3) (.call 1 [(.bin .Add (.bin .Mult (.idx (.var 3) (.cst (.int 0))) (.idx (.var 6) (.cst (.int 1)))) (.bin .Mult (.bin .Mult (.var 7) (.idx (.var 6) (.cst (.int 0)))) (.idx (.var 3) (.cst (.int 1))))), (.bin .Mult (.idx (.var 3) (.cst (.int 1))) (.idx (.var 6) (.cst (.int 1))))])),
    (.asg (.nm 4) (.call 1 [(.bin .Add (.bin .Mult (.idx (.var 4) (.cst (.int 0))) (.idx (.var 6) (.cst (.int 1)))) (.bin .Mult (.idx (.var 6) (.cst (.int 0))) (.idx (.var 4) (.cst (.int 1))))), (.bin .Mult (.idx (.var 4) (.cst (.int 1))) (.idx (.var 6) (.cst (.int 1))))]))]),
    (.ret (.call 1 [(.bin .Mult (.idx (.var 3) (.cst (.int 0))) (.idx (.var 4) (.cst (.int 1)))), (.bin .Mult (.idx (.var 3) (.cst (.int 1))) (.idx (.var 4) (.cst (.int 0))))]))]
def i_average_cost : FnI := ⟨"average_cost", top 16, ["price", "day", "chances"], ["price", "day", "chances", "total", "whole", "number", "chance", "cost"], b_average_cost, false⟩
def b_best_on_average : List C := [(.asg (.nm 2) (.cst (.int 1))),
    (.fr (.nm 3) .rng [(.cst (.int 1)), (.bin .Add (.blt .len [(.var 1)]) (.cst (.int 2)))] [(.ife (.call 2 [(.call 10 [(.var 0), (.var 3), (.var 1)]), (.call 10 [(.var 0), (.var 2), (.var 1)])]) [(.asg (.nm 2) (.var 3))] [])]),
    (.ret (.var 2))]
def i_best_on_average : FnI := ⟨"best_on_average", top 17, ["price", "chances"], ["price", "chances", "best", "day"], b_best_on_average, false⟩
def b__law_same : List C := [(.ife (.bop .Or [(.bop .And [(.isi (.var 0) .tuple), (.isi (.var 1) .tuple)]), (.bop .And [(.isi (.var 0) .list), (.isi (.var 1) .list)])]) [(.ret (.bop .And [(.cmp .Eq (.blt .len [(.var 0)]) (.blt .len [(.var 1)])), (.blt .all [(.lc (.nm 2) .rng [(.blt .len [(.var 0)])] [] (.call 14 [(.idx (.var 0) (.var 2)), (.idx (.var 1) (.var 2))]) [2])])]))] []),
    (.ife (.bop .Or [(.isi (.var 0) .bool), (.isi (.var 1) .bool)]) [(.ret (.bop .And [(.isi (.var 0) .bool), (.isi (.var 1) .bool), (.cmp .Eq (.var 0) (.var 1))]))] []),
    (.ife (.bop .Or [(.bop .And [(.isi (.var 0) .int), (.isi (.var 1) .int)]), (.bop .And [(.isi (.var 0) .str), (.isi (.var 1) .str)])]) [(.ret (.cmp .Eq (.var 0) (.var 1)))] []),
    (.ret (.bop .And [(.isn false (.var 0)), (.isn false (.var 1))]))]
def i__law_same : FnI := ⟨"_law_same", top 22, ["a", "b"], ["a", "b", "k"], b__law_same, false⟩
def b__law_divisor : List C := [(.wh (.cmp .NotEq (.var 1) (.cst (.int 0))) [(.asg (.tp [(.nm 0), (.nm 1)]) (.tup [(.var 1), (.bin .Sub (.var 0) (.bin .Mult (.bin .FloorDiv (.var 0) (.var 1)) (.var 1)))]))]),
    (.ret (.var 0))]
def i__law_divisor : FnI := ⟨"_law_divisor", top 23, ["a", "b"], ["a", "b"], b__law_divisor, false⟩
def b__law_ratio : List C := [(.asg (.nm 2) (.call 15 [(.blt .abs [(.var 0)]), (.blt .abs [(.var 1)])])),
    (.ret (.ite (.cmp .Gt (.var 1) (.cst (.int 0))) (.tup [(.bin .FloorDiv (.var 0) (.var 2)), (.bin .FloorDiv (.var 1) (.var 2))]) (.tup [(.bin .FloorDiv (.neg (.var 0)) (.var 2)), (.bin .FloorDiv (.neg (.var 1)) (.var 2))])))]
def i__law_ratio : FnI := ⟨"_law_ratio", top 24, ["p", "q"], ["p", "q", "d"], b__law_ratio, false⟩
def b__law_plus : List C := [(.ret (.call 16 [(.bin .Add (.bin .Mult (.idx (.var 0) (.cst (.int 0))) (.idx (.var 1) (.cst (.int 1)))) (.bin .Mult (.idx (.var 1) (.cst (.int 0))) (.idx (.var 0) (.cst (.int 1))))), (.bin .Mult (.idx (.var 0) (.cst (.int 1))) (.idx (.var 1) (.cst (.int 1))))]))]
def i__law_plus : FnI := ⟨"_law_plus", top 25, ["one", "other"], ["one", "other"], b__law_plus, false⟩
def b__law_times : List C := [(.ret (.call 16 [(.bin .Mult (.idx (.var 0) (.cst (.int 0))) (.idx (.var 1) (.cst (.int 0)))), (.bin .Mult (.idx (.var 0) (.cst (.int 1))) (.idx (.var 1) (.cst (.int 1))))]))]
def i__law_times : FnI := ⟨"_law_times", top 26, ["one", "other"], ["one", "other"], b__law_times, false⟩
def b__law_less : List C := [(.ret (.cmp .Lt (.bin .Mult (.idx (.var 0) (.cst (.int 0))) (.idx (.var 1) (.cst (.int 1)))) (.bin .Mult (.idx (.var 1) (.cst (.int 0))) (.idx (.var 0) (.cst (.int 1))))))]
def i__law_less : FnI := ⟨"_law_less", top 27, ["one", "other"], ["one", "other"], b__law_less, false⟩
def b__law_paid : List C := [(.asg (.tp [(.nm 3), (.nm 4)]) (.tup [(.cst (.int 0)), (.cst (.bool false))])),
    (.fr (.nm 5) .rng [(.cst (.int 1)), (.bin .Add (.var 2) (.cst (.int 1)))] [(.ife (.bop .And [(.not (.var 4)), (.cmp .Eq (.var 5) (.var 1))]) [(.asg (.tp [(.nm 3), (.nm 4)]) (.tup [(.bin .Add (.var 3) (.var 0)), (.cst (.bool true))]))] [(.ife (.not (.var 4)) [(.asg (.nm 3) (.bin .Add (.var 3) (.cst (.int 1))))] [])])]),
    (.ret (.var 3))]
def i__law_paid : FnI := ⟨"_law_paid", top 28, ["price", "day", "needed"], ["price", "day", "needed", "paid", "owned", "today"], b__law_paid, false⟩
def b_law : List C := [(.asg (.nm 1) (.callS 12 0)),
    (.ife (.cmp .NotEq (.cst (.int 1000)) (.cst (.int 1000))) [(.ret (.cst (.bool false)))] []),
    (.fr (.nm 2) .rng [(.cst (.int 4))] [(.asg (.nm 3) (.bin .Add (.cst (.int 1)) (.callB 13 1 [(.cst (.int 40))]))),
    (.asg (.nm 4) (.lst [])),
    (.fr (.nm 5) .rng [(.cst (.int 1)), (.bin .Add (.bin .Mult (.cst (.int 2)) (.var 3)) (.cst (.int 3)))] [(.asg (.tp [(.nm 6), (.nm 7)]) (.tup [(.tup [(.cst (.int 0)), (.cst (.int 1))]), (.cst (.int 0))])),
    (.fr (.nm 8) .rng [(.cst (.int 1)), (.bin .Add (.bin .Mult (.cst (.int 3)) (.var 3)) (.cst (.int 5)))] [(.asg (.nm 9) (.call 20 [(.var 3), (.var 5), (.var 8)])),
    (.asg (.nm 10) (.call 16 [(.var 9), (.blt .min [(.var 3), (.var 8)])])),
    (.asg (.tp [(.nm 6), (.nm 7)]) (.ite (.call 19 [(.var 6), (.var 10)]) (.tup [(.var 10), (.var 8)]) (.tup [(.var 6), (.var 7)])))]),
    (.app 4 (.var 6)),
    (.ife (.not (.call 14 [(.tup [(.call 5 [(.var 3), (.var 5)]), (.call 8 [(.var 3), (.var 5)])]), (.tup [(.var 6), (.var 7)])])) [(.ret (.cst (.bool false)))] [])]),
    (.asg (.tp [(.nm 8), (.nm 5)]) (.tup [(.bin .Add (.cst (.int 1)) (.callB 13 1 [(.cst (.int 80))])), (.bin .Add (.cst (.int 1)) (.callB 13 1 [(.cst (.int 80))]))])),
    (.ife (.not (.call 14 [(.tup [(.call 3 [(.var 3), (.var 5), (.var 8)]), (.call 4 [(.var 3), (.var 8)])]), (.tup [(.call 20 [(.var 3), (.var 5), (.var 8)]), (.blt .min [(.var 3), (.var 8)])])])) [(.ret (.cst (.bool false)))] []),
    (.asg (.nm 11) (.idx (.var 4) (.cst (.int 0)))),
    (.fr (.nm 10) .seq [(.var 4)] [(.asg (.nm 11) (.ite (.call 19 [(.var 10), (.var 11)]) (.var 10) (.var 11)))]),
    (.asg (.nm 12) (.call 6 [(.var 3)])),
    (.ife (.bop .Or [(.not (.call 14 [(.var 11), (.call 16 [(.bin .Sub (.bin .Mult (.cst (.int 2)) (.var 3)) (.cst (.int 1))), (.var 3)])])), (.cmp .NotEq (.var 12) (.bin .Add (.mth .index (.var 4) (.var 11)) (.cst (.int 1)))), (.cmp .NotEq (.var 12) (.var 3)), (.cmp .NotEq (.blt .len [(.lc (.nm 10) .seq [(.var 4)] [(.cmp .Eq (.var 10) (.var 11))] (.var 10) [10])]) (.cst (.int 1)))]) [(.ret (.cst (.bool false)))] []),
    (.asg (.nm 13) (.bin .Add (.cst (.int 1)) (.callB 13 1 [(.bin .Add (.bin .Mult (.cst (.int 2)) (.var 3)) (.cst (.int 2)))]))),
    (.asg (.nm 14) (.tup [(.call 19 [(.call 5 [(.var 3), (.var 5)]), (.call 5 [(.var 3), (.var 13)])]), (.call 16 [(.var 8), (.blt .min [(.var 3), (.var 8)])])])),
    (.ife (.not (.call 14 [(.tup [(.call 9 [(.var 3), (.var 5), (.var 13)]), (.call 7 [(.var 3), (.var 8)])]), (.var 14)])) [(.ret (.cst (.bool false)))] []),
    (.asg (.nm 15) (.blt .tuple [(.lc (.nm 16) .rng [(.bin .Add (.cst (.int 1)) (.callB 13 1 [(.cst (.int 8))]))] [] (.call 16 [(.callB 13 1 [(.cst (.int 4))]), (.bin .Add (.cst (.int 1)) (.callB 13 1 [(.cst (.int 3))]))]) [16])])),
    (.asg (.nm 17) (.tup [(.cst (.int 0)), (.cst (.int 1))])),
    (.fr (.nm 18) .seq [(.var 15)] [(.asg (.nm 17) (.call 17 [(.var 17), (.var 18)]))]),
    (.ife (.cmp .Eq (.var 17) (.tup [(.cst (.int 0)), (.cst (.int 1))])) [.cont] []),
    (.asg (.nm 19) (.lst [])),
    (.fr (.nm 5) .rng [(.cst (.int 1)), (.bin .Add (.blt .len [(.var 15)]) (.cst (.int 2)))] [(.asg (.nm 20) (.tup [(.cst (.int 0)), (.cst (.int 1))])),
    (.fr (.nm 16) .rng [(.blt .len [(.var 15)])] [(.asg (.nm 20) (.call 17 [(.var 20), (.call 18 [(.idx (.var 15) (.var 16)), (.tup [(.call 20 [(.var 3), (.var 5), (.bin .Add (.var 16) (.cst (.int 1)))]), (.cst (.int 1))])])]))]),
    (.app 19 (.call 18 [(.var 20), (.tup [(.idx (.var 17) (.cst (.int 1))), (.idx (.var 17) (.cst (.int 0)))])])),
    (.ife (.not (.call 14 [(.call 10 [(.var 3), (.var 5), (.var 15)]), (.idx (.var 19) (.neg (.cst (.int 1))))])) [(.ret (.cst (.bool false)))] [])]),
    (.asg (.nm 21) (.idx (.var 19) (.cst (.int 0)))),
    (.fr (.nm 10) .seq [(.var 19)] [(.asg (.nm 21) (.ite (.call 19 [(.var 10), (.var 21)]) (.var 10) (.var 21)))]),
    (.ife (.not (.call 14 [(.call 11 [(.var 3), (.var 15)]), (.bin .Add (.mth .index (.var 19) (.var 21)) (.cst (.int 1)))])) [(.ret (.cst (.bool false)))] [])]),
    (.ret (.call 14 [(.tup [(.call 6 [(.cst (.int 5))]), (.call 5 [(.cst (.int 5)), (.cst (.int 5))])]), (.tup [(.cst (.int 5)), (.tup [(.cst (.int 9)), (.cst (.int 5))])])]))]
def i_law : FnI := ⟨"law", top 29, ["script"], ["script", "box", "turn", "price", "worst", "day", "most", "at", "needed", "paid", "one", "least", "best", "other", "due", "chances", "k", "whole", "chance", "means", "total", "cheap"], b_law, false⟩
def es : List Mini.Entry := [.user i_common_divisor, .user i_ratio, .user i_less, .user i_cost_hired, .user i_best_known, .user i_worst_ratio, .user i_best_day, .user i_never_ratio, .user i_adversary, .user i_beats, .user i_average_cost, .user i_best_on_average, .prim 0 primBox, .prim 1 primDraw, .user i__law_same, .user i__law_divisor, .user i__law_ratio, .user i__law_plus, .user i__law_times, .user i__law_less, .user i__law_paid, .user i_law]
def fns : List Str := ["common_divisor", "ratio", "less", "cost_hired", "best_known", "worst_ratio", "best_day", "never_ratio", "adversary", "beats", "average_cost", "best_on_average", "_law_box", "_law_draw", "_law_same", "_law_divisor", "_law_ratio", "_law_plus", "_law_times", "_law_less", "_law_paid", "law"]
def gls : List (Str × D) := [("MAX_HIRED", (.int 1000))]
theorem k_common_divisor : fnB fns gls i_common_divisor = true := by decide +kernel
theorem k_ratio : fnB fns gls i_ratio = true := by decide +kernel
theorem k_less : fnB fns gls i_less = true := by decide +kernel
theorem k_cost_hired : fnB fns gls i_cost_hired = true := by decide +kernel
theorem k_best_known : fnB fns gls i_best_known = true := by decide +kernel
theorem k_worst_ratio : fnB fns gls i_worst_ratio = true := by decide +kernel
theorem k_best_day : fnB fns gls i_best_day = true := by decide +kernel
theorem k_never_ratio : fnB fns gls i_never_ratio = true := by decide +kernel
theorem k_adversary : fnB fns gls i_adversary = true := by decide +kernel
theorem k_beats : fnB fns gls i_beats = true := by decide +kernel
theorem k_average_cost : fnB fns gls i_average_cost = true := by decide +kernel
theorem k_best_on_average : fnB fns gls i_best_on_average = true := by decide +kernel
theorem k__law_same : fnB fns gls i__law_same = true := by decide +kernel
theorem k__law_divisor : fnB fns gls i__law_divisor = true := by decide +kernel
theorem k__law_ratio : fnB fns gls i__law_ratio = true := by decide +kernel
theorem k__law_plus : fnB fns gls i__law_plus = true := by decide +kernel
theorem k__law_times : fnB fns gls i__law_times = true := by decide +kernel
theorem k__law_less : fnB fns gls i__law_less = true := by decide +kernel
theorem k__law_paid : fnB fns gls i__law_paid = true := by decide +kernel
theorem k_law : fnB fns gls i_law = true := by decide +kernel
end Law

namespace Law
open PySem PySem.Spec L2 Mini
section
noncomputable abbrev Pd (d : Nat) : Ph := callN (tbOf es) d
abbrev R2 (x y : Int) : D := .tuple [.int x, .int y]
abbrev Rt (x y : Int) : D := R2 (rp x y) (rq x y)
theorem sameAt : SameAt es 14 i__law_same := ⟨rfl, rfl, rfl, rfl, rfl⟩
theorem gcd_r (k : Nat) (x y : Int) : retOf (Pd (k + 1)) 0 [.v (.int x), .v (.int y)] = some (.v (.int (Int.gcd x y))) := by
  refine ret_user (i := i_common_divisor) rfl rfl rfl (e := [.v (.int (Int.gcd x y)), .v (.int 0)]) ?_
  simp only [i_common_divisor, b_common_divisor]
  have := gcd_w (Pd k) _ x.natAbs y.natAbs (Nat.le_refl _)
  simp [sizeLine, Int.gcd] at this ⊢
  rw [this]
  simp
theorem ratio_r (k : Nat) (p q : Int) (h : 0 < q) (s : Sm q) : retOf (Pd (k + 2)) 1 [.v (.int p), .v (.int q)] = some (.v (Rt p q)) := by
  have dd := g_div (p := p) (q := q) (by omega) s
  have l : ¬ q < 0 := by omega
  have h0 : ¬ q = 0 := by omega
  refine ret_user (i := i_ratio) rfl rfl rfl (e := [.v (.int p), .v (.int q), .v (.int (Int.gcd p q))]) ?_
  simp only [i_ratio, b_ratio]
  simp [sizeLine, h0, l, gcd_r, rp, rq, dd]
theorem less_r (k : Nat) {a b c d : Int} (m1 : mulOk a d) (m2 : mulOk c b) : retOf (Pd (k + 1)) 2 [.v (R2 a b), .v (R2 c d)] = some (.v (.bool (decide (a * d < c * b)))) := by
  refine ret_user (i := i_less) rfl rfl rfl (e := [.v (R2 a b), .v (R2 c d)]) ?_
  simp only [i_less, b_less]
  simp [m1, m2]
theorem lless_r (k : Nat) {a b c d : Int} (m1 : mulOk a d) (m2 : mulOk c b) : retOf (Pd (k + 1)) 19 [.v (R2 a b), .v (R2 c d)] = some (.v (.bool (decide (a * d < c * b)))) := by
  refine ret_user (i := i__law_less) rfl rfl rfl (e := [.v (R2 a b), .v (R2 c d)]) ?_
  simp only [i__law_less, b__law_less]
  simp [m1, m2]
theorem divisor_r (k : Nat) (x y : Nat) (sx : Sm x) (sy : Sm y) : retOf (Pd (k + 1)) 15 [.v (.int x), .v (.int y)] = some (.v (.int (Nat.gcd x y))) := by
  refine ret_user (i := i__law_divisor) rfl rfl rfl (e := [.v (.int (Nat.gcd x y)), .v (.int 0)]) ?_
  simp only [i__law_divisor, b__law_divisor]
  have := div_w (Pd k) _ x y (Nat.le_refl _) sx sy
  simp [sizeLine] at this ⊢
  rw [this]
  simp
theorem lratio_r (k : Nat) (p q : Int) (h : 0 < q) (sp : Sm p) (s : Sm q) : retOf (Pd (k + 2)) 16 [.v (.int p), .v (.int q)] = some (.v (Rt p q)) := by
  have dd := g_div (p := p) (q := q) (by omega) s
  have dr := divisor_r k p.natAbs q.natAbs (sp.le (by simp)) (s.le (by simp))
  have l2 : ¬ q < 0 := by omega
  refine ret_user (i := i__law_ratio) rfl rfl rfl (e := [.v (.int p), .v (.int q), .v (.int (Int.gcd p q))]) ?_
  simp only [i__law_ratio, b__law_ratio]
  simp only [Int.gcd] at dd ⊢
  simp [sizeLine, h, l2, dr, sp, s, rp, rq, dd, Int.gcd]
def cst (p d n : Int) : Int := if n < d then n else d - 1 + p
theorem cost_r (k : Nat) (p d n : Int) : retOf (Pd (k + 1)) 3 [.v (.int p), .v (.int d), .v (.int n)] = some (.v (.int (cst p d n))) := by
  refine ret_user (i := i_cost_hired) rfl rfl rfl (e := [.v (.int p), .v (.int d), .v (.int n)]) ?_
  simp only [i_cost_hired, b_cost_hired]
  by_cases h : n < d <;> simp [h, cst]
theorem min_i (x y : Int) : bltD .min [.int x, .int y] = some (.v (.int (min x y))) := by
  have : (if y < x then y else x) = min x y := by split <;> omega
  simp [bltD, this]
theorem best_r (k : Nat) (p n : Int) : retOf (Pd (k + 1)) 4 [.v (.int p), .v (.int n)] = some (.v (.int (min p n))) := by
  refine ret_user (i := i_best_known) rfl rfl rfl (e := [.v (.int p), .v (.int n)]) ?_
  simp only [i_best_known, b_best_known]
  simp [min_i]
abbrev Wr (p d : Int) : D := Rt (d - 1 + p) (min p d)
theorem worst_r (k : Nat) (p d : Int) (hp : 0 < p) (hd : 0 < d) (s : Sm p) : retOf (Pd (k + 3)) 5 [.v (.int p), .v (.int d)] = some (.v (Wr p d)) := by
  refine ret_user (i := i_worst_ratio) rfl rfl rfl (e := [.v (.int p), .v (.int d)]) ?_
  simp only [i_worst_ratio, b_worst_ratio]
  have := ratio_r k (d - 1 + p) (min p d) (by omega) (s.le (by omega))
  simp only [Pd] at this
  simp [min_i, this]
theorem never_r (k : Nat) (p n : Int) (hp : 0 < p) (hn : 0 < n) (s : Sm p) : retOf (Pd (k + 3)) 7 [.v (.int p), .v (.int n)] = some (.v (Rt n (min p n))) := by
  refine ret_user (i := i_never_ratio) rfl rfl rfl (e := [.v (.int p), .v (.int n)]) ?_
  simp only [i_never_ratio, b_never_ratio]
  have := ratio_r k n (min p n) (by omega) (s.le (by omega))
  have b := best_r (k + 1) p n
  simp only [Pd] at this b
  simp [b, this]
theorem adv_r (k : Nat) (p d : Int) : retOf (Pd (k + 1)) 8 [.v (.int p), .v (.int d)] = some (.v (.int d)) := by
  refine ret_user (i := i_adversary) rfl rfl rfl (e := [.v (.int p), .v (.int d)]) ?_
  simp [i_adversary, b_adversary]
/-- what was paid, day by day -/
theorem paid_w (P : Ph) (p d n : Int) : ∀ (m : Nat) (t u : Int) (s : Sl), s.isBx = false → 1 ≤ t → u = t + m → ∃ s', frL (.nm 5) (exs P [(.ife (.bop .And [(.not (.var 4)), (.cmp .Eq (.var 5) (.var 1))]) [(.asg (.tp [(.nm 3), (.nm 4)]) (.tup [(.bin .Add (.var 3) (.var 0)), (.cst (.bool true))]))] [(.ife (.not (.var 4)) [(.asg (.nm 3) (.bin .Add (.var 3) (.cst (.int 1))))] [])])])
    (rngL t m) [.v (.int p), .v (.int d), .v (.int n), .v (.int (if t ≤ d then t - 1 else d - 1 + p)), .v (.bool (decide (d < t))), s] = some (.nx [.v (.int p), .v (.int d), .v (.int n), .v (.int (if u ≤ d then u - 1 else d - 1 + p)), .v (.bool (decide (d < u))), s'])
  | 0, t, u, s, hs, ht, hu => ⟨s, by
    have : u = t := by omega
    subst this
    simp [rngL, frL]⟩
  | m + 1, t, u, s, hs, ht, hu => by
    obtain ⟨s', ih⟩ := paid_w P p d n m (t + 1) u (.v (.int t)) rfl (by omega) (by omega)
    refine ⟨s', ?_⟩
    have e : rngL t (m + 1) = .int t :: rngL (t + 1) m := by
      unfold rngL
      rw [List.range_succ_eq_map]
      simp [Function.comp_def]
      intro a _; omega
    rw [e]
    simp only [frL]
    rcases Int.lt_trichotomy t d with h | h | h
    · have h1 : t ≤ d := by omega
      have h2 : ¬ d < t := by omega
      have h3 : ¬ t = d := by omega
      have h4 : t + 1 ≤ d := by omega
      have h5 : ¬ d < t + 1 := by omega
      simp only [h4, h5, if_true, decide_false] at ih
      simp [setS_t, hs, h1, h2, h3]
      have e3 : t + 1 - 1 = t := by omega
      rw [e3] at ih
      exact ih
    · subst h
      have h2 : ¬ t < t := by omega
      have h4 : ¬ t + 1 ≤ t := by omega
      have h5 : t < t + 1 := by omega
      simp only [h4, h5, if_false, decide_true] at ih
      simp [setS_t, hs, sizeLine]
      exact ih
    · have h1 : ¬ t ≤ d := by omega
      have h2 : d < t := by omega
      have h4 : ¬ t + 1 ≤ d := by omega
      have h5 : d < t + 1 := by omega
      simp only [h4, h5, if_false, decide_true] at ih
      simp [setS_t, hs, h1, h2]
      exact ih
theorem items_ab (a b : Int) (m : Nat) (ha : rngOk a) (hb : rngOk b) (h : b - a = m) (hm : m ≤ cap) : itemsOf .rng [.int a, .int b] = some (rngL a m) := by
  have h0 : m ≤ 1000000 := hm
  have h2 : b - a ≤ (sizeLine : Nat) := by unfold sizeLine; omega
  have h3 : (b - a).toNat = m := by omega
  simp [itemsOf, ha, hb, h2, h3]
theorem paid_r (k : Nat) (p d n : Int) (hd : 1 ≤ d) (hn : 1 ≤ n) (hb : n ≤ 1000) : retOf (Pd (k + 1)) 20 [.v (.int p), .v (.int d), .v (.int n)] = some (.v (.int (cst p d n))) := by
  obtain ⟨s', h⟩ := paid_w (Pd k) p d n n.toNat 1 (n + 1) .no rfl (by omega) (by omega)
  have e : (if (1 : Int) ≤ d then 1 - 1 else d - 1 + p) = 0 := by rw [if_pos hd]; rfl
  have e2 : decide (d < 1) = false := by simp; omega
  have e3 : (if n + 1 ≤ d then n + 1 - 1 else d - 1 + p) = cst p d n := by
    unfold cst
    split <;> split <;> omega
  rw [e, e2, e3] at h
  have it := items_ab 1 (n + 1) n.toNat (by unfold rngOk; omega) (by unfold rngOk; omega) (by omega) (by unfold cap; omega)
  refine ret_user (i := i__law_paid) rfl rfl rfl (e := [.v (.int p), .v (.int d), .v (.int n), .v (.int (cst p d n)), .v (.bool (decide (d < n + 1))), s']) ?_
  simp only [i__law_paid, b__law_paid]
  simp only [Pd] at h
  simp [sizeLine, it, h]
end
end Law

namespace Law
open PySem PySem.Spec L2 Mini
section
theorem bd_small {x : Int} (h : -(2 ^ 99) < x ∧ x < 2 ^ 99) : x.natAbs < 2 ^ 100 := by omega
theorem mulL {a b c d : Int} {m n : Nat} (h : Rat2 a b m) (k : Rat2 c d n) (hm : m ≤ 4000) (hn : n ≤ 4000) : mulOk a d ∧ mulOk c b :=
  ⟨(sm_of h.p hm).mul (sm_of k.q hn), (sm_of k.p hn).mul (sm_of h.q hm)⟩
theorem rt2 {p q : Int} (h : 0 < q) (h1 : -(2 ^ 99) < p ∧ p < 2 ^ 99) (h2 : q < 2 ^ 99) : Rat2 (rp p q) (rq p q) 100 := rr (bd_small h1) (bd_small (by omega)) (by omega)
theorem sm_small {x : Int} (h : -(2 ^ 99) < x ∧ x < 2 ^ 99) : Sm x := sm_of (bd_small h) (by decide)
theorem before_day {p d n : Int} (hp : 1 ≤ p) (hn : 1 ≤ n) (h : n < d) : n * min p d < (d - 1 + p) * min p n := by
  rcases Int.lt_or_le p n with q | q
  · have e1 : min p d = p := by omega
    have e2 : min p n = p := by omega
    rw [e1, e2]
    exact Int.mul_lt_mul_of_pos_right (by omega) (by omega)
  · have e2 : min p n = n := by omega
    rw [e2, Int.mul_comm n]
    exact Int.mul_lt_mul_of_pos_right (by omega) (by omega)
theorem after_day {p d n : Int} (hp : 1 ≤ p) (hd : 1 ≤ d) (h : d < n) : ¬ (d - 1 + p) * min p n < (d - 1 + p) * min p n → True := fun _ => trivial
def bodyN : List C := [(.asg (.nm 9) (.call 20 [(.var 3), (.var 5), (.var 8)])),
    (.asg (.nm 10) (.call 16 [(.var 9), (.blt .min [(.var 3), (.var 8)])])),
    (.asg (.tp [(.nm 6), (.nm 7)]) (.ite (.call 19 [(.var 6), (.var 10)]) (.tup [(.var 10), (.var 8)]) (.tup [(.var 6), (.var 7)])))]
abbrev wp (p d : Int) : Int := rp (d - 1 + p) (min p d)
abbrev wq (p d : Int) : Int := rq (d - 1 + p) (min p d)
theorem rng_succ (t : Int) (m : Nat) : rngL t (m + 1) = .int t :: rngL (t + 1) m := by
  unfold rngL
  rw [List.range_succ_eq_map]
  simp [Function.comp_def]
  intro a _; omega
section
variable (s0 s1 s2 s4 s11 s12 s13 s14 s15 s16 s17 s18 s19 s20 s21 : Sl) (p d : Int) (hp : 1 ≤ p) (hp2 : p ≤ 1000) (hd : 1 ≤ d) (hd2 : d ≤ 1000)
include hp hp2 hd hd2
theorem ratW : Rat2 (wp p d) (wq p d) 100 := rt2 (by omega) (by omega) (by omega)
/-- one turn of the look for the worst -/
theorem need_1 (n x y w : Int) (s9 s10 : Sl) (h9 : s9.isBx = false) (h10 : s10.isBx = false) (hn : 1 ≤ n) (hn2 : n ≤ 1000)
    (J : (n ≤ d ∧ Rat2 x y 100 ∧ x * wq p d < wp p d * y) ∨ (d < n ∧ x = wp p d ∧ y = wq p d ∧ w = d)) :
    ∃ x' y' w', exs (Pd 39) bodyN [s0, s1, s2, .v (.int p), s4, .v (.int d), .v (R2 x y), .v (.int w), .v (.int n), s9, s10, s11, s12, s13, s14, s15, s16, s17, s18, s19, s20, s21] =
      some (.nx [s0, s1, s2, .v (.int p), s4, .v (.int d), .v (R2 x' y'), .v (.int w'), .v (.int n), .v (.int (cst p d n)), .v (Rt (cst p d n) (min p n)), s11, s12, s13, s14, s15, s16, s17, s18, s19, s20, s21]) ∧
      ((n + 1 ≤ d ∧ Rat2 x' y' 100 ∧ x' * wq p d < wp p d * y') ∨ (d < n + 1 ∧ x' = wp p d ∧ y' = wq p d ∧ w' = d)) := by
  have rW := ratW p d hp hp2 hd hd2
  have cb : -(2 ^ 99) < cst p d n ∧ cst p d n < 2 ^ 99 := by unfold cst; split <;> omega
  have rO : Rat2 (rp (cst p d n) (min p n)) (rq (cst p d n) (min p n)) 100 := rt2 (by omega) cb (by omega)
  have e1 := paid_r 38 p d n hd hn hn2
  have e2 := lratio_r 37 (cst p d n) (min p n) (by omega) (sm_small cb) (sm_small (by omega))
  have rx : Rat2 x y 100 := by
    rcases J with ⟨_, h, _⟩ | ⟨_, rfl, rfl, _⟩
    · exact h
    · exact rW
  obtain ⟨m1, m2⟩ := mulL rx rO (by decide) (by decide)
  have e3 := lless_r 38 m1 m2
  simp only [Pd, Nat.reduceAdd] at e1 e2 e3 ⊢
  by_cases c : x * rq (cst p d n) (min p n) < rp (cst p d n) (min p n) * y
  · refine ⟨rp (cst p d n) (min p n), rq (cst p d n) (min p n), n, ?_, ?_⟩
    · simp only [c, decide_true] at e3
      simp [bodyN, setS_t, h9, h10, e1, min_i, e2, e3, sizeLine]
    · rcases J with ⟨h1, h2, h3⟩ | ⟨h1, rfl, rfl, h4⟩
      · by_cases hnd : n = d
        · subst hnd
          right
          have : cst p n n = n - 1 + p := by unfold cst; rw [if_neg (by omega)]
          rw [this]
          exact ⟨by omega, rfl, rfl, rfl⟩
        · left
          refine ⟨by omega, rO, ?_⟩
          have : cst p d n = n := by unfold cst; rw [if_pos (by omega)]
          rw [this]
          exact (less_iff (by omega) (by omega)).mpr (before_day hp hn (by omega))
      · exfalso
        have : cst p d n = d - 1 + p := by unfold cst; rw [if_neg (by omega)]
        rw [this] at c
        have c2 := (less_iff (a := d - 1 + p) (b := min p d) (c := d - 1 + p) (d := min p n) (by omega) (by omega)).mp c
        have c3 := Int.lt_of_mul_lt_mul_left c2 (by omega)
        omega
  · refine ⟨x, y, w, ?_, ?_⟩
    · simp only [c, decide_false] at e3
      simp [bodyN, setS_t, h9, h10, e1, min_i, e2, e3, sizeLine]
    · rcases J with ⟨h1, h2, h3⟩ | ⟨h1, h2, h3, h4⟩
      · by_cases hnd : n = d
        · exfalso
          subst hnd
          have : cst p n n = n - 1 + p := by unfold cst; rw [if_neg (by omega)]
          rw [this] at c
          exact c h3
        · exact .inl ⟨by omega, h2, h3⟩
      · exact .inr ⟨by omega, h2, h3, h4⟩
theorem need_w : ∀ (m : Nat) (t x y w : Int) (s8 s9 s10 : Sl), s8.isBx = false → s9.isBx = false → s10.isBx = false → 1 ≤ t → t + m ≤ 1000 → d < t + m →
    ((t ≤ d ∧ Rat2 x y 100 ∧ x * wq p d < wp p d * y) ∨ (d < t ∧ x = wp p d ∧ y = wq p d ∧ w = d)) →
    ∃ s8' s9' s10', frL (.nm 8) (exs (Pd 39) bodyN) (rngL t m) [s0, s1, s2, .v (.int p), s4, .v (.int d), .v (R2 x y), .v (.int w), s8, s9, s10, s11, s12, s13, s14, s15, s16, s17, s18, s19, s20, s21] =
      some (.nx [s0, s1, s2, .v (.int p), s4, .v (.int d), .v (Wr p d), .v (.int d), s8', s9', s10', s11, s12, s13, s14, s15, s16, s17, s18, s19, s20, s21]) ∧ s8'.isBx = false ∧ s9'.isBx = false ∧ s10'.isBx = false
  | 0, t, x, y, w, s8, s9, s10, h8, h9, h10, ht, htm, hdt, J => by
    rcases J with ⟨h1, _, _⟩ | ⟨_, rfl, rfl, rfl⟩
    · omega
    · exact ⟨s8, s9, s10, rfl, h8, h9, h10⟩
  | m + 1, t, x, y, w, s8, s9, s10, h8, h9, h10, ht, htm, hdt, J => by
    obtain ⟨x', y', w', e, J'⟩ := need_1 s0 s1 s2 s4 s11 s12 s13 s14 s15 s16 s17 s18 s19 s20 s21 p d hp hp2 hd hd2 t x y w s9 s10 h9 h10 ht (by omega) J
    obtain ⟨s8', s9', s10', h, k8, k9, k10⟩ := need_w m (t + 1) x' y' w' (.v (.int t)) (.v (.int (cst p d t))) (.v (Rt (cst p d t) (min p t))) rfl rfl rfl (by omega) (by omega) (by omega) J'
    refine ⟨s8', s9', s10', ?_, k8, k9, k10⟩
    rw [rng_succ]
    simp only [frL]
    simp only [Pd] at e h ⊢
    simp [setS_t, h8, e]
    exact h
end
end
end Law

namespace Law
open PySem PySem.Spec L2 Mini
section
def bodyD : List C := [(.asg (.tp [(.nm 6), (.nm 7)]) (.tup [(.tup [(.cst (.int 0)), (.cst (.int 1))]), (.cst (.int 0))])),
    (.fr (.nm 8) .rng [(.cst (.int 1)), (.bin .Add (.bin .Mult (.cst (.int 3)) (.var 3)) (.cst (.int 5)))] bodyN),
    (.app 4 (.var 6)),
    (.ife (.not (.call 14 [(.tup [(.call 5 [(.var 3), (.var 5)]), (.call 8 [(.var 3), (.var 5)])]), (.tup [(.var 6), (.var 7)])])) [(.ret (.cst (.bool false)))] [])]
theorem okR2 (n : Nat) (a b : Int) : OkS (n + 1) (R2 a b) := .tuple _ _ (show 2 ≤ cap by decide) fun x hx => by
  simp only [List.mem_cons, List.not_mem_nil, or_false] at hx
  rcases hx with rfl | rfl <;> exact .int _ _
theorem okP (n : Nat) (a b : D) (h1 : OkS n a) (h2 : OkS n b) : OkS (n + 1) (.tuple [a, b]) := .tuple _ _ (show 2 ≤ cap by decide) fun x hx => by
  simp only [List.mem_cons, List.not_mem_nil, or_false] at hx
  rcases hx with rfl | rfl <;> assumption
theorem map_range_succ (f : Int → D) (t : Int) (m : Nat) : (List.range (m + 1)).map (fun (i : Nat) => f (t + i)) = f t :: (List.range m).map fun (i : Nat) => f (t + 1 + i) := by
  rw [List.range_succ_eq_map]
  simp only [List.map_cons, List.map_map]
  have e : t + ((0 : Nat) : Int) = t := by omega
  rw [e]
  refine congrArg (f t :: ·) (List.map_congr_left fun a _ => ?_)
  show f (t + ((a + 1 : Nat) : Int)) = _
  have : t + ((a + 1 : Nat) : Int) = t + 1 + (a : Int) := by omega
  rw [this]
section
variable (s0 s1 s2 s11 s12 s13 s14 s15 s16 s17 s18 s19 s20 s21 : Sl) (p : Int) (hp : 1 ≤ p) (hp2 : p ≤ 40)
include hp hp2
theorem day_w : ∀ (m : Nat) (t : Int) (ws : List D) (s5 s6 s7 s8 s9 s10 : Sl), s5.isBx = false → s6.isBx = false → s7.isBx = false → s8.isBx = false → s9.isBx = false → s10.isBx = false → 1 ≤ t → t + m ≤ 2 * p + 3 → ws.length + m ≤ 900 →
    ∃ s5' s6' s7' s8' s9' s10', frL (.nm 5) (exs (Pd 39) bodyD) (rngL t m) [s0, s1, s2, .v (.int p), .l ws, s5, s6, s7, s8, s9, s10, s11, s12, s13, s14, s15, s16, s17, s18, s19, s20, s21] =
      some (.nx [s0, s1, s2, .v (.int p), .l (ws ++ (List.range m).map fun (i : Nat) => Wr p (t + i)), s5', s6', s7', s8', s9', s10', s11, s12, s13, s14, s15, s16, s17, s18, s19, s20, s21]) ∧ s5'.isBx = false ∧ s6'.isBx = false ∧ s7'.isBx = false ∧ s8'.isBx = false ∧ s9'.isBx = false ∧ s10'.isBx = false
  | 0, t, ws, s5, s6, s7, s8, s9, s10, h5, h6, h7, h8, h9, h10, ht, htm, hl => ⟨s5, s6, s7, s8, s9, s10, by simp [rngL, frL], h5, h6, h7, h8, h9, h10⟩
  | m + 1, t, ws, s5, s6, s7, s8, s9, s10, h5, h6, h7, h8, h9, h10, ht, htm, hl => by
    have rW := ratW p t hp (by omega) ht (by omega)
    obtain ⟨s8', s9', s10', e, k8, k9, k10⟩ := need_w s0 s1 s2 (.l ws) s11 s12 s13 s14 s15 s16 s17 s18 s19 s20 s21 p t hp (by omega) ht (by omega) (3 * p + 4).toNat 1 0 1 0 s8 s9 s10 h8 h9 h10 (by omega) (by omega) (by omega)
      (by
        by_cases c : 1 ≤ t
        · left
          refine ⟨c, ⟨by decide, by decide, by decide⟩, ?_⟩
          have : 0 < rp (t - 1 + p) (min p t) := by
            have c1 := rp_g (p := t - 1 + p) (q := min p t) (by omega)
            have g := g_pos (p := t - 1 + p) (q := min p t) (by omega)
            refine Int.not_le.mp fun l => ?_
            have := Int.mul_nonpos_of_nonpos_of_nonneg l (Int.le_of_lt g)
            omega
          rw [Int.zero_mul, Int.mul_one]
          exact this
        · omega)
    obtain ⟨s5', s6', s7', s8'', s9'', s10'', h, q⟩ := day_w m (t + 1) (ws ++ [Wr p t]) (.v (.int t)) (.v (Wr p t)) (.v (.int t)) s8' s9' s10' rfl rfl rfl k8 k9 k10 (by omega) (by omega) (by simp; omega)
    refine ⟨s5', s6', s7', s8'', s9'', s10'', ?_, q⟩
    have w1 := worst_r 36 p t (by omega) (by omega) (sm_small (by omega))
    have a1 := adv_r 38 p t
    have sm := same_self sameAt 2 36 (.tuple [Wr p t, .int t]) (okP 1 _ _ (okR2 0 _ _) (.int _ _))
    have it := items_ab 1 (3 * p + 5) (3 * p + 4).toNat (by unfold rngOk; omega) (by unfold rngOk; omega) (by omega) (by unfold cap; omega)
    have mo : mulOk 3 p := (sm_small (by decide)).mul (sm_small (by omega))
    have la : ws.length < 1000 := by omega
    have ee := map_range_succ (fun x => Wr p x) t m
    rw [rng_succ, ee]
    simp only [Pd, Nat.reduceAdd] at e h w1 a1 sm ⊢
    have hb : exs (callN (tbOf es) 39) bodyD [s0, s1, s2, .v (.int p), .l ws, .v (.int t), s6, s7, s8, s9, s10, s11, s12, s13, s14, s15, s16, s17, s18, s19, s20, s21] =
        some (.nx [s0, s1, s2, .v (.int p), .l (ws ++ [Wr p t]), .v (.int t), .v (Wr p t), .v (.int t), s8', s9', s10', s11, s12, s13, s14, s15, s16, s17, s18, s19, s20, s21]) := by
      simp only [bodyD]
      simp [setS_t, h6, h7, sizeLine, mo, it, e, Mini.app_ok, la, w1, a1, sm]
    simp only [frL]
    simp [setS_t, h5, hb]
    rw [List.append_assoc] at h
    exact h
end
end
end Law

namespace Law
open PySem PySem.Spec L2 Mini
section
theorem eqv_R2 (a b c d : Int) : PyData.eqv (R2 a b) (R2 c d) = (a == c && b == d) := by simp [PyData.eqv, PyData.eqvAll]
theorem sh_R2 (a b : Int) : SeqAt.shaped (R2 a b) = true := by simp [SeqAt.shaped, PyData.canLay0, PyData.canLayAll0, PyData.depth, PyData.depthAll]
theorem sh_R2s : ∀ (ds : List D), (∀ x ∈ ds, ∃ a b, x = R2 a b) → PyData.canLayAll0 ds = true ∧ PyData.depthAll ds ≤ 1
  | [], _ => ⟨rfl, by simp [PyData.depthAll]⟩
  | x :: xs, h => by
    obtain ⟨h1, h2⟩ := sh_R2s xs fun y hy => h y (List.mem_cons_of_mem _ hy)
    obtain ⟨a, b, rfl⟩ := h x List.mem_cons_self
    refine ⟨by simp [PyData.canLayAll0, PyData.canLay0, h1], ?_⟩
    simp only [PyData.depthAll, PyData.depth]
    omega
theorem sh_list (ds : List D) (h : ∀ x ∈ ds, ∃ a b, x = R2 a b) : SeqAt.shaped (.list ds) = true := by
  obtain ⟨h1, h2⟩ := sh_R2s ds h
  simp [SeqAt.shaped, PyData.canLay0, PyData.depth, h1]
  omega
theorem w_dec {p s t : Int} (hs : 1 ≤ s) (h : s < t) (ht : t ≤ p) : wp p t * wq p s < wp p s * wq p t := by
  refine (less_iff (by omega) (by omega)).mpr ?_
  have e1 : min p s = s := by omega
  have e2 : min p t = t := by omega
  rw [e1, e2]
  have : (p - 1) * s < (p - 1) * t := Int.mul_lt_mul_of_pos_left h (by omega)
  have a1 : (t - 1 + p) * s = t * s + (p - 1) * s := by rw [← Int.add_mul]; congr 1; omega
  have a2 : (s - 1 + p) * t = s * t + (p - 1) * t := by rw [← Int.add_mul]; congr 1; omega
  rw [a1, a2, Int.mul_comm t s]
  omega
theorem w_inc {p t : Int} (hp : 1 ≤ p) (h : p < t) : wp p p * wq p t < wp p t * wq p p := by
  refine (less_iff (by omega) (by omega)).mpr ?_
  have e1 : min p p = p := by omega
  have e2 : min p t = p := by omega
  rw [e1, e2]
  exact Int.mul_lt_mul_of_pos_right (by omega) (by omega)
theorem w_min {p t : Int} (hp : 1 ≤ p) (ht : 1 ≤ t) (h : t ≠ p) : wp p p * wq p t < wp p t * wq p p := by
  rcases Int.lt_or_le p t with q | q
  · exact w_inc hp q
  · exact w_dec ht (by omega) (Int.le_refl p)
def cur (p t : Int) : Int := max 1 (min (t - 1) p)
theorem cur_lt {p t : Int} (hp : 1 ≤ p) (ht : 1 ≤ t) : (wp p t * wq p (cur p t) < wp p (cur p t) * wq p t) ↔ (2 ≤ t ∧ t ≤ p) := by
  constructor
  · intro h
    refine Classical.not_not.mp fun c => ?_
    by_cases h1 : t = 1
    · subst h1
      have : cur p 1 = 1 := by unfold cur; omega
      rw [this] at h
      omega
    · have e : cur p t = p := by unfold cur; omega
      rw [e] at h
      have := w_inc hp (t := t) (by omega)
      omega
  · intro ⟨h1, h2⟩
    have e : cur p t = t - 1 := by unfold cur; omega
    rw [e]
    exact w_dec (by omega) (by omega) h2
theorem best_w (k : Nat) (p : Int) (hp : 1 ≤ p) (hp2 : p ≤ 40) : ∀ (m : Nat) (t : Int) (s : Sl), s.isBx = false → 2 ≤ t → t + m = p + 1 → ∃ s', frL (.nm 2) (exs (Pd (k + 4)) [(.ife (.call 2 [(.call 5 [(.var 0), (.var 2)]), (.call 5 [(.var 0), (.var 1)])]) [(.asg (.nm 1) (.var 2))] [])]) (rngL t m) [.v (.int p), .v (.int (t - 1)), s] = some (.nx [.v (.int p), .v (.int p), s'])
  | 0, t, s, hs, ht, h => ⟨s, by
    have : t - 1 = p := by omega
    rw [this]; rfl⟩
  | m + 1, t, s, hs, ht, h => by
    obtain ⟨s', ih⟩ := best_w k p hp hp2 m (t + 1) (.v (.int t)) rfl (by omega) (by omega)
    refine ⟨s', ?_⟩
    have e : t + 1 - 1 = t := by omega
    rw [e] at ih
    have w1 := worst_r (k + 1) p t (by omega) (by omega) (sm_small (by omega))
    have w2 := worst_r (k + 1) p (t - 1) (by omega) (by omega) (sm_small (by omega))
    obtain ⟨m1, m2⟩ := mulL (ratW p t hp (by omega) (by omega) (by omega)) (ratW p (t - 1) hp (by omega) (by omega) (by omega)) (by decide) (by decide)
    have l := less_r (k + 3) m1 m2
    have lt := w_dec (p := p) (s := t - 1) (t := t) (by omega) (by omega) (by omega)
    simp only [lt, decide_true] at l
    rw [rng_succ]
    simp only [frL]
    simp only [Pd] at w1 w2 l ih ⊢
    simp [setS_t, hs, w1, w2, l]
    exact ih
theorem bday_r (k : Nat) (p : Int) (hp : 1 ≤ p) (hp2 : p ≤ 40) : retOf (Pd (k + 5)) 6 [.v (.int p)] = some (.v (.int p)) := by
  obtain ⟨m, hm⟩ : ∃ m : Nat, (m : Int) = p - 1 := ⟨(p - 1).toNat, by omega⟩
  obtain ⟨s', h⟩ := best_w k p hp hp2 m 2 .no rfl (by omega) (by omega)
  have it := items_ab 2 (p + 1) m (by unfold rngOk; omega) (by unfold rngOk; omega) (by omega) (by unfold cap; omega)
  refine ret_user (i := i_best_day) rfl rfl rfl (e := [.v (.int p), .v (.int p), s']) ?_
  simp only [i_best_day, b_best_day]
  simp only [Pd] at h
  have e : (2 : Int) - 1 = 1 := by omega
  rw [e] at h
  simp [it, h]
def bodyM : List C := [(.asg (.nm 11) (.ite (.call 19 [(.var 10), (.var 11)]) (.var 10) (.var 11)))]
section
variable (s0 s1 s2 s3 s4 s5 s6 s7 s8 s9 s12 s13 s14 s15 s16 s17 s18 s19 s20 s21 : Sl) (p : Int) (hp : 1 ≤ p) (hp2 : p ≤ 40)
include hp hp2
theorem least_w : ∀ (m : Nat) (t u : Int) (s : Sl), s.isBx = false → 1 ≤ t → u = t + m → u ≤ 200 →
    ∃ s', frL (.nm 10) (exs (Pd 39) bodyM) ((List.range m).map fun (i : Nat) => Wr p (t + i)) [s0, s1, s2, s3, s4, s5, s6, s7, s8, s9, s, .v (Wr p (cur p t)), s12, s13, s14, s15, s16, s17, s18, s19, s20, s21] =
      some (.nx [s0, s1, s2, s3, s4, s5, s6, s7, s8, s9, s', .v (Wr p (cur p u)), s12, s13, s14, s15, s16, s17, s18, s19, s20, s21]) ∧ s'.isBx = false
  | 0, t, u, s, hs, ht, hu, hb => ⟨s, by
    have : u = t := by omega
    subst this; rfl, hs⟩
  | m + 1, t, u, s, hs, ht, hu, hb => by
    obtain ⟨s', ih, h2⟩ := least_w m (t + 1) u (.v (Wr p t)) rfl (by omega) (by omega) hb
    refine ⟨s', ?_, h2⟩
    have c1 : 1 ≤ cur p t ∧ cur p t ≤ 200 := by unfold cur; omega
    obtain ⟨m1, m2⟩ := mulL (ratW p t hp (by omega) (by omega) (by omega)) (ratW p (cur p t) hp (by omega) c1.1 (by omega)) (by decide) (by decide)
    have l := lless_r 38 m1 m2
    have ci := cur_lt (p := p) (t := t) hp ht
    rw [map_range_succ (fun x => Wr p x)]
    simp only [frL]
    simp only [Pd, Nat.reduceAdd] at l ih ⊢
    have hb : exs (callN (tbOf es) 39) bodyM [s0, s1, s2, s3, s4, s5, s6, s7, s8, s9, .v (Wr p t), .v (Wr p (cur p t)), s12, s13, s14, s15, s16, s17, s18, s19, s20, s21] =
        some (.nx [s0, s1, s2, s3, s4, s5, s6, s7, s8, s9, .v (Wr p t), .v (Wr p (cur p (t + 1))), s12, s13, s14, s15, s16, s17, s18, s19, s20, s21]) := by
      simp only [bodyM]
      by_cases c : 2 ≤ t ∧ t ≤ p
      · have e : cur p (t + 1) = t := by unfold cur; omega
        have c2 := ci.mpr c
        simp only [c2, decide_true] at l
        rw [e]
        simp [setS_t, l]
      · have e : cur p (t + 1) = cur p t := by unfold cur; omega
        have c2 := mt ci.mp c
        simp only [c2, decide_false] at l
        rw [e]
        simp [setS_t, l]
    simp [setS_t, hs, hb]
    exact ih
end
/-- the place of the least -/
theorem idxOf_at (f : Int → D) (d : D) : ∀ (m : Nat) (t u : Int) (k : Nat), t ≤ u → u < t + m → (∀ x, t ≤ x → x < u → PyData.eqv (f x) d = false) → PyData.eqv (f u) d = true → idxOf d ((List.range m).map fun (i : Nat) => f (t + i)) k = some (k + (u - t).toNat)
  | 0, t, u, k, h1, h2, h3, h4 => by omega
  | m + 1, t, u, k, h1, h2, h3, h4 => by
    rw [map_range_succ f]
    simp only [idxOf]
    by_cases e : u = t
    · subst e
      rw [if_pos h4]
      congr 1; omega
    · rw [if_neg (by rw [h3 t (Int.le_refl t) (by omega)]; decide), idxOf_at f d m (t + 1) u (k + 1) (by omega) (by omega) (fun x a b => h3 x (by omega) b) h4]
      congr 1; omega
theorem filt_at (f : Int → D) (d : D) : ∀ (m : Nat) (t u : Int), t ≤ u → u < t + m → (∀ x, t ≤ x → x ≠ u → PyData.eqv (f x) d = false) → PyData.eqv (f u) d = true → (((List.range m).map fun (i : Nat) => f (t + i)).filter fun x => PyData.eqv x d) = [f u]
  | m, t, u, h1, h2, h3, h4 => by
    have none : ∀ (m : Nat) (t : Int), u < t → (∀ x, t ≤ x → x ≠ u → PyData.eqv (f x) d = false) → (((List.range m).map fun (i : Nat) => f (t + i)).filter fun x => PyData.eqv x d) = [] := by
      intro m t hu hx
      rw [List.filter_eq_nil_iff]
      intro a ha
      simp only [List.mem_map] at ha
      obtain ⟨i, _, rfl⟩ := ha
      rw [hx _ (by omega) (by omega)]
      decide
    match m, h2 with
    | 0, h2 => omega
    | m + 1, h2 =>
      rw [map_range_succ f]
      by_cases e : u = t
      · subst e
        simp only [List.filter_cons, h4, if_true]
        rw [none m (u + 1) (by omega) (fun x a b => h3 x (by omega) b)]
      · simp only [List.filter_cons, h3 t (Int.le_refl t) (Ne.symm e), Bool.false_eq_true, if_false]
        exact filt_at f d m (t + 1) u (by omega) (by omega) (fun x a b => h3 x (by omega) b) h4
  termination_by m => m
end
end Law

namespace Law
open PySem PySem.Spec L2 Mini
section
abbrev RR (p : Int × Int) : D := R2 p.1 p.2
def wst (a c : Int × Int) : Int × Int := (rp (a.1 * c.2 + c.1 * a.2) (a.2 * c.2), rq (a.1 * c.2 + c.1 * a.2) (a.2 * c.2))
def tst (a c : Int × Int) (x : Int) : Int × Int := (rp (a.1 * c.2 + x * c.1 * a.2) (a.2 * c.2), rq (a.1 * c.2 + x * c.1 * a.2) (a.2 * c.2))
def tfold (p d : Int) : Int → Int × Int → List (Int × Int) → Int × Int
  | _, a, [] => a
  | k, a, c :: cs => tfold p d (k + 1) (tst a c (cst p d (k + 1))) cs
abbrev Gd (a : Int × Int) (n : Nat) : Prop := Rat2 a.1 a.2 n
theorem wst_g {a c : Int × Int} {m n : Nat} (h : Gd a m) (g : Gd c n) : Gd (wst a c) (m + n + 1) := plus_b h g
theorem tst_g {a c : Int × Int} {x : Int} {m n : Nat} (h : Gd a m) (g : Gd c n) (hx : x.natAbs < 2 ^ 12) : Gd (tst a c x) (m + n + 13) := by
  have s1 := bd_mul h.q g.q
  have s2 := bd_mul h.p g.q
  have s3 := bd_mul (bd_mul hx g.p) h.q
  have pp := Int.mul_pos h.pos g.pos
  exact rr (bd_le (bd_add (bd_le s2 (show m + n ≤ 12 + n + m by omega)) s3) (by omega)) (bd_le s1 (by omega)) (by omega)
theorem fin_ok {a c : Int × Int} {x : Int} {m n : Nat} (h : Gd a m) (g : Gd c n) (hx : x.natAbs < 2 ^ 12) (hm : m + n ≤ 2000) :
    mulOk a.1 c.2 ∧ mulOk x c.1 ∧ mulOk (x * c.1) a.2 ∧ mulOk a.2 c.2 ∧ mulOk c.1 a.2 ∧ 0 < a.2 * c.2 ∧ Sm (a.2 * c.2) ∧ Sm (a.1 * c.2 + x * c.1 * a.2) ∧ Sm (a.1 * c.2 + c.1 * a.2) ∧ mulOk c.1 x ∧ Sm (c.1 * x) := by
  have s1 := bd_mul h.q g.q
  have s2 := bd_mul h.p g.q
  have s3 := bd_mul (bd_mul hx g.p) h.q
  have s4 := bd_mul g.p h.q
  have s5 := bd_mul g.p hx
  refine ⟨(sm_of h.p (by omega)).mul (sm_of g.q (by omega)), (sm_of hx (by omega)).mul (sm_of g.p (by omega)), (sm_of (bd_mul hx g.p) (by omega)).mul (sm_of h.q (by omega)), (sm_of h.q (by omega)).mul (sm_of g.q (by omega)), (sm_of g.p (by omega)).mul (sm_of h.q (by omega)), Int.mul_pos h.pos g.pos, sm_of s1 (by omega), ?_, ?_, (sm_of g.p (by omega)).mul (sm_of hx (by omega)), sm_of s5 (by omega)⟩
  · exact sm_of (bd_add (bd_le s2 (show m + n ≤ 12 + n + m by omega)) s3) (by omega)
  · rw [Nat.add_comm] at s4
    exact sm_of (bd_add s2 s4) (by omega)
/-- the law's step is the program's -/
theorem step_eq {a c : Int × Int} {x : Int} {m n : Nat} (h : Gd a m) (g : Gd c n) :
    Rt (a.1 * rq (c.1 * x) (c.2 * 1) + rp (c.1 * x) (c.2 * 1) * a.2) (a.2 * rq (c.1 * x) (c.2 * 1)) = RR (tst a c x) := by
  have hc : 0 < c.2 * 1 := by have := g.pos; omega
  have q0 := rq_pos (p := c.1 * x) hc
  have cr := rat_cross (p := c.1 * x) hc
  have := rat_uniq (p := a.1 * rq (c.1 * x) (c.2 * 1) + rp (c.1 * x) (c.2 * 1) * a.2) (q := a.2 * rq (c.1 * x) (c.2 * 1)) (u := a.1 * c.2 + x * c.1 * a.2) (v := a.2 * c.2) (Int.mul_pos h.pos q0) (Int.mul_pos h.pos g.pos) (by
    generalize rq (c.1 * x) (c.2 * 1) = q at *
    generalize rp (c.1 * x) (c.2 * 1) = r at *
    rw [Int.mul_one] at cr
    rw [Int.add_mul, Int.add_mul]
    have e1 : a.1 * q * (a.2 * c.2) = a.1 * c.2 * (a.2 * q) := by ac_rfl
    have e2 : r * a.2 * (a.2 * c.2) = x * c.1 * a.2 * (a.2 * q) := by
      calc r * a.2 * (a.2 * c.2) = (r * c.2) * (a.2 * a.2) := by ac_rfl
        _ = (c.1 * x * q) * (a.2 * a.2) := by rw [cr]
        _ = _ := by ac_rfl
    rw [e1, e2])
  unfold Rt tst RR
  rw [this.1, this.2]
theorem cst_b {p d n : Int} (hp : 1 ≤ p ∧ p ≤ 40) (hd : 1 ≤ d ∧ d ≤ 200) (hn : 1 ≤ n ∧ n ≤ 200) : (cst p d n).natAbs < 2 ^ 12 := by unfold cst; split <;> omega
def bodyA : List C := [(.asg (.nm 7) (.call 3 [(.var 0), (.var 1), (.bin .Add (.var 5) (.cst (.int 1)))])),
    (.asg (.nm 3) (.call 1 [(.bin .Add (.bin .Mult (.idx (.var 3) (.cst (.int 0))) (.idx (.var 6) (.cst (.int 1)))) (.bin .Mult (.bin .Mult (.var 7) (.idx (.var 6) (.cst (.int 0)))) (.idx (.var 3) (.cst (.int 1))))), (.bin .Mult (.idx (.var 3) (.cst (.int 1))) (.idx (.var 6) (.cst (.int 1))))])),
    (.asg (.nm 4) (.call 1 [(.bin .Add (.bin .Mult (.idx (.var 4) (.cst (.int 0))) (.idx (.var 6) (.cst (.int 1)))) (.bin .Mult (.idx (.var 6) (.cst (.int 0))) (.idx (.var 4) (.cst (.int 1))))), (.bin .Mult (.idx (.var 4) (.cst (.int 1))) (.idx (.var 6) (.cst (.int 1))))]))]
theorem avg_w (j : Nat) (p d : Int) (hp : 1 ≤ p ∧ p ≤ 40) (hd : 1 ≤ d ∧ d ≤ 200) (l : D) : ∀ (cs : List (Int × Int)) (k : Nat) (t w : Int × Int) (m : Nat) (s5 s6 s7 : Sl), s5.isBx = false → s6.isBx = false → s7.isBx = false → (∀ c ∈ cs, Gd c 2) → Gd t m → Gd w m → m + 15 * cs.length ≤ 500 → k + cs.length ≤ 100 →
    ∃ s5' s6' s7', frL (.tp [(.nm 5), (.nm 6)]) (exs (Pd (j + 3)) bodyA) (enumL (cs.map RR) k) [.v (.int p), .v (.int d), .v l, .v (RR t), .v (RR w), s5, s6, s7] =
      some (.nx [.v (.int p), .v (.int d), .v l, .v (RR (tfold p d k t cs)), .v (RR (cs.foldl wst w)), s5', s6', s7'])
  | [], k, t, w, m, s5, s6, s7, h5, h6, h7, hc, gt, gw, hm, hk => ⟨s5, s6, s7, rfl⟩
  | c :: cs, k, t, w, m, s5, s6, s7, h5, h6, h7, hc, gt, gw, hm, hk => by
    simp only [List.length_cons] at hm hk
    have gc := hc c List.mem_cons_self
    have xb := cst_b (n := (k : Int) + 1) hp hd (by omega)
    obtain ⟨s5', s6', s7', ih⟩ := avg_w j p d hp hd l cs (k + 1) (tst t c (cst p d (k + 1))) (wst w c) (m + 15) (.v (.int k)) (.v (RR c)) (.v (.int (cst p d (k + 1)))) rfl rfl rfl (fun x hx => hc x (List.mem_cons_of_mem _ hx)) (tst_g gt gc xb)
      ⟨bd_le (wst_g gw gc).p (by omega), bd_le (wst_g gw gc).q (by omega), (wst_g gw gc).pos⟩ (by omega) (by omega)
    refine ⟨s5', s6', s7', ?_⟩
    obtain ⟨m1, m2, m3, m4, m5, m6, m7, m8, m9, m10, m11⟩ := fin_ok gt gc xb (by omega)
    obtain ⟨n1, n2, n3, n4, n5, n6, n7, n8, n9, n10, n11⟩ := fin_ok gw gc xb (by omega)
    have r1 := cost_r (j + 2) p d (k + 1)
    have r2 := ratio_r (j + 1) (t.1 * c.2 + cst p d (k + 1) * c.1 * t.2) _ m6 m7
    have r3 := ratio_r (j + 1) (w.1 * c.2 + c.1 * w.2) _ n6 n7
    simp only [Pd] at r1 r2 r3 ih ⊢
    have hb : exs (callN (tbOf es) (j + 3)) bodyA [.v (.int p), .v (.int d), .v l, .v (RR t), .v (RR w), .v (.int k), .v (RR c), s7] =
      some (.nx [.v (.int p), .v (.int d), .v l, .v (RR (tst t c (cst p d (k + 1)))), .v (RR (wst w c)), .v (.int k), .v (RR c), .v (.int (cst p d (k + 1)))]) := by
      simp only [bodyA]
      simp [setS_t, h7, r1, m1, m2, m3, m4, n1, n4, n5, r2, r3, tst, wst]
    simp only [List.map_cons, enumL, frL, List.foldl_cons, tfold]
    simp [setS_t, h5, h6, hb]
    have e : ((k + 1 : Nat) : Int) = (k : Int) + 1 := by omega
    rw [e] at ih
    exact ih
end
end Law

namespace Law
open PySem PySem.Spec L2 Mini
section
theorem tfold_g {p d : Int} (hp : 1 ≤ p ∧ p ≤ 40) (hd : 1 ≤ d ∧ d ≤ 200) : ∀ (cs : List (Int × Int)) (k : Int) (a : Int × Int) (m : Nat), (∀ c ∈ cs, Gd c 2) → Gd a m → 0 ≤ k → k + cs.length ≤ 100 → Gd (tfold p d k a cs) (m + 15 * cs.length)
  | [], k, a, m, h, g, h0, hk => g
  | c :: cs, k, a, m, h, g, h0, hk => by
    simp only [List.length_cons] at hk ⊢
    have := tfold_g hp hd cs (k + 1) _ (m + 2 + 13) (fun x hx => h x (List.mem_cons_of_mem _ hx)) (tst_g g (h c List.mem_cons_self) (cst_b (n := k + 1) hp hd (by omega))) (by omega) (by omega)
    refine ⟨bd_le this.p (by omega), bd_le this.q (by omega), this.pos⟩
def Nn (w : Int × Int) : Prop := 0 ≤ w.1 ∧ Int.gcd w.1 w.2 = 1
theorem wst_n {a c : Int × Int} (ha : 0 ≤ a.1) (ha2 : 0 < a.2) (hc : 0 ≤ c.1) (hc2 : 0 < c.2) : Nn (wst a c) := by
  have hq := Int.mul_pos ha2 hc2
  refine ⟨?_, gcd_red hq⟩
  have n1 := Int.mul_nonneg ha (Int.le_of_lt hc2)
  have n2 := Int.mul_nonneg hc (Int.le_of_lt ha2)
  show 0 ≤ rp _ _
  unfold rp
  rw [if_neg (by omega)]
  exact Int.ediv_nonneg (by omega) (by omega)
theorem wfold_g : ∀ (cs : List (Int × Int)) (a : Int × Int) (m : Nat), (∀ c ∈ cs, Gd c 2 ∧ 0 ≤ c.1) → Gd a m → Nn a → Gd (cs.foldl wst a) (m + 15 * cs.length) ∧ Nn (cs.foldl wst a)
  | [], a, m, h, g, n => ⟨g, n⟩
  | c :: cs, a, m, h, g, n => by
    obtain ⟨gc, nc⟩ := h c List.mem_cons_self
    have := wfold_g cs (wst a c) (m + 2 + 1) (fun x hx => h x (List.mem_cons_of_mem _ hx)) (wst_g g gc) (wst_n n.1 g.pos nc gc.pos)
    simp only [List.length_cons, List.foldl_cons]
    exact ⟨⟨bd_le this.1.p (by omega), bd_le this.1.q (by omega), this.1.pos⟩, this.2⟩
theorem w_zero {w : Int × Int} (n : Nn w) (p : 0 < w.2) (h : ¬ (w.1 = 0 ∧ w.2 = 1)) : 0 < w.1 := by
  have := n.1
  rcases Int.lt_or_le 0 w.1 with q | q
  · exact q
  · have e : w.1 = 0 := by omega
    have g := n.2
    rw [e, Int.gcd_zero_left] at g
    exact absurd ⟨e, by omega⟩ h
def Tt (p : Int) (cs : List (Int × Int)) (d : Int) : Int × Int := tfold p d 0 (0, 1) cs
def Wh (cs : List (Int × Int)) : Int × Int := cs.foldl wst (0, 1)
def Av (p : Int) (cs : List (Int × Int)) (d : Int) : Int × Int := (rp ((Tt p cs d).1 * (Wh cs).2) ((Tt p cs d).2 * (Wh cs).1), rq ((Tt p cs d).1 * (Wh cs).2) ((Tt p cs d).2 * (Wh cs).1))
structure Ch (cs : List (Int × Int)) : Prop where
  g : ∀ c ∈ cs, Gd c 2 ∧ 0 ≤ c.1
  l : cs.length ≤ 8
  w : 0 < (Wh cs).1
theorem g01 : Gd ((0, 1) : Int × Int) 1 := ⟨by decide, by decide, by decide⟩
section
variable {p : Int} {cs : List (Int × Int)} (hp : 1 ≤ p ∧ p ≤ 40) (C : Ch cs)
include hp C
theorem tt_g {d : Int} (hd : 1 ≤ d ∧ d ≤ 200) : Gd (Tt p cs d) 130 := by
  have l := C.l
  have := tfold_g hp hd cs 0 (0, 1) 1 (fun c hc => (C.g c hc).1) g01 (by omega) (by omega)
  exact ⟨bd_le this.p (by omega), bd_le this.q (by omega), this.pos⟩
omit hp in
theorem wh_g : Gd (Wh cs) 130 := by
  have l := C.l
  have := (wfold_g cs (0, 1) 1 C.g g01 ⟨by decide, by decide⟩).1
  exact ⟨bd_le this.p (by omega), bd_le this.q (by omega), this.pos⟩
theorem av_ok {d : Int} (hd : 1 ≤ d ∧ d ≤ 200) : mulOk (Tt p cs d).1 (Wh cs).2 ∧ mulOk (Tt p cs d).2 (Wh cs).1 ∧ 0 < (Tt p cs d).2 * (Wh cs).1 ∧ Sm ((Tt p cs d).2 * (Wh cs).1) ∧ Sm ((Tt p cs d).1 * (Wh cs).2) ∧ Gd (Av p cs d) 260 := by
  have a := tt_g hp C hd
  have b := wh_g C
  have s1 := bd_mul a.p b.q
  have s2 := bd_mul a.q b.p
  have pp := Int.mul_pos a.pos C.w
  exact ⟨(sm_of a.p (by decide)).mul (sm_of b.q (by decide)), (sm_of a.q (by decide)).mul (sm_of b.p (by decide)), pp, sm_of s2 (by decide), sm_of s1 (by decide), rr s1 s2 (by omega)⟩
theorem avg_r (k : Nat) (d : Int) (hd : 1 ≤ d ∧ d ≤ 200) : retOf (Pd (k + 4)) 10 [.v (.int p), .v (.int d), .v (.tuple (cs.map RR))] = some (.v (RR (Av p cs d))) := by
  have l := C.l
  obtain ⟨s5, s6, s7, h⟩ := avg_w k p d hp hd (.tuple (cs.map RR)) cs 0 (0, 1) (0, 1) 1 .no .no .no rfl rfl rfl (fun c hc => (C.g c hc).1) g01 g01 (by omega) (by omega)
  obtain ⟨m1, m2, m3, m4, m5, m6⟩ := av_ok hp C hd
  have r := ratio_r (k + 1) ((Tt p cs d).1 * (Wh cs).2) _ m3 m4
  have it : itemsOf .enum [.tuple (cs.map RR)] = some (enumL (cs.map RR) 0) := rfl
  refine ret_user (i := i_average_cost) rfl rfl rfl (e := [.v (.int p), .v (.int d), .v (.tuple (cs.map RR)), .v (RR (Tt p cs d)), .v (RR (Wh cs)), s5, s6, s7]) ?_
  show exs (callN (tbOf es) (k + 3)) [(.asg (.tp [(.nm 3), (.nm 4)]) (.tup [(.tup [(.cst (.int 0)), (.cst (.int 1))]), (.tup [(.cst (.int 0)), (.cst (.int 1))])])),
    (.fr (.tp [(.nm 5), (.nm 6)]) .enum [(.var 2)] bodyA),
    (.ret (.call 1 [(.bin .Mult (.idx (.var 3) (.cst (.int 0))) (.idx (.var 4) (.cst (.int 1)))), (.bin .Mult (.idx (.var 3) (.cst (.int 1))) (.idx (.var 4) (.cst (.int 0))))]))] [.v (.int p), .v (.int d), .v (.tuple (cs.map RR)), .no, .no, .no, .no, .no] = _
  simp only [Pd] at h r
  have h : frL (.tp [(.nm 5), (.nm 6)]) (exs (callN (tbOf es) (k + 3)) bodyA) (enumL (cs.map RR) 0) [.v (.int p), .v (.int d), .v (.tuple (cs.map RR)), .v (R2 0 1), .v (R2 0 1), .no, .no, .no] = some (.nx [.v (.int p), .v (.int d), .v (.tuple (cs.map RR)), .v (RR (Tt p cs d)), .v (RR (Wh cs)), s5, s6, s7]) := h
  simp [sizeLine, it, h, m1, m2, r, Av]
end
/-! the least of a row -/
def ltR (x y : Int × Int) : Bool := decide (x.1 * y.2 < y.1 * x.2)
def bfold (A : Int → Int × Int) : Nat → Int → Int → Int
  | 0, _, b => b
  | m + 1, t, b => bfold A m (t + 1) (if ltR (A t) (A b) then t else b)
theorem lt_trans' {a b c : Int × Int} (ha : 0 < a.2) (hb : 0 < b.2) (hc : 0 < c.2) (h1 : ltR a b = true) (h2 : ltR c b = false) : ltR a c = true := by
  unfold ltR at *
  simp only [decide_eq_true_eq, decide_eq_false_iff_not, Int.not_lt] at *
  have x1 : a.1 * b.2 * c.2 < b.1 * a.2 * c.2 := Int.mul_lt_mul_of_pos_right h1 hc
  have x2 : b.1 * c.2 * a.2 ≤ c.1 * b.2 * a.2 := Int.mul_le_mul_of_nonneg_right h2 (Int.le_of_lt ha)
  have e1 : a.1 * b.2 * c.2 = a.1 * c.2 * b.2 := by ac_rfl
  have e2 : b.1 * a.2 * c.2 = b.1 * c.2 * a.2 := by ac_rfl
  have e3 : c.1 * b.2 * a.2 = c.1 * a.2 * b.2 := by ac_rfl
  exact Int.lt_of_mul_lt_mul_right (show a.1 * c.2 * b.2 < c.1 * a.2 * b.2 by omega) (Int.le_of_lt hb)
theorem lt_irr (a : Int × Int) : ltR a a = false := by unfold ltR; simp
theorem bfold_ok (A : Int → Int × Int) : ∀ (m : Nat) (t b : Int), (∀ i, 1 ≤ i → i < t + m → 0 < (A i).2) → 1 ≤ b → (b < t ∨ (t = 1 ∧ b = 1 ∧ 0 < m)) → 1 ≤ t → (∀ i, 1 ≤ i → i < t → ltR (A i) (A b) = false) → (∀ i, 1 ≤ i → i < b → ltR (A b) (A i) = true) →
    1 ≤ bfold A m t b ∧ bfold A m t b < t + m ∧ ∀ i, 1 ≤ i → i < bfold A m t b → ltR (A (bfold A m t b)) (A i) = true
  | 0, t, b, hA, hb, ht, h1, h2, h3 => ⟨hb, by simp only [bfold]; omega, h3⟩
  | m + 1, t, b, hA, hb, ht, h1, h2, h3 => by
    simp only [bfold]
    by_cases c : ltR (A t) (A b) = true
    · rw [if_pos c]
      have bt : b < t := by
        rcases ht with q | ⟨q1, q2, _⟩
        · exact q
        · subst q1 q2; rw [lt_irr] at c; cases c
      have key : ∀ i, 1 ≤ i → i < t → ltR (A t) (A i) = true := fun i a e => lt_trans' (hA t h1 (by omega)) (hA b hb (by omega)) (hA i a (by omega)) c (h2 i a e)
      have := bfold_ok A m (t + 1) t (fun i a e => hA i a (by omega)) h1 (by omega) (by omega) (fun i a e => by
        by_cases q : i = t
        · subst q; exact lt_irr _
        · have k := key i a (by omega)
          unfold ltR at *
          simp only [decide_eq_true_eq, decide_eq_false_iff_not] at *
          omega) key
      exact ⟨this.1, by omega, this.2.2⟩
    · have c' : ltR (A t) (A b) = false := by simpa using c
      rw [if_neg c]
      have := bfold_ok A m (t + 1) b (fun i a e => hA i a (by omega)) hb (by omega) (by omega) (fun i a e => by
        by_cases q : i = t
        · subst q; exact c'
        · exact h2 i a (by omega)) h3
      exact ⟨this.1, by omega, this.2.2⟩
end
end Law

namespace Law
open PySem PySem.Spec L2 Mini
section
section
variable {p : Int} {cs : List (Int × Int)} (hp : 1 ≤ p ∧ p ≤ 40) (C : Ch cs)
include hp C
theorem boa_w (k : Nat) : ∀ (m : Nat) (t b : Int) (s : Sl), s.isBx = false → 1 ≤ t → 1 ≤ b → b ≤ 200 → t + m ≤ 200 → ∃ s', frL (.nm 3) (exs (Pd (k + 5)) [(.ife (.call 2 [(.call 10 [(.var 0), (.var 3), (.var 1)]), (.call 10 [(.var 0), (.var 2), (.var 1)])]) [(.asg (.nm 2) (.var 3))] [])]) (rngL t m)
    [.v (.int p), .v (.tuple (cs.map RR)), .v (.int b), s] = some (.nx [.v (.int p), .v (.tuple (cs.map RR)), .v (.int (bfold (Av p cs) m t b)), s'])
  | 0, t, b, s, hs, ht, hb, hb2, htm => ⟨s, rfl⟩
  | m + 1, t, b, s, hs, ht, hb, hb2, htm => by
    obtain ⟨s', ih⟩ := boa_w k m (t + 1) (if ltR (Av p cs t) (Av p cs b) then t else b) (.v (.int t)) rfl (by omega) (by split <;> omega) (by split <;> omega) (by omega)
    refine ⟨s', ?_⟩
    have a1 := avg_r hp C (k + 1) t (by omega)
    have a2 := avg_r hp C (k + 1) b (by omega)
    obtain ⟨m1, m2⟩ := mulL (av_ok hp C (d := t) (by omega)).2.2.2.2.2 (av_ok hp C (d := b) (by omega)).2.2.2.2.2 (by decide) (by decide)
    have l := less_r (k + 4) m1 m2
    rw [rng_succ]
    simp only [frL, bfold]
    simp only [Pd] at a1 a2 l ih ⊢
    by_cases c : ltR (Av p cs t) (Av p cs b) = true
    · have c2 : (Av p cs t).1 * (Av p cs b).2 < (Av p cs b).1 * (Av p cs t).2 := by simpa [ltR] using c
      simp only [c2, decide_true] at l
      rw [if_pos c] at ih ⊢
      simp [setS_t, hs, a1, a2, l]
      exact ih
    · have c2 : ¬ (Av p cs t).1 * (Av p cs b).2 < (Av p cs b).1 * (Av p cs t).2 := by simpa [ltR] using c
      simp only [c2, decide_false] at l
      rw [if_neg c] at ih ⊢
      simp [setS_t, hs, a1, a2, l]
      exact ih
theorem boa_r (k : Nat) : retOf (Pd (k + 6)) 11 [.v (.int p), .v (.tuple (cs.map RR))] = some (.v (.int (bfold (Av p cs) (cs.length + 1) 1 1))) := by
  have l := C.l
  obtain ⟨s', h⟩ := boa_w hp C k (cs.length + 1) 1 1 .no rfl (by omega) (by omega) (by omega) (by omega)
  have it := items_ab 1 ((cs.length : Int) + 2) (cs.length + 1) (by unfold rngOk; omega) (by unfold rngOk; omega) (by omega) (by unfold cap; omega)
  refine ret_user (i := i_best_on_average) rfl rfl rfl (e := [.v (.int p), .v (.tuple (cs.map RR)), .v (.int (bfold (Av p cs) (cs.length + 1) 1 1)), s']) ?_
  have c3 : opsM ((evs (Pd (k + 5)) [.cst (.int 1), .bin .Add (.blt .len [.var 1]) (.cst (.int 2))]).map frO) [.v (.int p), .v (.tuple (cs.map RR)), .v (.int 1), .no] = some ([.d (.int 1), .d (.int ((cs.length : Int) + 2))], [.v (.int p), .v (.tuple (cs.map RR)), .v (.int 1), .no]) := by simp
  have c4 := fr_of (t := .nm 3) (b := [(.ife (.call 2 [(.call 10 [(.var 0), (.var 3), (.var 1)]), (.call 10 [(.var 0), (.var 2), (.var 1)])]) [(.asg (.nm 2) (.var 3))] [])]) c3 rfl it
  rw [h] at c4
  have c5 : ex (Pd (k + 5)) (.asg (.nm 2) (.cst (.int 1))) [.v (.int p), .v (.tuple (cs.map RR)), .no, .no] = some (.nx [.v (.int p), .v (.tuple (cs.map RR)), .v (.int 1), .no]) := by simp
  have c6 : ∀ x : Int, ex (Pd (k + 5)) (.ret (.var 2)) [.v (.int p), .v (.tuple (cs.map RR)), .v (.int x), s'] = some (.rt (.v (.int x)) [.v (.int p), .v (.tuple (cs.map RR)), .v (.int x), s']) := fun x => by simp
  show exs (Pd (k + 5)) b_best_on_average [.v (.int p), .v (.tuple (cs.map RR)), .no, .no] = _
  rw [b_best_on_average, exs_cons, c5, Option.bind_some, thenO_nx, exs_cons, c4, Option.bind_some, thenO_nx, exs_cons, c6, Option.bind_some, thenO_rt]
end
theorem lplus_r (k : Nat) {a b c d : Int} {m n : Nat} (h1 : Rat2 a b m) (h2 : Rat2 c d n) (hm : m + n ≤ 2000) : retOf (Pd (k + 3)) 17 [.v (R2 a b), .v (R2 c d)] = some (.v (Rt (a * d + c * b) (b * d))) := by
  obtain ⟨m1, m2, m3, m4, m5, m6, m7, m8, m9, m10, m11⟩ := fin_ok (a := (a, b)) (c := (c, d)) (x := 0) h1 h2 (by decide) hm
  have r := lratio_r k (a * d + c * b) (b * d) m6 m9 m7
  refine ret_user (i := i__law_plus) rfl rfl rfl (e := [.v (R2 a b), .v (R2 c d)]) ?_
  simp only [i__law_plus, b__law_plus]
  simp only [Pd] at r
  simp only [] at m1 m4 m5
  simp [m1, m4, m5, r]
theorem ltimes_r (k : Nat) {a b c d : Int} (m1 : mulOk a c) (m2 : mulOk b d) (pz : 0 < b * d) (s1 : Sm (a * c)) (s2 : Sm (b * d)) : retOf (Pd (k + 3)) 18 [.v (R2 a b), .v (R2 c d)] = some (.v (Rt (a * c) (b * d))) := by
  have r := lratio_r k (a * c) (b * d) pz s1 s2
  refine ret_user (i := i__law_times) rfl rfl rfl (e := [.v (R2 a b), .v (R2 c d)]) ?_
  simp only [i__law_times, b__law_times]
  simp only [Pd] at r
  simp [m1, m2, r]
/-- the law's sum for a day -/
def bodyK : List C := [(.asg (.nm 20) (.call 17 [(.var 20), (.call 18 [(.idx (.var 15) (.var 16)), (.tup [(.call 20 [(.var 3), (.var 5), (.bin .Add (.var 16) (.cst (.int 1)))]), (.cst (.int 1))])])]))]
theorem bodyK_1 (s0 s1 s2 s4 s6 s7 s8 s9 s10 s11 s12 s13 s14 s17 s18 s19 s21 : Sl) (p : Int) (P : Ph) (al : List D) (kk x q : Int) (a b c d : D) (ix : atI al kk = some a) (h1 : retOf P 20 [.v (.int p), .v (.int q), .v (.int (kk + 1))] = some (.v (.int x))) (h2 : retOf P 18 [.v a, .v (R2 x 1)] = some (.v b)) (h3 : retOf P 17 [.v c, .v b] = some (.v d)) :
    exs P bodyK [s0, s1, s2, .v (.int p), s4, .v (.int q), s6, s7, s8, s9, s10, s11, s12, s13, s14, .v (.tuple al), .v (.int kk), s17, s18, s19, .v c, s21] =
      some (.nx [s0, s1, s2, .v (.int p), s4, .v (.int q), s6, s7, s8, s9, s10, s11, s12, s13, s14, .v (.tuple al), .v (.int kk), s17, s18, s19, .v d, s21]) := by
  simp only [bodyK]
  simp [ix, setS_t, h1, h2, h3, sizeLine]
section
variable (s0 s1 s2 s4 s6 s7 s8 s9 s10 s11 s12 s13 s14 s17 s18 s19 s21 : Sl) (p d : Int) (hp : 1 ≤ p ∧ p ≤ 40) (hd : 1 ≤ d ∧ d ≤ 200)
include hp hd
theorem tot_1 (all : List (Int × Int)) (c t : Int × Int) (k m : Nat) (at_ : all[k]? = some c) (gc : Gd c 2) (gt : Gd t m) (hm : m ≤ 500) (hk : k ≤ 100) :
    exs (Pd 39) bodyK [s0, s1, s2, .v (.int p), s4, .v (.int d), s6, s7, s8, s9, s10, s11, s12, s13, s14, .v (.tuple (all.map RR)), .v (.int k), s17, s18, s19, .v (RR t), s21] =
      some (.nx [s0, s1, s2, .v (.int p), s4, .v (.int d), s6, s7, s8, s9, s10, s11, s12, s13, s14, .v (.tuple (all.map RR)), .v (.int k), s17, s18, s19, .v (RR (tst t c (cst p d (k + 1)))), s21]) := by
  have xb := cst_b (n := (k : Int) + 1) hp hd (by omega)
  obtain ⟨m1, m2, m3, m4, m5, m6, m7, m8, m9, m10, m11⟩ := fin_ok gt gc xb (by omega)
  have r1 := paid_r 38 p d (k + 1) hd.1 (by omega) (by omega)
  have cp := gc.pos
  have c21 : c.2 * 1 = c.2 := by omega
  have sc2 : Sm (c.2 * 1) := by rw [c21]; exact sm_of gc.q (by decide)
  have r2 := ltimes_r 36 m10 (show mulOk c.2 1 from (sm_of gc.q (by decide)).mul (sm_of (n := 1) (by decide) (by decide))) (by omega) m11 sc2
  have g2 : Rat2 (rp (c.1 * cst p d (k + 1)) (c.2 * 1)) (rq (c.1 * cst p d (k + 1)) (c.2 * 1)) 14 := rr (bd_le (bd_mul gc.p xb) (by decide)) (by rw [c21]; exact bd_le gc.q (by decide)) (by omega)
  have r3 := lplus_r 36 gt g2 (by omega)
  have se := step_eq (x := cst p d (k + 1)) gt gc
  rw [se] at r3
  have ix : atI (all.map RR) (k : Int) = some (RR c) := at_nth _ k _ (by rw [List.getElem?_map, at_]; rfl)
  simp only [Pd, Nat.reduceAdd] at r1 r2 r3 ⊢
  exact bodyK_1 _ _ _ _ _ _ _ _ _ _ _ _ _ _ _ _ _ p _ _ _ _ d _ _ _ _ ix r1 r2 r3
theorem tot_w (all : List (Int × Int)) : ∀ (cs : List (Int × Int)) (k : Nat) (t : Int × Int) (m : Nat) (s16 : Sl), s16.isBx = false → all.drop k = cs → (∀ c ∈ cs, Gd c 2) → Gd t m → m + 15 * cs.length ≤ 500 → k + cs.length ≤ 100 →
    ∃ s16', frL (.nm 16) (exs (Pd 39) bodyK) (rngL k cs.length) [s0, s1, s2, .v (.int p), s4, .v (.int d), s6, s7, s8, s9, s10, s11, s12, s13, s14, .v (.tuple (all.map RR)), s16, s17, s18, s19, .v (RR t), s21] =
      some (.nx [s0, s1, s2, .v (.int p), s4, .v (.int d), s6, s7, s8, s9, s10, s11, s12, s13, s14, .v (.tuple (all.map RR)), s16', s17, s18, s19, .v (RR (tfold p d k t cs)), s21]) ∧ s16'.isBx = false := by
  intro cs
  induction cs with
  | nil => intro k t m s16 h16 _ _ _ _ _; exact ⟨s16, rfl, h16⟩
  | cons c cs ih =>
    intro k t m s16 h16 hd' hc gt hm hk
    simp only [List.length_cons] at hm hk ⊢
    have gc := hc c List.mem_cons_self
    have xb := cst_b (n := (k : Int) + 1) hp hd (by omega)
    have dr : all.drop (k + 1) = cs := by rw [← List.drop_drop, hd']; rfl
    have at_ : all[k]? = some c := by
      have := congrArg (fun l => l[0]?) hd'
      simpa using this
    obtain ⟨s16', ih, h2⟩ := ih (k + 1) (tst t c (cst p d (k + 1))) (m + 15) (.v (.int k)) rfl dr (fun x hx => hc x (List.mem_cons_of_mem _ hx)) (tst_g gt gc xb) (by omega) (by omega)
    refine ⟨s16', ?_, h2⟩
    have hb := tot_1 s0 s1 s2 s4 s6 s7 s8 s9 s10 s11 s12 s13 s14 s17 s18 s19 s21 p d hp hd all c t k m at_ gc gt (by omega) (by omega)
    have e : ((k + 1 : Nat) : Int) = (k : Int) + 1 := by omega
    rw [e] at ih
    rw [rng_succ]
    have ha : asgT (.nm 16) (.int k) [s0, s1, s2, .v (.int p), s4, .v (.int d), s6, s7, s8, s9, s10, s11, s12, s13, s14, .v (.tuple (all.map RR)), s16, s17, s18, s19, .v (RR t), s21] = some [s0, s1, s2, .v (.int p), s4, .v (.int d), s6, s7, s8, s9, s10, s11, s12, s13, s14, .v (.tuple (all.map RR)), .v (.int k), s17, s18, s19, .v (RR t), s21] := by
      rw [asgT_nm, setS_t _ _ _ s16 rfl h16]; rfl
    simp only [frL, tfold, ha, Option.bind_some, hb]
    exact ih
end
end
end Law

namespace Law
open PySem PySem.Spec L2 Mini
section
abbrev EL (script box turn price worst day most at_ needed paid one least best other due chances k whole chance means total cheap : Sl := .no) : En := [script, box, turn, price, worst, day, most, at_, needed, paid, one, least, best, other, due, chances, k, whole, chance, means, total, cheap]
abbrev CH (cs : List (Int × Int)) : Sl := .v (.tuple (cs.map RR))
def bodyQ : List C := [(.asg (.nm 20) (.tup [(.cst (.int 0)), (.cst (.int 1))])),
    (.fr (.nm 16) .rng [(.blt .len [(.var 15)])] bodyK),
    (.app 19 (.call 18 [(.var 20), (.tup [(.idx (.var 17) (.cst (.int 1))), (.idx (.var 17) (.cst (.int 0)))])])),
    (.ife (.not (.call 14 [(.call 10 [(.var 3), (.var 5), (.var 15)]), (.idx (.var 19) (.neg (.cst (.int 1))))])) [(.ret (.cst (.bool false)))] [])]
section
variable {p : Int} {cs : List (Int × Int)} (hp : 1 ≤ p ∧ p ≤ 40) (C : Ch cs) (bx : Sl)
include hp C
theorem bodyQ_1 (q : Int) (hq : 1 ≤ q ∧ q ≤ 200) (ms : List D) (hm : ms.length < 1000) :
    Go (Pd 39) bodyQ (EL (box := bx) (price := .v (.int p)) (day := .v (.int q)) (chances := CH cs) (whole := .v (RR (Wh cs))) (means := .l ms))
      (.nx (EL (box := bx) (price := .v (.int p)) (chances := CH cs) (whole := .v (RR (Wh cs))) (means := .l (ms ++ [RR (Av p cs q)])))) := by
  have l := C.l
  obtain ⟨m1, m2, m3, m4, m5, m6⟩ := av_ok hp C hq
  have tg := tt_g hp C hq
  have wg := wh_g C
  obtain ⟨s16', h, h2⟩ := tot_w .no bx .no .no .no .no .no .no .no .no .no .no .no (.v (RR (Wh cs))) .no (.l ms) .no p q hp hq cs cs 0 (0, 1) 1 .no rfl rfl (fun c hc => (C.g c hc).1) g01 (by omega) (by omega)
  have it := items_r2 cs.length (show cs.length ≤ cap by unfold cap; omega)
  refine Go.cons (f := EL (box := bx) (price := .v (.int p)) (day := .v (.int q)) (chances := CH cs) (whole := .v (RR (Wh cs))) (means := .l ms) (total := .v (R2 0 1))) (.of (by simp [setS_t, sizeLine])) ?_
  refine Go.cons (f := EL (box := bx) (price := .v (.int p)) (day := .v (.int q)) (chances := CH cs) (whole := .v (RR (Wh cs))) (means := .l ms) (total := .v (RR (Tt p cs q)))) ?_ ?_
  · refine Go1.fr (ps := [.d (.int cs.length)]) (e1 := EL (box := bx) (price := .v (.int p)) (day := .v (.int q)) (chances := CH cs) (whole := .v (RR (Wh cs))) (means := .l ms) (total := .v (R2 0 1))) (by simp) rfl it ?_
    exact ⟨_, h, show LE _ _ by simp [EL, sle_nob h2, Tt]⟩
  · have r1 := ltimes_r 36 (a := (Tt p cs q).1) (b := (Tt p cs q).2) (c := (Wh cs).2) (d := (Wh cs).1) m1 m2 m3 m5 m4
    have r2 := avg_r hp C 35 q hq
    have sm := same_self sameAt 1 37 (RR (Av p cs q)) (okR2 0 _ _)
    simp only [Pd, Nat.reduceAdd] at r1 r2 sm ⊢
    have e : (Rt ((Tt p cs q).1 * (Wh cs).2) ((Tt p cs q).2 * (Wh cs).1) : D) = RR (Av p cs q) := rfl
    rw [e] at r1
    refine Go.low (.of (f := EL (box := bx) (price := .v (.int p)) (day := .v (.int q)) (chances := CH cs) (whole := .v (RR (Wh cs))) (means := .l (ms ++ [RR (Av p cs q)])) (total := .v (RR (Tt p cs q)))) ?_) (by simp)
    simp [r1, r2, Mini.app_ok, hm, sizeLine, sm]
end
end
end Law

namespace Law
open PySem PySem.Spec L2 Mini
section
def bodyCh : List C := [(.asg (.nm 21) (.ite (.call 19 [(.var 10), (.var 21)]) (.var 10) (.var 21)))]
theorem bfold_b (A : Int → Int × Int) : ∀ (m : Nat) (t b : Int), 1 ≤ b → b < t + m ∨ b < t + 1 → 1 ≤ t → 1 ≤ bfold A m t b ∧ (bfold A m t b < t + m ∨ bfold A m t b = b)
  | 0, t, b, h1, h2, h3 => ⟨h1, .inr rfl⟩
  | m + 1, t, b, h1, h2, h3 => by
    simp only [bfold]
    have := bfold_b A m (t + 1) (if ltR (A t) (A b) then t else b) (by split <;> omega) (by split <;> omega) (by omega)
    refine ⟨this.1, ?_⟩
    rcases this.2 with h | h
    · left; omega
    · rw [h]; split
      · left; omega
      · right; rfl
theorem bfold_snoc (A : Int → Int × Int) : ∀ (m : Nat) (t b : Int), bfold A (m + 1) t b = if ltR (A (t + m)) (A (bfold A m t b)) then t + m else bfold A m t b
  | 0, t, b => by simp [bfold]
  | m + 1, t, b => by
    rw [bfold, bfold_snoc A m (t + 1), bfold]
    have e : t + 1 + (m : Int) = t + ((m + 1 : Nat) : Int) := by omega
    rw [e]
theorem bfold_lo (A : Int → Int × Int) (m : Nat) : 1 ≤ bfold A m 1 1 ∧ bfold A m 1 1 ≤ 1 + m := by
  have := bfold_b A m 1 1 (by omega) (by omega) (by omega)
  omega
def tailM : List C := [(.asg (.nm 19) (.lst [])),
    (.fr (.nm 5) .rng [(.cst (.int 1)), (.bin .Add (.blt .len [(.var 15)]) (.cst (.int 2)))] bodyQ),
    (.asg (.nm 21) (.idx (.var 19) (.cst (.int 0)))),
    (.fr (.nm 10) .seq [(.var 19)] bodyCh),
    (.ife (.not (.call 14 [(.call 11 [(.var 3), (.var 15)]), (.bin .Add (.mth .index (.var 19) (.var 21)) (.cst (.int 1)))])) [(.ret (.cst (.bool false)))] [])]
theorem tail_5 (P : Ph) (bx : Sl) (p b : Int) (al ms : List D) (c : D) (n : Nat) (md : mthD .index (.list ms) c = some (.v (.int n))) (e0 : (n : Int) + 1 = b) (h1 : retOf P 11 [.v (.int p), .v (.tuple al)] = some (.v (.int b))) (h2 : retOf P 14 [.v (.int b), .v (.int b)] = some (.v (.bool true))) :
  exs P [(.ife (.not (.call 14 [(.call 11 [(.var 3), (.var 15)]), (.bin .Add (.mth .index (.var 19) (.var 21)) (.cst (.int 1)))])) [(.ret (.cst (.bool false)))] [])] (EL (box := bx) (price := .v (.int p)) (chances := .v (.tuple al)) (means := .v (.list ms)) (cheap := .v c)) = some (.nx (EL (box := bx) (price := .v (.int p)) (chances := .v (.tuple al)) (means := .v (.list ms)) (cheap := .v c))) := by
  simp [md, e0, h1, h2]
section
variable {p : Int} {cs : List (Int × Int)} (hp : 1 ≤ p ∧ p ≤ 40) (C : Ch cs) (bx : Sl)
include hp C
abbrev Ms (p : Int) (cs : List (Int × Int)) (n : Nat) : List D := (List.range n).map fun (i : Nat) => RR (Av p cs (1 + i))
theorem means_w : GoF (Pd 39) (.nm 5) bodyQ (rngL 1 (cs.length + 1)) (EL (box := bx) (price := .v (.int p)) (chances := CH cs) (whole := .v (RR (Wh cs))) (means := .l []))
      (.nx (EL (box := bx) (price := .v (.int p)) (chances := CH cs) (whole := .v (RR (Wh cs))) (means := .l (Ms p cs (cs.length + 1))))) := by
  have l := C.l
  refine GoF.rng (fun n => EL (box := bx) (price := .v (.int p)) (chances := CH cs) (whole := .v (RR (Wh cs))) (means := .l (Ms p cs n))) 1 (cs.length + 1) fun i hi => ?_
  refine ⟨EL (box := bx) (price := .v (.int p)) (day := .v (.int (1 + i))) (chances := CH cs) (whole := .v (RR (Wh cs))) (means := .l (Ms p cs i)), by simp [setS_t], .inl ?_⟩
  have := bodyQ_1 hp C bx (1 + i) (by omega) (Ms p cs i) (by simp [Ms]; omega)
  have e : Ms p cs i ++ [RR (Av p cs (1 + i))] = Ms p cs (i + 1) := by simp [Ms, List.range_succ]
  rw [e] at this
  exact this
theorem cheap_w (n : Nat) (hn : n ≤ 9) (mm : D) : GoF (Pd 39) (.nm 10) bodyCh (Ms p cs n) (EL (box := bx) (price := .v (.int p)) (chances := CH cs) (means := .v mm) (cheap := .v (RR (Av p cs 1))))
      (.nx (EL (box := bx) (price := .v (.int p)) (chances := CH cs) (means := .v mm) (cheap := .v (RR (Av p cs (bfold (Av p cs) n 1 1)))))) := by
  have := GoF.idx0 (P := Pd 39) (t := .nm 10) (b := bodyCh) (fun n => EL (box := bx) (price := .v (.int p)) (chances := CH cs) (means := .v mm) (cheap := .v (RR (Av p cs (bfold (Av p cs) n 1 1))))) (Ms p cs n) fun i x hx => ?_
  · have e : (Ms p cs n).length = n := by simp [Ms]
    rw [e] at this
    exact this
  · have hx2 : i < n ∧ x = RR (Av p cs (1 + i)) := by
      rw [List.getElem?_map] at hx
      obtain ⟨k, h1, h2⟩ := Option.map_eq_some_iff.mp hx
      obtain ⟨h3, h4⟩ := List.getElem?_eq_some_iff.mp h1
      simp only [List.length_range] at h3
      simp only [List.getElem_range] at h4
      subst h4
      exact ⟨h3, h2.symm⟩
    obtain ⟨hi, rfl⟩ := hx2
    refine ⟨EL (box := bx) (price := .v (.int p)) (one := .v (RR (Av p cs (1 + i)))) (chances := CH cs) (means := .v mm) (cheap := .v (RR (Av p cs (bfold (Av p cs) i 1 1)))), by simp [setS_t], .inl ?_⟩
    have b := bfold_lo (Av p cs) i
    obtain ⟨m1, m2⟩ := mulL (av_ok hp C (d := 1 + i) (by omega)).2.2.2.2.2 (av_ok hp C (d := bfold (Av p cs) i 1 1) (by omega)).2.2.2.2.2 (by decide) (by decide)
    have l := lless_r 38 m1 m2
    have sn := bfold_snoc (Av p cs) i 1 1
    refine Go.low (.of (f := EL (box := bx) (price := .v (.int p)) (one := .v (RR (Av p cs (1 + i)))) (chances := CH cs) (means := .v mm) (cheap := .v (RR (Av p cs (bfold (Av p cs) (i + 1) 1 1))))) ?_) (by simp)
    simp only [Pd, Nat.reduceAdd] at l ⊢
    by_cases c : ltR (Av p cs (1 + i)) (Av p cs (bfold (Av p cs) i 1 1)) = true
    · have c2 : (Av p cs (1 + i)).1 * (Av p cs (bfold (Av p cs) i 1 1)).2 < (Av p cs (bfold (Av p cs) i 1 1)).1 * (Av p cs (1 + i)).2 := by simpa [ltR] using c
      rw [if_pos c] at sn
      rw [sn]
      simp only [c2, decide_true] at l
      simp [bodyCh, l, setS_t]
    · have c2 : ¬ (Av p cs (1 + i)).1 * (Av p cs (bfold (Av p cs) i 1 1)).2 < (Av p cs (bfold (Av p cs) i 1 1)).1 * (Av p cs (1 + i)).2 := by simpa [ltR] using c
      rw [if_neg c] at sn
      rw [sn]
      simp only [c2, decide_false] at l
      simp [bodyCh, l, setS_t]
/-- the end of a turn -/
theorem tail_w : Go (Pd 39) tailM (EL (box := bx) (price := .v (.int p)) (chances := CH cs) (whole := .v (RR (Wh cs)))) (.nx (EL (box := bx))) := by
  have l := C.l
  have it := items_ab 1 ((cs.length : Int) + 2) (cs.length + 1) (by unfold rngOk; omega) (by unfold rngOk; omega) (by omega) (by unfold cap; omega)
  have b := bfold_lo (Av p cs) (cs.length + 1)
  have bo := bfold_ok (Av p cs) (cs.length + 1) 1 1 (fun i h1 h2 => (av_ok hp C (d := i) (by omega)).2.2.2.2.2.pos) (by omega) (.inr ⟨rfl, rfl, by omega⟩) (by omega) (fun i h1 h2 => by omega) (fun i h1 h2 => by omega)
  have ix := idxOf_at (fun i => RR (Av p cs i)) (RR (Av p cs (bfold (Av p cs) (cs.length + 1) 1 1))) (cs.length + 1) 1 (bfold (Av p cs) (cs.length + 1) 1 1) 0 b.1 bo.2.1 (fun x h1 h2 => by
    have := bo.2.2 x h1 h2
    rw [eqv_R2]
    refine Bool.eq_false_iff.mpr fun z => ?_
    simp only [Bool.and_eq_true, beq_iff_eq] at z
    have z : Av p cs x = Av p cs (bfold (Av p cs) (cs.length + 1) 1 1) := Prod.ext z.1 z.2
    rw [z, lt_irr] at this
    cases this) (by rw [eqv_R2]; simp)
  obtain ⟨n, hn⟩ : ∃ n : Nat, n = 0 + (bfold (Av p cs) (cs.length + 1) 1 1 - 1).toNat := ⟨_, rfl⟩
  rw [← hn] at ix
  have e0 : (n : Int) + 1 = bfold (Av p cs) (cs.length + 1) 1 1 := by omega
  have bo_r := boa_r hp C 33
  have sm := same_self sameAt 0 38 (.int (bfold (Av p cs) (cs.length + 1) 1 1)) (.int _ _)
  have sh1 : SeqAt.shaped (.list (Ms p cs (cs.length + 1))) = true := sh_list _ fun x hx => by
    obtain ⟨i, _, rfl⟩ := List.mem_map.mp hx
    exact ⟨_, _, rfl⟩
  have md : mthD .index (.list (Ms p cs (cs.length + 1))) (RR (Av p cs (bfold (Av p cs) (cs.length + 1) 1 1))) = some (.v (.int n)) := by
    unfold mthD
    simp only
    rw [if_pos ⟨sh1, sh_R2 _ _⟩]
    have ix : idxOf (RR (Av p cs (bfold (Av p cs) (cs.length + 1) 1 1))) (Ms p cs (cs.length + 1)) 0 = some n := ix
    rw [ix]
    rfl
  have m0 : atI (Ms p cs (cs.length + 1)) 0 = some (RR (Av p cs 1)) := at_nth _ 0 _ (by simp [Ms])
  refine Go.cons (f := EL (box := bx) (price := .v (.int p)) (chances := CH cs) (whole := .v (RR (Wh cs))) (means := .l [])) (.of (by simp [setS_t, sizeLine])) ?_
  refine Go.cons (Go1.fr (ps := [.d (.int 1), .d (.int (cs.length + 2))]) (e1 := EL (box := bx) (price := .v (.int p)) (chances := CH cs) (whole := .v (RR (Wh cs))) (means := .l [])) (by simp) rfl it (means_w hp C bx)) ?_
  refine Go.cons (f := EL (box := bx) (price := .v (.int p)) (chances := CH cs) (whole := .v (RR (Wh cs))) (means := .l (Ms p cs (cs.length + 1))) (cheap := .v (RR (Av p cs 1)))) (.of (by simp [setS_t, m0])) ?_
  refine Go.cons (Go1.fr (ps := [.d (.list (Ms p cs (cs.length + 1)))]) (e1 := EL (box := bx) (price := .v (.int p)) (chances := CH cs) (whole := .v (RR (Wh cs))) (means := .v (.list (Ms p cs (cs.length + 1)))) (cheap := .v (RR (Av p cs 1)))) (by simp) rfl rfl ((cheap_w hp C bx (cs.length + 1) (by omega) (.list (Ms p cs (cs.length + 1)))).le (by simp))) ?_
  simp only [Pd, Nat.reduceAdd] at bo_r sm ⊢
  refine Go.low (.of (f := EL (box := bx) (price := .v (.int p)) (chances := CH cs) (means := .v (.list (Ms p cs (cs.length + 1)))) (cheap := .v (RR (Av p cs (bfold (Av p cs) (cs.length + 1) 1 1))))) ?_) (by simp)
  exact tail_5 _ _ _ _ _ _ _ n md e0 bo_r sm
end
end
end Law

namespace Law
open PySem PySem.Spec L2 Mini
section
/-! straight pieces, for any data -/
section
variable (P : Ph) (sc : Sl) (c1 c2 c3 : List Int) (a1 b1 a2 b2 a3 b3 x y p q n : Int)
theorem st1 (h : retB P 13 [.bx c1 [a1, b1], .v (.int 40)] = some (.v (.int x), .bx c2 [a2, b2])) (e : 1 + x = p) :
    exs P [(.asg (.nm 3) (.bin .Add (.cst (.int 1)) (.callB 13 1 [(.cst (.int 40))]))), (.asg (.nm 4) (.lst []))] (EL (script := sc) (box := .bx c1 [a1, b1])) = some (.nx (EL (script := sc) (box := .bx c2 [a2, b2]) (price := .v (.int p)) (worst := .l []))) := by
  simp [h, setS_t, e, sizeLine]
theorem st2 (h : retB P 13 [.bx c1 [a1, b1], .v (.int 80)] = some (.v (.int x), .bx c2 [a2, b2])) (h2 : retB P 13 [.bx c2 [a2, b2], .v (.int 80)] = some (.v (.int y), .bx c3 [a3, b3])) (e : 1 + x = n) (e2 : 1 + y = q)
    (ws : List D) (k : Int) (h3 : retOf P 3 [.v (.int p), .v (.int q), .v (.int n)] = some (.v (.int k))) (h4 : retOf P 20 [.v (.int p), .v (.int q), .v (.int n)] = some (.v (.int k))) (h5 : retOf P 4 [.v (.int p), .v (.int n)] = some (.v (.int (min p n))))
    (h6 : retOf P 14 [.v (R2 k (min p n)), .v (R2 k (min p n))] = some (.v (.bool true))) :
    exs P [(.asg (.tp [(.nm 8), (.nm 5)]) (.tup [(.bin .Add (.cst (.int 1)) (.callB 13 1 [(.cst (.int 80))])), (.bin .Add (.cst (.int 1)) (.callB 13 1 [(.cst (.int 80))]))])),
      (.ife (.not (.call 14 [(.tup [(.call 3 [(.var 3), (.var 5), (.var 8)]), (.call 4 [(.var 3), (.var 8)])]), (.tup [(.call 20 [(.var 3), (.var 5), (.var 8)]), (.blt .min [(.var 3), (.var 8)])])])) [(.ret (.cst (.bool false)))] [])]
      (EL (script := sc) (box := .bx c1 [a1, b1]) (price := .v (.int p)) (worst := .l ws)) = some (.nx (EL (script := sc) (box := .bx c3 [a3, b3]) (price := .v (.int p)) (worst := .l ws) (day := .v (.int q)) (needed := .v (.int n)))) := by
  simp [h, h2, setS_t, e, e2, sizeLine, min_i, h3, h4, h5, h6]
theorem st3 (bx : Sl) (ws : List D) (w : D) (h : atI ws 0 = some w) :
    exs P [(.asg (.nm 11) (.idx (.var 4) (.cst (.int 0))))] (EL (script := sc) (box := bx) (price := .v (.int p)) (worst := .l ws) (day := .v (.int q)) (needed := .v (.int n))) =
      some (.nx (EL (script := sc) (box := bx) (price := .v (.int p)) (worst := .l ws) (day := .v (.int q)) (needed := .v (.int n)) (least := .v w))) := by
  simp [h, setS_t]
def cmpP : E := (.lc (.nm 10) .seq [(.var 4)] [(.cmp .Eq (.var 10) (.var 11))] (.var 10) [10])
theorem cmpP_opd (env : En) : (ev P cmpP).opd env = (frzM (ev P cmpP).val env).map fun r => (.d r.1, r.2) := by
  simp only [cmpP, ev_lc, lcM_opd]
theorem st4 (bx : Sl) (ws : List D) (w : D) (h1 : retOf P 6 [.v (.int p)] = some (.v (.int p))) (h2 : retOf P 16 [.v (.int (2 * p - 1)), .v (.int p)] = some (.v w)) (h3 : retOf P 14 [.v w, .v w] = some (.v (.bool true))) (k : Int) (h4 : mthD .index (.list ws) w = some (.v (.int k))) (e : k + 1 = p) (mo : mulOk 2 p)
    (h5 : (ev P cmpP).val (EL (script := sc) (box := bx) (price := .v (.int p)) (worst := .v (.list ws)) (day := .v (.int q)) (needed := .v (.int n)) (least := .v w) (best := .v (.int p))) = some (.l [w], EL (script := sc) (box := bx) (price := .v (.int p)) (worst := .v (.list ws)) (day := .v (.int q)) (needed := .v (.int n)) (least := .v w) (best := .v (.int p)))) :
    exs P [(.asg (.nm 12) (.call 6 [(.var 3)])),
      (.ife (.bop .Or [(.not (.call 14 [(.var 11), (.call 16 [(.bin .Sub (.bin .Mult (.cst (.int 2)) (.var 3)) (.cst (.int 1))), (.var 3)])])), (.cmp .NotEq (.var 12) (.bin .Add (.mth .index (.var 4) (.var 11)) (.cst (.int 1)))), (.cmp .NotEq (.var 12) (.var 3)), (.cmp .NotEq (.blt .len [cmpP]) (.cst (.int 1)))]) [(.ret (.cst (.bool false)))] [])]
      (EL (script := sc) (box := bx) (price := .v (.int p)) (worst := .v (.list ws)) (day := .v (.int q)) (needed := .v (.int n)) (least := .v w)) = some (.nx (EL (script := sc) (box := bx) (price := .v (.int p)) (worst := .v (.list ws)) (day := .v (.int q)) (needed := .v (.int n)) (least := .v w) (best := .v (.int p)))) := by
  simp only [EL] at h5
  simp [h1, h2, h3, h4, e, mo, setS_t, cmpP_opd, h5]
theorem st5 (o : Int) (w1 w2 r : D) (t : Bool) (m : Int) (h : retB P 13 [.bx c1 [a1, b1], .v (.int m)] = some (.v (.int x), .bx c2 [a2, b2])) (em : 2 * p + 2 = m) (mo : mulOk 2 p) (e : 1 + x = o) (h1 : retOf P 5 [.v (.int p), .v (.int q)] = some (.v w1)) (h2 : retOf P 5 [.v (.int p), .v (.int o)] = some (.v w2)) (h3 : retOf P 19 [.v w1, .v w2] = some (.v (.bool t)))
    (h4 : retOf P 16 [.v (.int n), .v (.int (min p n))] = some (.v r)) (h5 : retOf P 9 [.v (.int p), .v (.int q), .v (.int o)] = some (.v (.bool t))) (h6 : retOf P 7 [.v (.int p), .v (.int n)] = some (.v r)) (h7 : retOf P 14 [.v (.tuple [.bool t, r]), .v (.tuple [.bool t, r])] = some (.v (.bool true))) :
    exs P [(.asg (.nm 13) (.bin .Add (.cst (.int 1)) (.callB 13 1 [(.bin .Add (.bin .Mult (.cst (.int 2)) (.var 3)) (.cst (.int 2)))]))),
      (.asg (.nm 14) (.tup [(.call 19 [(.call 5 [(.var 3), (.var 5)]), (.call 5 [(.var 3), (.var 13)])]), (.call 16 [(.var 8), (.blt .min [(.var 3), (.var 8)])])])),
      (.ife (.not (.call 14 [(.tup [(.call 9 [(.var 3), (.var 5), (.var 13)]), (.call 7 [(.var 3), (.var 8)])]), (.var 14)])) [(.ret (.cst (.bool false)))] [])]
      (EL (script := sc) (box := .bx c1 [a1, b1]) (price := .v (.int p)) (day := .v (.int q)) (needed := .v (.int n))) = some (.nx (EL (script := sc) (box := .bx c2 [a2, b2]) (price := .v (.int p)) (day := .v (.int q)) (needed := .v (.int n)) (other := .v (.int o)) (due := .v (.tuple [.bool t, r])))) := by
  simp [h, em, mo, e, h1, h2, h3, h4, h5, h6, h7, setS_t, sizeLine, min_i]
theorem st6a (cx : En) (r : D) (h : retB P 13 [.bx c1 [a1, b1], .v (.int 4)] = some (.v (.int x), .bx c2 [a2, b2])) (h2 : retB P 13 [.bx c2 [a2, b2], .v (.int 3)] = some (.v (.int y), .bx c3 [a3, b3])) (h3 : retOf P 16 [.v (.int x), .v (.int (1 + y))] = some (.v r)) (k : Int) :
    frzM (ev P (.call 16 [(.callB 13 1 [(.cst (.int 4))]), (.bin .Add (.cst (.int 1)) (.callB 13 1 [(.cst (.int 3))]))])).val (EL (script := sc) (box := .bx c1 [a1, b1]) (price := .v (.int p)) (k := .v (.int k))) = some (r, EL (script := sc) (box := .bx c3 [a3, b3]) (price := .v (.int p)) (k := .v (.int k))) := by
  simp [h, h2, h3]
end
/-! a drawn row of chances -/
def cmpC : E := (.lc (.nm 16) .rng [(.bin .Add (.cst (.int 1)) (.callB 13 1 [(.cst (.int 8))]))] [] (.call 16 [(.callB 13 1 [(.cst (.int 4))]), (.bin .Add (.cst (.int 1)) (.callB 13 1 [(.cst (.int 3))]))]) [16])
def Nc (c : Int × Int) : Prop := Gd c 2 ∧ 0 ≤ c.1
theorem draws (cs : List Int) (a b m : Int) (hm : 0 < m) (hm2 : m ≤ 1000) : ∃ (x : Int) (cs2 : List Int) (a2 b2 : Int), retB (Pd 39) 13 [.bx cs [a, b], .v (.int m)] = some (.v (.int x), .bx cs2 [a2, b2]) ∧ 0 ≤ x ∧ x < m :=
  draw_ok (es := es) (j := 13) rfl (by omega) cs a b m hm (by omega)
theorem one_chance {x y : Int} (hx : 0 ≤ x ∧ x < 4) (hy : 0 ≤ y ∧ y < 3) : Nc (rp x (1 + y), rq x (1 + y)) := by
  refine ⟨rr (by omega) (by omega) (by omega), ?_⟩
  show 0 ≤ rp _ _
  unfold rp
  rw [if_neg (by omega)]
  exact Int.ediv_nonneg hx.1 (by omega)
theorem chances_w (sc : Sl) (cs : List Int) (a b p : Int) : ∃ (zs : List (Int × Int)) (cs2 : List Int) (a2 b2 : Int), (ev (Pd 39) cmpC).val (EL (script := sc) (box := .bx cs [a, b]) (price := .v (.int p))) = some (.l (zs.map RR), EL (script := sc) (box := .bx cs2 [a2, b2]) (price := .v (.int p))) ∧ (∀ z ∈ zs, Nc z) ∧ 1 ≤ zs.length ∧ zs.length ≤ 8 := by
  obtain ⟨x, c1, a1, b1, h1, h2, h3⟩ := draws cs a b 8 (by omega) (by omega)
  obtain ⟨m, hm⟩ : ∃ m : Nat, (m : Int) = 1 + x := ⟨(1 + x).toNat, by omega⟩
  have it := items_r2 m (show m ≤ cap by unfold cap; omega)
  have op : opsM (evs (Pd 39) [(.bin .Add (.cst (.int 1)) (.callB 13 1 [(.cst (.int 8))]))]) (EL (script := sc) (box := .bx cs [a, b]) (price := .v (.int p))) = some ([.d (.int m)], EL (script := sc) (box := .bx c1 [a1, b1]) (price := .v (.int p))) := by
    rw [hm]
    generalize Pd 39 = P at h1 ⊢
    simp [h1]
  obtain ⟨zs, e2, h4, h5⟩ := lc_inv (t := .nm 16) (cond := []) (elt := ev (Pd 39) (.call 16 [(.callB 13 1 [(.cst (.int 4))]), (.bin .Add (.cst (.int 1)) (.callB 13 1 [(.cst (.int 3))]))])) (own := [16]) (ps := [.d (.int m)]) (e0 := EL (script := sc) (box := .bx c1 [a1, b1]) (price := .v (.int p)))
    (fun rem acc env => (∃ zs : List (Int × Int), acc = zs.map RR ∧ (∀ z ∈ zs, Nc z) ∧ zs.length + rem.length = m) ∧ ∃ cs2 a2 b2, env = EL (script := sc) (box := .bx cs2 [a2, b2]) (price := .v (.int p)))
    (fun x xs ys env ⟨⟨zs, j1, j2, j3⟩, c2, a2, b2, j4⟩ => by
      subst j4
      obtain ⟨x1, c3, a3, b3, k1, k2, k3⟩ := draws c2 a2 b2 4 (by omega) (by omega)
      obtain ⟨y1, c4, a4, b4, l1, l2, l3⟩ := draws c3 a3 b3 3 (by omega) (by omega)
      have lr := lratio_r 37 x1 (1 + y1) (by omega) (sm_small (by omega)) (sm_small (by omega))
      refine ⟨EL (script := sc) (box := .bx c2 [a2, b2]) (price := .v (.int p)) (k := .v x), EL (script := sc) (box := .bx c2 [a2, b2]) (price := .v (.int p)) (k := .v x), by simp [setS_t], .inl ⟨rfl, Rt x1 (1 + y1), EL (script := sc) (box := .bx c4 [a4, b4]) (price := .v (.int p)) (k := .v x), ?_, trivial, ⟨zs ++ [(rp x1 (1 + y1), rq x1 (1 + y1))], by simp [j1], ?_, by simp at j3 ⊢; omega⟩, c4, a4, b4, rfl⟩⟩
      · simp only [Pd, Nat.reduceAdd] at k1 l1 lr ⊢
        generalize callN (tbOf es) 39 = P at k1 l1 lr ⊢
        simp [k1, l1, lr]
      · intro z hz
        rcases List.mem_append.mp hz with h | h
        · exact j2 z h
        · rw [List.mem_singleton.mp h]; exact one_chance ⟨k2, k3⟩ ⟨l2, l3⟩)
    (rngL 0 m) [] (EL (script := sc) (box := .bx c1 [a1, b1]) (price := .v (.int p))) ⟨⟨[], rfl, ⟨fun z hz => (List.not_mem_nil hz).elim, by simp [rngL]⟩⟩, _, _, _, rfl⟩
  obtain ⟨⟨zs2, e3, h6, h7⟩, c2, a2, b2, h8⟩ := h5
  simp only [List.nil_append] at e3
  subst e3 h8
  refine ⟨zs2, c2, a2, b2, ?_, h6, by simp at h7; omega, by simp at h7; omega⟩
  have := lcM_of (t := .nm 16) (k := .rng) (its := evs (Pd 39) [(.bin .Add (.cst (.int 1)) (.callB 13 1 [(.cst (.int 8))]))]) (cond := []) (own := [16]) op rfl it (by trivial) h4
  rw [cmpC, ev_lc, evs_nil, this]
  rfl
end
end Law

namespace Law
open PySem PySem.Spec L2 Mini
section
def bodyW : List C := [(.asg (.nm 17) (.call 17 [(.var 17), (.var 18)]))]
theorem whole_1 (P : Ph) (sc bx : Sl) (p : Int) (al : D) (a b c : D) (h : retOf P 17 [.v a, .v b] = some (.v c)) : exs P bodyW (EL (script := sc) (box := bx) (price := .v (.int p)) (chances := .v al) (whole := .v a) (chance := .v b)) = some (.nx (EL (script := sc) (box := bx) (price := .v (.int p)) (chances := .v al) (whole := .v c) (chance := .v b))) := by
  simp [bodyW, h, setS_t]
theorem whole_w (sc bx : Sl) (p : Int) (al : D) : ∀ (cs : List (Int × Int)) (a : Int × Int) (m : Nat), (∀ c ∈ cs, Nc c) → Gd a m → Nn a → m + 15 * cs.length ≤ 500 →
    GoF (Pd 39) (.nm 18) bodyW (cs.map RR) (EL (script := sc) (box := bx) (price := .v (.int p)) (chances := .v al) (whole := .v (RR a))) (.nx (EL (script := sc) (box := bx) (price := .v (.int p)) (chances := .v al) (whole := .v (RR (cs.foldl wst a)))))
  | [], a, m, h, g, n, hm => .nil (.refl _)
  | c :: cs, a, m, h, g, n, hm => by
    obtain ⟨gc, nc⟩ := h c List.mem_cons_self
    simp only [List.length_cons] at hm
    have r := lplus_r 36 g gc (by omega)
    have ih := whole_w sc bx p al cs (wst a c) (m + 15) (fun x hx => h x (List.mem_cons_of_mem _ hx)) ⟨bd_le (wst_g g gc).p (by omega), bd_le (wst_g g gc).q (by omega), (wst_g g gc).pos⟩ (wst_n n.1 g.pos nc gc.pos) (by omega)
    have e1 : asgT (.nm 18) (RR c) (EL (script := sc) (box := bx) (price := .v (.int p)) (chances := .v al) (whole := .v (RR a))) = some (EL (script := sc) (box := bx) (price := .v (.int p)) (chances := .v al) (whole := .v (RR a)) (chance := .v (RR c))) := by simp [setS_t]
    exact GoF.cons (x := RR c) e1 (.inl (Go.low (.of (whole_1 _ sc bx p al (RR a) (RR c) (RR (wst a c)) r)) (by simp))) ih
/-- a turn -/
def bodyT : List C := [(.asg (.nm 3) (.bin .Add (.cst (.int 1)) (.callB 13 1 [(.cst (.int 40))]))), (.asg (.nm 4) (.lst []))] ++ ([(.fr (.nm 5) .rng [(.cst (.int 1)), (.bin .Add (.bin .Mult (.cst (.int 2)) (.var 3)) (.cst (.int 3)))] bodyD)] ++
  ([(.asg (.tp [(.nm 8), (.nm 5)]) (.tup [(.bin .Add (.cst (.int 1)) (.callB 13 1 [(.cst (.int 80))])), (.bin .Add (.cst (.int 1)) (.callB 13 1 [(.cst (.int 80))]))])),
      (.ife (.not (.call 14 [(.tup [(.call 3 [(.var 3), (.var 5), (.var 8)]), (.call 4 [(.var 3), (.var 8)])]), (.tup [(.call 20 [(.var 3), (.var 5), (.var 8)]), (.blt .min [(.var 3), (.var 8)])])])) [(.ret (.cst (.bool false)))] [])] ++
  ([(.asg (.nm 11) (.idx (.var 4) (.cst (.int 0))))] ++ ([(.fr (.nm 10) .seq [(.var 4)] bodyM)] ++
  ([(.asg (.nm 12) (.call 6 [(.var 3)])),
      (.ife (.bop .Or [(.not (.call 14 [(.var 11), (.call 16 [(.bin .Sub (.bin .Mult (.cst (.int 2)) (.var 3)) (.cst (.int 1))), (.var 3)])])), (.cmp .NotEq (.var 12) (.bin .Add (.mth .index (.var 4) (.var 11)) (.cst (.int 1)))), (.cmp .NotEq (.var 12) (.var 3)), (.cmp .NotEq (.blt .len [cmpP]) (.cst (.int 1)))]) [(.ret (.cst (.bool false)))] [])] ++
  ([(.asg (.nm 13) (.bin .Add (.cst (.int 1)) (.callB 13 1 [(.bin .Add (.bin .Mult (.cst (.int 2)) (.var 3)) (.cst (.int 2)))]))),
      (.asg (.nm 14) (.tup [(.call 19 [(.call 5 [(.var 3), (.var 5)]), (.call 5 [(.var 3), (.var 13)])]), (.call 16 [(.var 8), (.blt .min [(.var 3), (.var 8)])])])),
      (.ife (.not (.call 14 [(.tup [(.call 9 [(.var 3), (.var 5), (.var 13)]), (.call 7 [(.var 3), (.var 8)])]), (.var 14)])) [(.ret (.cst (.bool false)))] [])] ++
  ([(.asg (.nm 15) (.blt .tuple [cmpC])), (.asg (.nm 17) (.tup [(.cst (.int 0)), (.cst (.int 1))]))] ++ ([(.fr (.nm 18) .seq [(.var 15)] bodyW)] ++
  ((.ife (.cmp .Eq (.var 17) (.tup [(.cst (.int 0)), (.cst (.int 1))])) [.cont] []) :: tailM)))))))))
theorem cmpC_opd (P : Ph) (env : En) : (ev P cmpC).opd env = (frzM (ev P cmpC).val env).map fun r => (.d r.1, r.2) := by
  simp only [cmpC, ev_lc, lcM_opd]
theorem st6 (P : Ph) (sc b1 b2 : Sl) (p : Int) (xs : List D) (h : (ev P cmpC).val (EL (script := sc) (box := b1) (price := .v (.int p))) = some (.l xs, EL (script := sc) (box := b2) (price := .v (.int p)))) :
    exs P [(.asg (.nm 15) (.blt .tuple [cmpC])), (.asg (.nm 17) (.tup [(.cst (.int 0)), (.cst (.int 1))]))] (EL (script := sc) (box := b1) (price := .v (.int p))) = some (.nx (EL (script := sc) (box := b2) (price := .v (.int p)) (chances := .v (.tuple xs)) (whole := .v (R2 0 1)))) := by
  simp only [EL] at h
  simp [cmpC_opd, h, setS_t, sizeLine]
  simp [bltD, setS_t, sizeLine]
theorem st7 (P : Ph) (env : En) (a b : Int) (h : env[17]? = some (.v (R2 a b))) : (ev P (.cmp .Eq (.var 17) (.tup [(.cst (.int 0)), (.cst (.int 1))]))).tst env = some (decide (a = 0 ∧ b = 1), env) := by
  have e : cmpD .Eq (R2 a b) (R2 0 1) = some (.v (.bool (decide (a = 0 ∧ b = 1)))) := by
    rw [cmp_eqS (sh_R2 _ _) (sh_R2 _ _), eqv_R2]
    have : (a == 0 && b == 1) = decide (a = 0 ∧ b = 1) := by
      by_cases h1 : a = 0 <;> by_cases h2 : b = 1 <;> simp [h1, h2]
    rw [this]
  simp [h, e, sizeLine]
section
variable (sc : Sl) (cs : List Int) (a b : Int)
theorem turn_w (hsc : sc = .no) : ∃ (cs2 : List Int) (a2 b2 : Int), Go (Pd 39) bodyT (EL (script := sc) (box := .bx cs [a, b])) (.nx (EL (script := sc) (box := .bx cs2 [a2, b2]))) ∨ Go (Pd 39) bodyT (EL (script := sc) (box := .bx cs [a, b])) (.ct (EL (script := sc) (box := .bx cs2 [a2, b2]))) := by
  obtain ⟨x0, c1, a1, b1, d1, d2, d3⟩ := draws cs a b 40 (by omega) (by omega)
  obtain ⟨p, hp⟩ : ∃ p, p = 1 + x0 := ⟨_, rfl⟩
  have pp : 1 ≤ p ∧ p ≤ 40 := by omega
  obtain ⟨x1, c2, a2, b2, e1, e2, e3⟩ := draws c1 a1 b1 80 (by omega) (by omega)
  obtain ⟨x2, c3, a3, b3, f1, f2, f3⟩ := draws c2 a2 b2 80 (by omega) (by omega)
  obtain ⟨n, hn⟩ : ∃ n, n = 1 + x1 := ⟨_, rfl⟩
  obtain ⟨q, hq⟩ : ∃ q, q = 1 + x2 := ⟨_, rfl⟩
  obtain ⟨m4, em4⟩ : ∃ m, m = 2 * p + 2 := ⟨_, rfl⟩
  obtain ⟨x3, c4, a4, b4, g1, g2, g3⟩ := draws c3 a3 b3 m4 (by omega) (by omega)
  obtain ⟨o, ho⟩ : ∃ o, o = 1 + x3 := ⟨_, rfl⟩
  obtain ⟨zs, c5, a5, b5, h1, h2, h3, h4⟩ := chances_w sc c4 a4 b4 p
  obtain ⟨W, hW⟩ : ∃ W : List D, W = (List.range (2 * p + 2).toNat).map fun (i : Nat) => Wr p (1 + i) := ⟨_, rfl⟩
  -- the days
  have s2 : Go (Pd 39) [(.fr (.nm 5) .rng [(.cst (.int 1)), (.bin .Add (.bin .Mult (.cst (.int 2)) (.var 3)) (.cst (.int 3)))] bodyD)] (EL (script := sc) (box := .bx c1 [a1, b1]) (price := .v (.int p)) (worst := .l [])) (.nx (EL (script := sc) (box := .bx c1 [a1, b1]) (price := .v (.int p)) (worst := .l W))) := by
    obtain ⟨s5, s6, s7, s8, s9, s10, h, q5, q6, q7, q8, q9, q10⟩ := day_w sc (.bx c1 [a1, b1]) .no .no .no .no .no .no .no .no .no .no .no .no p pp.1 pp.2 (2 * p + 2).toNat 1 [] .no .no .no .no .no .no rfl rfl rfl rfl rfl rfl (by omega) (by omega) (by simp; omega)
    have it := items_ab 1 (2 * p + 3) (2 * p + 2).toNat (by unfold rngOk; omega) (by unfold rngOk; omega) (by omega) (by unfold cap; omega)
    have mo : mulOk 2 p := (sm_small (by decide)).mul (sm_small (by omega))
    refine Go.cons (Go1.fr (ps := [.d (.int 1), .d (.int (2 * p + 3))]) (e1 := EL (script := sc) (box := .bx c1 [a1, b1]) (price := .v (.int p)) (worst := .l [])) (by simp [mo]) rfl it ⟨_, h, ?_⟩) (.nil (.refl _))
    show LE _ _
    rw [List.nil_append, ← hW]
    simp [sle_nob q5, sle_nob q6, sle_nob q7, sle_nob q8, sle_nob q9, sle_nob q10]
  have W0 : atI W 0 = some (Wr p 1) := at_nth _ 0 _ (by
    rw [hW, List.getElem?_map, List.getElem?_range (by omega)]; rfl)
  have s4 : Go (Pd 39) [(.fr (.nm 10) .seq [(.var 4)] bodyM)] (EL (script := sc) (box := .bx c3 [a3, b3]) (price := .v (.int p)) (worst := .l W) (day := .v (.int q)) (needed := .v (.int n)) (least := .v (Wr p 1)))
      (.nx (EL (script := sc) (box := .bx c3 [a3, b3]) (price := .v (.int p)) (worst := .v (.list W)) (day := .v (.int q)) (needed := .v (.int n)) (least := .v (Wr p p)))) := by
    obtain ⟨s10, h, q10⟩ := least_w sc (.bx c3 [a3, b3]) .no (.v (.int p)) (.v (.list W)) (.v (.int q)) .no .no (.v (.int n)) .no .no .no .no .no .no .no .no .no .no .no p pp.1 pp.2 (2 * p + 2).toNat 1 (2 * p + 3) .no rfl (by omega) (by omega) (by omega)
    have k1 : cur p 1 = 1 := by unfold cur; omega
    have k2 : cur p (2 * p + 3) = p := by unfold cur; omega
    rw [k1, k2, ← hW] at h
    refine Go.cons (Go1.fr (ps := [.d (.list W)]) (ds := [.list W]) (xs := W) (e1 := EL (script := sc) (box := .bx c3 [a3, b3]) (price := .v (.int p)) (worst := .v (.list W)) (day := .v (.int q)) (needed := .v (.int n)) (least := .v (Wr p 1))) (by generalize Pd 39 = P; simp) rfl (items_l W) ⟨_, h, ?_⟩) (.nil (.refl _))
    show LE _ _
    simp [sle_nob q10]
  have shW : ∀ x ∈ W, ∃ a b, x = R2 a b := fun x hx => by
    rw [hW] at hx
    obtain ⟨i, _, rfl⟩ := List.mem_map.mp hx
    exact ⟨_, _, rfl⟩
  have neq : ∀ x, 1 ≤ x → x ≠ p → PyData.eqv (Wr p x) (Wr p p) = false := fun x h1 h2 => by
    rw [eqv_R2]
    refine Bool.eq_false_iff.mpr fun z => ?_
    simp only [Bool.and_eq_true, beq_iff_eq] at z
    have := w_min pp.1 h1 h2
    have z1 : wp p x = wp p p := z.1
    have z2 : wq p x = wq p p := z.2
    rw [z1, z2] at this
    omega
  have eqp : PyData.eqv (Wr p p) (Wr p p) = true := by rw [eqv_R2]; simp
  have cmpl : (ev (Pd 39) cmpP).val (EL (script := sc) (box := .bx c3 [a3, b3]) (price := .v (.int p)) (worst := .v (.list W)) (day := .v (.int q)) (needed := .v (.int n)) (least := .v (Wr p p)) (best := .v (.int p))) = some (.l [Wr p p], EL (script := sc) (box := .bx c3 [a3, b3]) (price := .v (.int p)) (worst := .v (.list W)) (day := .v (.int q)) (needed := .v (.int n)) (least := .v (Wr p p)) (best := .v (.int p))) := by
    have fl : W.filter (fun x => PyData.eqv x (Wr p p)) = [Wr p p] := by
      rw [hW]
      exact filt_at (fun x => Wr p x) (Wr p p) (2 * p + 2).toNat 1 p (by omega) (by omega) neq eqp
    have := lc_of (P := Pd 39) (t := .nm 10) (k := .seq) (its := [(.var 4)]) (cond := [(.cmp .Eq (.var 10) (.var 11))]) (elt := (.var 10)) (own := [10]) (ps := [.d (.list W)]) (ds := [.list W]) (xs := W) (e := EL (script := sc) (box := .bx c3 [a3, b3]) (price := .v (.int p)) (worst := .v (.list W)) (day := .v (.int q)) (needed := .v (.int n)) (least := .v (Wr p p)) (best := .v (.int p)))
      id (fun x => PyData.eqv x (Wr p p)) rfl rfl rfl (items_l W) fun x hx => ?_
    · rw [fl] at this
      exact this
    · obtain ⟨u, v, rfl⟩ := shW x hx
      have ce : cmpD .Eq (R2 u v) (Wr p p) = some (.v (.bool (PyData.eqv (R2 u v) (Wr p p)))) := by
        exact cmp_eqS (sh_R2 _ _) (sh_R2 _ _)
      refine ⟨EL (script := sc) (box := .bx c3 [a3, b3]) (price := .v (.int p)) (worst := .v (.list W)) (day := .v (.int q)) (needed := .v (.int n)) (one := .v (R2 u v)) (least := .v (Wr p p)) (best := .v (.int p)), by simp [setS_t], rfl, ?_, fun _ => ?_⟩
      · generalize Pd 39 = P
        generalize PyData.eqv (R2 u v) (Wr p p) = t at ce ⊢
        generalize Wr p p = w at ce ⊢
        simp [ce]
      · rfl
  have mth : mthD .index (.list W) (Wr p p) = some (.v (.int ((p - 1).toNat : Nat))) := by
    unfold mthD
    simp only
    rw [if_pos ⟨sh_list W shW, sh_R2 _ _⟩]
    have := idxOf_at (fun x => Wr p x) (Wr p p) (2 * p + 2).toNat 1 p 0 (by omega) (by omega) (fun x h1 h2 => neq x h1 (by omega)) eqp
    rw [← hW] at this
    rw [this, Nat.zero_add]; rfl
  have t2 := st2 (Pd 39) sc c1 c2 c3 a1 b1 a2 b2 a3 b3 x1 x2 p q n e1 f1 hn.symm hq.symm W (cst p q n) (cost_r 38 p q n) (paid_r 38 p q n (by omega) (by omega) (by omega)) (best_r 38 p n) (same_self sameAt 1 37 _ (okR2 0 _ _))
  have eW : Rt (2 * p - 1) p = Wr p p := by
    unfold Wr
    rw [show p - 1 + p = 2 * p - 1 by omega, show min p p = p by omega]
  have mo2 : mulOk 2 p := (sm_small (by decide)).mul (sm_small (by omega))
  have lr := lratio_r 37 (2 * p - 1) p (by omega) (sm_small (by omega)) (sm_small (by omega))
  rw [eW] at lr
  have t4 := st4 (Pd 39) sc p q n (.bx c3 [a3, b3]) W (Wr p p) (bday_r 34 p pp.1 pp.2) lr (same_self sameAt 1 37 _ (okR2 0 _ _)) (p - 1).toNat mth (by omega) mo2 cmpl
  have w1 := worst_r 36 p q (by omega) (by omega) (sm_small (by omega))
  have w2 := worst_r 36 p o (by omega) (by omega) (sm_small (by omega))
  have w1' := worst_r 35 p q (by omega) (by omega) (sm_small (by omega))
  have w2' := worst_r 35 p o (by omega) (by omega) (sm_small (by omega))
  obtain ⟨m1, m2⟩ := mulL (ratW p q pp.1 (by omega) (by omega) (by omega)) (ratW p o pp.1 (by omega) (by omega) (by omega)) (by decide) (by decide)
  have l1 := lless_r 38 m1 m2
  have l2 := less_r 37 m1 m2
  have bt : retOf (Pd 39) 9 [.v (.int p), .v (.int q), .v (.int o)] = some (.v (.bool (decide (wp p q * wq p o < wp p o * wq p q)))) := by
    refine ret_user (i := i_beats) rfl rfl rfl (e := [.v (.int p), .v (.int q), .v (.int o)]) ?_
    simp only [Pd, Nat.reduceAdd] at w1' w2' l2
    simp only [i_beats, b_beats]
    generalize callN (tbOf es) 38 = P at w1' w2' l2 ⊢
    simp [w1', w2', l2]
  have t5 := st5 (Pd 39) sc c3 c4 a3 b3 a4 b4 x3 p q n o _ _ _ _ m4 g1 em4.symm mo2 ho.symm w1 w2 l1 (lratio_r 37 n (min p n) (by omega) (sm_small (by omega)) (sm_small (by omega))) bt (never_r 36 p n (by omega) (by omega) (sm_small (by omega))) (same_self sameAt 2 36 _ (okP 1 _ _ (.bool _ _) (okR2 0 _ _)))
  have t6 := st6 (Pd 39) sc _ _ p (zs.map RR) h1
  have t7 := whole_w sc (.bx c5 [a5, b5]) p (.tuple (zs.map RR)) zs (0, 1) 1 h2 g01 ⟨by decide, by decide⟩ (by omega)
  have wg := (wfold_g zs (0, 1) 1 (fun c hc => h2 c hc) g01 ⟨by decide, by decide⟩)
  have pre : ∀ {o : Oc}, Go (Pd 39) ((.ife (.cmp .Eq (.var 17) (.tup [(.cst (.int 0)), (.cst (.int 1))])) [.cont] []) :: tailM) (EL (script := sc) (box := .bx c5 [a5, b5]) (price := .v (.int p)) (chances := CH zs) (whole := .v (RR (Wh zs)))) o → Go (Pd 39) bodyT (EL (script := sc) (box := .bx cs [a, b])) o := fun g =>
    Go.app (.of (st1 (Pd 39) sc cs c1 a b a1 b1 x0 p d1 hp.symm)) (Go.app s2 (Go.app (.of t2) (Go.app (.of (st3 (Pd 39) sc p q n _ W _ W0)) (Go.app s4 (Go.app (.of t4) ((Go.app (.of t5) ((Go.app (.of t6) (Go.app (Go.cons (Go1.fr (ps := [.d (.tuple (zs.map RR))]) (ds := [.tuple (zs.map RR)]) (xs := zs.map RR) (e1 := EL (script := sc) (box := .bx c5 [a5, b5]) (price := .v (.int p)) (chances := CH zs) (whole := .v (R2 0 1))) (by generalize Pd 39 = P; simp) rfl (items_t _) t7) (.nil (.refl _))) g)).le (by simp))).le (by simp)))))))
  by_cases z : (Wh zs).1 = 0 ∧ (Wh zs).2 = 1
  · refine ⟨c5, a5, b5, .inr (pre (Go.ife (e1 := EL (script := sc) (box := .bx c5 [a5, b5]) (price := .v (.int p)) (chances := CH zs) (whole := .v (RR (Wh zs)))) (k := true) ?_ ?_))⟩
    · rw [st7 (Pd 39) _ (Wh zs).1 (Wh zs).2 rfl, decide_eq_true z]
    · rw [if_pos rfl]
      exact Go.ct ⟨.ct _, ex_cont _ _, by
        show LE _ _
        simp⟩
  · have C : Ch zs := ⟨fun c hc => h2 c hc, h4, w_zero wg.2 wg.1.pos z⟩
    refine ⟨c5, a5, b5, .inl (pre (Go.ife (e1 := EL (script := sc) (box := .bx c5 [a5, b5]) (price := .v (.int p)) (chances := CH zs) (whole := .v (RR (Wh zs)))) (k := false) ?_ ?_))⟩
    · rw [st7 (Pd 39) _ (Wh zs).1 (Wh zs).2 rfl, decide_eq_false z]
    · rw [if_neg (by decide), List.nil_append]
      subst hsc
      exact ((tail_w pp C (.bx c5 [a5, b5])).le (by simp)).low (by simp)
end
def headL : List C := [(.asg (.nm 1) (.callS 12 0)), (.ife (.cmp .NotEq (.cst (.int 1000)) (.cst (.int 1000))) [(.ret (.cst (.bool false)))] [])]
def lastL : List C := [(.ret (.call 14 [(.tup [(.call 6 [(.cst (.int 5))]), (.call 5 [(.cst (.int 5)), (.cst (.int 5))])]), (.tup [(.cst (.int 5)), (.tup [(.cst (.int 9)), (.cst (.int 5))])])]))]
theorem b_law_eq : b_law = headL ++ ((.fr (.nm 2) .rng [(.cst (.int 4))] bodyT) :: lastL) := rfl
theorem st8 (P : Ph) (ns : List Int) (bx : Sl) (hb : bx.isBx = true) (h : retOf P 12 [.sc ns] = some bx) : exs P headL (EL (script := .sc ns)) = some (.nx (EL (script := .sc ns) (box := bx))) := by
  simp [headL, h, setS_t]
theorem st9 (P : Ph) (bx : Sl) (h1 : retOf P 6 [.v (.int 5)] = some (.v (.int 5))) (h2 : retOf P 5 [.v (.int 5), .v (.int 5)] = some (.v (R2 9 5))) (h3 : retOf P 14 [.v (.tuple [.int 5, R2 9 5]), .v (.tuple [.int 5, R2 9 5])] = some (.v (.bool true))) : exs P lastL (EL (box := bx)) = some (.rt (.v (.bool true)) (EL (box := bx))) := by
  simp [lastL, h1, h2, h3, sizeLine]
theorem law_true (ns : List Int) (h : ns.length ≤ 63) : retOf (callN (tbOf es) 40) 21 [.sc ns] = some (.v (.bool true)) := by
  have hbox : retOf (Pd 39) 12 [.sc ns] = some (.bx ns [0, 4711 + ns.length]) := by
    unfold retOf
    rw [Pd, call_prim (es := es) (d := 38) (j := 12) (m := 0) (g := primBox) rfl (by omega)]
    simp [primBox, h]
  have w := worst_r 36 5 5 (by omega) (by omega) (sm_small (by omega))
  have we : Wr 5 5 = R2 9 5 := by
    show R2 (rp (5 - 1 + 5) (min 5 5)) (rq (5 - 1 + 5) (min 5 5)) = _
    rw [show rp (5 - 1 + 5) (min 5 5) = 9 by decide, show rq (5 - 1 + 5) (min 5 5) = 5 by decide]
  rw [we] at w
  refine fn_go (i := i_law) rfl rfl rfl ?_
  show Go (Pd 39) b_law (EL (script := .sc ns)) (.rt (.v (.bool true)))
  rw [b_law_eq]
  refine Go.app (.of (st8 (Pd 39) ns _ rfl hbox)) ?_
  obtain ⟨e2, ⟨cs, a, b, rfl⟩, g⟩ := GoF.inv (P := Pd 39) (t := .nm 2) (b := bodyT) (fun _ e => ∃ cs a b, e = EL (box := .bx cs [a, b])) (rngL 0 4) 0 (EL (box := .bx ns [0, 4711 + ns.length])) (fun i x e hx he => by
    obtain ⟨cs, a, b, rfl⟩ := he
    obtain ⟨cs2, a2, b2, hg⟩ := turn_w .no cs a b rfl
    refine ⟨EL (box := .bx cs [a, b]) (turn := .v x), EL (box := .bx cs2 [a2, b2]), by simp [setS_t], ?_, cs2, a2, b2, rfl⟩
    rcases hg with hg | hg
    · exact .inl (hg.le (by simp))
    · exact .inr (hg.le (by simp))) ⟨_, _, _, rfl⟩
  refine Go.cons (f := EL (box := .bx cs [a, b])) (Go1.fr (ps := [.d (.int 4)]) (ds := [.int 4]) (xs := rngL 0 4) (e1 := EL (script := .sc ns) (box := .bx ns [0, 4711 + ns.length])) (by generalize Pd 39 = P; simp) rfl (items_r2 4 (by decide)) (g.le (by simp))) ?_
  exact .rtOf (st9 (Pd 39) _ (bday_r 34 5 (by omega) (by omega)) w (same_self sameAt 2 36 _ (okP 1 _ _ (.int _ _) (okR2 0 _ _))))
end
end Law

namespace Law
open PySem PySem.Spec L2 Mini
abbrev sBox : Stmt := top 19
abbrev sLoad : Stmt := top 20
abbrev sDraw : Stmt := top 21
section
variable {P : Program} {w : World} {K : PySem.W.Frag} {mg : Str → Option Value} {base : Heap}
def ifBody : Stmt → List Stmt
  | .If _ b _ _ => b
  | _ => []
theorem scLo : FnScope ["box", "cells", "cell", "size", "first", "second"] ["box"] (defScope sLoad) := ⟨rfl, rfl, rfl, by decide +kernel, rfl, by decide +kernel, by decide +kernel⟩
theorem ok_load {f : Addr} {fd : FuncData} (F : Fun K "_law_load" "_law_load" sLoad f fd) (ml : mg "len" = none) (mi : mg "int" = none) : FnOk P w K mg base CX0 1 f fd ["box"] spLoad := by
  refine F.ok scLo (fun vs H Q E h => ?_) (fun cdv A outer s H vs Q E hr h => ?_)
  · obtain ⟨a, c, cs, size, seed, rfl, _⟩ := h
    rfl
  obtain ⟨a, c, cs, size, seed, rfl, ha, hc, ne, q⟩ := h
  obtain ⟨tt, htt, hq⟩ : ∃ t, PSs (cxOf CX0 P w K mg base ["box", "cells", "cell", "size", "first", "second"] "_law_load" (defScope sLoad) f cdv A outer s H E).nox ((defBody sLoad).drop 2) t ∧
      ∀ (c1 c2 c3 : Option V) (H1 : Hp) (s1 : Int), H1 a = some (.lst [.ref c, .int size, .int s1]) → (Q (.int (boxMix s1).1) (upd H1 a (.lst [.ref c, .int size, .int (boxMix s1).2]))) → t { nx := fun _ H' => Q .non H', rt := Q } [some (.ref a), c1, c2, c3, none, none] H1 := by
    refine ⟨_, pss_cons (ps_set (i := 4) scLo.nd rfl (Or.inl rfl) (pe_op op_mod (pe_callTy call_int1 (by rfl) mi PyProof.Rows.boot_int (pa_cons (pe_op op_add (pe_op op_mul (pe_ix ix_list (pv 0) pe_int (fun _ _ => rfl)) pe_int) pe_int) pa_nil)) pe_int))
      (pss_cons (ps_set (i := 5) scLo.nd rfl (Or.inl rfl) (pe_op op_mod (pe_callTy call_int1 (by rfl) mi PyProof.Rows.boot_int (pa_cons (pe_op op_add (pe_op op_mul (pv 4) pe_int) pe_int) pa_nil)) pe_int))
      (pss_cons (ps_asg (pe_op op_mod (pe_callTy call_int1 (by rfl) mi PyProof.Rows.boot_int (pa_cons (pe_op op_add (pe_op op_mul (pv 5) pe_int) pe_int) pa_nil)) pe_int) (pg_sub (pv 0) pe_int set_list))
      (pss_one (ps_ret (pe_op op_add (pe_op op_add (pe_op op_mul (pv 4) pe_int) (pe_op op_mul (pv 5) pe_int)) (pe_ix ix_list (pv 0) pe_int (fun _ _ => rfl))))))), fun c1 c2 c3 H1 s1 h1 q1 => ?_⟩
    refine ⟨_, rfl, a, _, 2, _, rfl, rfl, SqL.of h1, rfl, _, _, rfl, rfl, cmulR (by decide), _, _, rfl, rfl, .inl ⟨_, rfl, _, _, rfl, rfl, (by show (0 : Int) < 2147483629; decide), ?_⟩⟩
    refine ⟨_, rfl, _, _, rfl, rfl, cmulR (by decide), _, _, rfl, rfl, .inl ⟨_, rfl, _, _, rfl, rfl, (by show (0 : Int) < 2147483587; decide), ?_⟩⟩
    refine ⟨_, rfl, _, _, rfl, rfl, cmulR (by decide), _, _, rfl, rfl, .inl ⟨_, rfl, _, _, rfl, rfl, (by show (0 : Int) < 2147483563; decide), ?_⟩⟩
    refine ⟨_, rfl, a, _, 2, 2, rfl, rfl, h1, rfl, ?_⟩
    refine ⟨_, rfl, _, _, rfl, rfl, cmulR (by decide), _, rfl, _, _, rfl, rfl, cmulR (by decide), _, _, rfl, rfl, _, rfl, a, _, 2, _, rfl, rfl, SqL.of upd_same, rfl, _, _, rfl, rfl, ?_⟩
    exact q1
  have lm : (cs.map V.int).length = cs.length := List.length_map _
  let D : Ends := { nx := fun _ H' => Q .non H', rt := Q }
  obtain ⟨t2, ht2, hq2⟩ : ∃ t, PSs (cxOf CX0 P w K mg base ["box", "cells", "cell", "size", "first", "second"] "_law_load" (defScope sLoad) f cdv A outer s H E).nox ((ifBody ((defBody sLoad).getD 1 (.Pass ⟨0, 0, 0, 0⟩))).drop 2) t ∧
      ∀ (z : Int) (cs' : List Int), cs = z :: cs' → ∀ (y : Int), y = (if z ≥ 0 then 2 * z else -2 * z - 1) → ∀ (c1 c2 : Option V), t { D with nx := tt D } [some (.ref a), c1, c2, some (.int y), none, none] (upd H c (HO.lst (cs'.map V.int))) := by
    refine ⟨_, pss_cons (ps_if (pt_cmpR op_ge (pv 3) pe_int (nomark _)) (pss_one (ps_ret (pv 3))) pss_nil)
      (pss_one (ps_asg (pe_op op_mod (pe_callTy call_int1 (by rfl) mi PyProof.Rows.boot_int (pa_cons (pe_op op_add (pe_op op_add (pe_op op_mul (pe_ix ix_list (pv 0) pe_int (fun _ _ => rfl)) pe_int) (pe_op op_mul (pv 3) pe_int)) pe_int) pa_nil)) pe_int) (pg_sub (pv 0) pe_int set_list))), fun z cs' hcs y hy c1 c2 => ?_⟩
    subst hcs
    have hc1 : (upd H c (HO.lst (cs'.map V.int))) c = some (.lst (cs'.map V.int)) := upd_same
    have ha1 : (upd H c (HO.lst (cs'.map V.int))) a = some (.lst [.ref c, .int size, .int seed]) := by rw [upd_ne ne]; exact ha
    have e1 : (boxLoad (z :: cs') seed) = (if y ≥ 1000000000000000000 then (y, cs', seed) else ((boxMix ((seed * 69621 + y * 48271 + 11) % 2147483647)).1, cs', (boxMix ((seed * 69621 + y * 48271 + 11) % 2147483647)).2)) := by
      rw [hy]; rfl
    rw [e1] at q
    refine ⟨_, rfl, _, _, rfl, rfl, _, rfl, ?_⟩
    by_cases hb : (1000000000000000000 : Int) ≤ y
    · rw [decide_eq_true hb]
      rw [if_pos hb] at q
      refine iteT ⟨_, rfl, ?_⟩
      exact q _ ha1 hc1 fun b h1 h2 => upd_ne h2
    · rw [decide_eq_false hb]
      rw [if_neg hb] at q
      refine iteF ?_
      refine ⟨_, rfl, a, _, 2, _, rfl, rfl, SqL.of ha1, rfl, _, _, rfl, rfl, cmulR (by decide), _, rfl, _, _, rfl, rfl, cmulR (by decide), _, _, rfl, rfl, _, _, rfl, rfl, .inl ⟨_, rfl, _, _, rfl, rfl, (by show (0 : Int) < 2147483647; decide), ?_⟩⟩
      refine ⟨_, rfl, a, _, 2, 2, rfl, rfl, ha1, rfl, ?_⟩
      refine hq _ _ _ _ _ upd_same ?_
      rw [upd_upd]
      exact q _ upd_same (by rw [upd_ne ne.symm]; exact hc1) fun b h1 h2 => by rw [upd_ne h1, upd_ne h2]
  refine ⟨_, pss_cons (ps_set (i := 1) scLo.nd rfl (Or.inl rfl) (pe_ix ix_list (pv 0) pe_int (fun _ _ => rfl)))
    (pss_cons (ps_if (pt_cmpR op_gt (pe_callB call_len_seq (by rfl) ml PySem.boot_len (pa_cons (pv 1) pa_nil)) pe_int (nomark _))
      (pss_cons (ps_set (i := 2) scLo.nd rfl (Or.inl rfl) (pe_callTy call_int1 (by rfl) mi PyProof.Rows.boot_int (pa_cons (pe_bm PySem.F.plainAttrs_list PySem.F.slot_list_pop PySem.F.type_list_pop mt_popAt (pv 1) (pa_cons pe_int pa_nil)) pa_nil)))
      (pss_cons (ps_set (i := 3) scLo.nd rfl (Or.inl rfl) (pe_ifExp (pt_cmpR op_ge (pv 2) pe_int (nomark _)) (pe_op op_mul pe_int (pv 2)) (pe_op op_sub (pe_op op_mul (pe_un un_neg pe_int) (pv 2)) pe_int)))
      ht2)) pss_nil)
    htt), ?_⟩
  refine ⟨_, rfl, a, _, 0, _, rfl, rfl, SqL.of ha, rfl, ?_⟩
  refine ⟨_, rfl, c, _, rfl, .inl (SqL.of hc), _, _, rfl, rfl, _, rfl, ?_⟩
  cases cs with
  | nil =>
    refine iteF ?_
    exact hq _ _ _ H seed ha (q _ upd_same (by rw [upd_ne ne.symm]; exact hc) fun b h1 h2 => upd_ne h1)
  | cons z cs =>
    have hpos : decide ((0 : Int) < (((List.map V.int (z :: cs)).length : Nat) : Int)) = true := decide_eq_true (by simp)
    rw [hpos]
    refine iteT ?_
    refine ⟨_, rfl, .inl ⟨rfl, _, SqL.of hc⟩, c, _, 0, 0, .int z, rfl, rfl, hc, by decide, by decide, by simp [seqIndex?], rfl, .inl ⟨z, rfl, ?_⟩⟩
    refine ⟨_, rfl, _, _, rfl, rfl, _, rfl, ?_⟩
    by_cases hz : (0 : Int) ≤ z
    · rw [decide_eq_true hz]
      refine iteT ?_
      refine ⟨_, rfl, _, _, rfl, rfl, cmulL (by decide), ?_⟩
      exact hq2 z cs rfl _ (if_pos hz).symm _ _
    · rw [decide_eq_false hz]
      refine iteF ?_
      refine ⟨_, rfl, _, rfl, _, _, rfl, rfl, cmulL (by decide), _, _, rfl, rfl, ?_⟩
      exact hq2 z cs rfl _ (if_neg hz).symm _ _
theorem scD : FnScope ["box", "many", "digit"] ["box", "many"] (defScope sDraw) := ⟨rfl, rfl, rfl, by decide +kernel, rfl, by decide +kernel, by decide +kernel⟩
theorem ok_draw0 {f g : Addr} {fd gd : FuncData} (F : Fun K "_law_draw" "_law_draw" sDraw f fd) (G : FnOk P w K mg base CX0 1 g gd ["box"] spLoad) (bG : Binds K gd ["box"] []) (kG : PySem.W.keepIn K (.ref g) = true) (mG : mg "_law_load" = some (.ref g)) (mi : mg "int" = none) : FnOk P w K mg base CX0 2 f fd ["box", "many"] spDraw := by
  refine F.ok scD (fun vs H Q E h => ?_) (fun cdv A outer s H vs Q E hr h => ?_)
  · obtain ⟨a, c, cs, size, seed, many, rfl, _⟩ := h
    rfl
  obtain ⟨a, c, cs, size, seed, many, rfl, ha, hc, ne, hm, q⟩ := h
  let D : Ends := { nx := fun _ H' => Q .non H', rt := Q }
  obtain ⟨tt, htt, hq⟩ : ∃ t, PSs (cxOf CX0 P w K mg base ["box", "many", "digit"] "_law_draw" (defScope sDraw) f cdv A outer s H E).nox ((defBody sDraw).drop 1) t ∧
      ∀ (H1 : Hp) (sz sd : Int), H1 a = some (.lst [.ref c, .int sz, .int sd]) → Q (.int (sz % many)) (upd H1 a (.lst [.ref c, .int (sz / many), .int sd])) → t D [some (.ref a), some (.int many), none] H1 := by
    refine ⟨_, pss_cons (ps_set (i := 2) scD.nd rfl (Or.inl rfl) (pe_op op_mod (pe_callTy call_int1 (by rfl) mi PyProof.Rows.boot_int (pa_cons (pe_ix ix_list (pv 0) pe_int (fun _ _ => rfl)) pa_nil)) (pv 1)))
      (pss_cons (ps_asg (pe_op op_fdivW (pe_ix ix_list (pv 0) pe_int (fun _ _ => rfl)) (pv 1)) (pg_sub (pv 0) pe_int set_list))
      (pss_one (ps_ret (pv 2)))), fun H1 sz sd h1 q1 => ?_⟩
    refine ⟨_, rfl, a, _, 1, _, rfl, rfl, SqL.of h1, rfl, .inl ⟨_, rfl, _, rfl, _, _, rfl, rfl, hm.1, ?_⟩⟩
    refine ⟨_, rfl, a, _, 1, _, rfl, rfl, SqL.of h1, rfl, _, rfl, _, _, rfl, rfl, hm, ?_⟩
    refine ⟨_, rfl, a, _, 1, 1, rfl, rfl, h1, rfl, ?_⟩
    exact ⟨_, rfl, q1⟩
  refine ⟨_, pss_cons (ps_if (pt_cmpR op_lt (pe_ix ix_list (pv 0) pe_int (fun _ _ => rfl)) (pv 1) (nomark _))
    (pss_one (ps_asg (pe_call G hr rfl mG kG bG .nil pass0 (pa_cons (pv 0) pa_nil)) (pg_sub (pv 0) pe_int set_list))) pss_nil) htt, ?_⟩
  refine ⟨_, rfl, a, _, 1, _, rfl, rfl, SqL.of ha, rfl, _, rfl, _, _, rfl, rfl, _, rfl, ?_⟩
  by_cases hs : size < many
  · rw [decide_eq_true hs]
    have e1 : boxTake cs size seed many = ((boxLoad cs seed).1 % many, (boxLoad cs seed).2.1, (boxLoad cs seed).1 / many, (boxLoad cs seed).2.2) := if_pos hs
    rw [e1] at q
    refine iteT ?_
    refine ⟨_, rfl, a, c, cs, size, seed, rfl, ha, hc, ne, fun H1 h1 h2 h3 => ?_⟩
    refine ⟨_, rfl, a, _, 1, 1, rfl, rfl, h1, rfl, ?_⟩
    refine hq _ _ _ upd_same ?_
    rw [upd_upd]
    exact q _ upd_same (by rw [upd_ne ne.symm]; exact h2) fun b g1 g2 => by rw [upd_ne g1]; exact h3 b g1 g2
  · rw [decide_eq_false hs]
    have e1 : boxTake cs size seed many = (size % many, cs, size / many, seed) := if_neg hs
    rw [e1] at q
    refine iteF ?_
    exact hq H size seed ha (q _ upd_same (by rw [upd_ne ne.symm]; exact hc) fun b g1 g2 => upd_ne g1)
/-- .. as an entry of the table -/
theorem ok_draw {f : Addr} {fd : FuncData} (F : FnOk P w K mg base CX0 2 f fd ["box", "many"] spDraw) : FnOk P w K mg base CX0 2 f fd ["box", "many"] (spF K (fun _ as => primDraw as) 0) := by
  refine F.imp fun vs H Q E h => ?_
  obtain ⟨O, as, r, as', wa, e, q⟩ := h
  dsimp only at e
  unfold primDraw at e
  split at e
  case h_2 => cases e
  rename_i cs size seed many
  split at e
  case isFalse => cases e
  rename_i hm
  have hl := wa.len
  match vs, hl, wa, q with
  | [vb, vm], hl, wa, q =>
    rcases wa.rep 0 _ rfl with z | ⟨u, h1, h2⟩
    · cases z
    rcases wa.rep 1 _ rfl with z | ⟨u2, h3, h4⟩
    · cases z
    simp at h1 h3
    subst h1 h3
    have h4 : vm = .int many := by simpa only [RepS, RepD] using h4
    subst h4
    obtain ⟨a, c, rfl, ha, hc, oa, oc⟩ := h2
    have ne : a ≠ c := fun z => by
      subst z
      rw [ha] at hc
      cases cs with
      | nil => simp at hc
      | cons x xs => simp at hc
    refine ⟨a, c, cs, size, seed, many, rfl, ha, hc, ne, hm, fun H' g1 g2 g3 => ?_⟩
    have e := Option.some.inj e
    injection e with e1 e2
    subst e1 e2
    have st : Mini.Step O H (fun b => b = a ∨ b = c) O H' (fun b => b = a ∨ b = c) := by
      refine ⟨⟨wa.own, fun b o hb nb => ?_, fun b hb => .inl hb, fun b hb => ?_⟩, fun b hb => ?_, fun b hb nf => ⟨hb, g3 b (fun z => nf (.inl z)) fun z => nf (.inr z)⟩, fun b hb => .inl hb⟩
      · rw [g3 b (fun z => nb (z ▸ oa)) fun z => nb (z ▸ oc)]; exact hb
      · by_cases h5 : b = a
        · rw [h5, g1]; exact Option.some_ne_none _
        · by_cases h6 : b = c
          · rw [h6, g2]; exact Option.some_ne_none _
          · rw [g3 b h5 h6]; exact hb
      · by_cases h5 : b = a
        · rw [h5]; exact ⟨_, g1⟩
        · by_cases h6 : b = c
          · rw [h6]; exact ⟨_, g2⟩
          · rw [g3 b h5 h6]; exact wa.own b hb
    have fpa : ∀ b, (b = a ∨ b = c) → FpE H [Sl.bx cs [size, seed], Sl.v (PyData.int many)] ([V.ref a, V.int many].map some) b := fun b hb => ⟨0, _, .ref a, rfl, rfl, hb.elim (fun z => .inl (by rw [z])) fun z => Or.inr ⟨a, [V.int size, V.int seed], rfl, by rw [z]; exact ha⟩⟩
    have at0 : ∀ (x : Sl) (i : Nat) (s : Sl), ([x, Sl.no] : En)[i]? = some s → (i = 0 ∧ s = x) ∨ s = .no := fun x i s z => by
      match i, z with
      | 0, z => exact .inl ⟨rfl, by simpa using z.symm⟩
      | 1, z => exact .inr (by simpa using z.symm)
      | i + 2, z => simp at z
    have w2 : W K O H' [Sl.bx (boxTake cs size seed many).2.1 [(boxTake cs size seed many).2.2.1, (boxTake cs size seed many).2.2.2], Sl.no] ([V.ref a, V.int many].map some) := by
      refine ⟨st.own, rfl, fun i s z => ?_, fun i j s t v u b n z1 z2 z3 z4 f1 f2 => ?_⟩
      · rcases at0 _ i s z with ⟨rfl, rfl⟩ | z
        · exact .inr ⟨.ref a, rfl, a, c, rfl, g1, g2, oa, oc⟩
        · exact .inl z
      · rcases at0 _ i s z1 with ⟨rfl, rfl⟩ | rfl
        · rcases at0 _ j t z2 with ⟨rfl, rfl⟩ | rfl
          · exact n rfl
          · exact f2
        · exact f1
    have fp2 : ∀ b, FpE H' [Sl.bx (boxTake cs size seed many).2.1 [(boxTake cs size seed many).2.2.1, (boxTake cs size seed many).2.2.2], Sl.no] ([V.ref a, V.int many].map some) b → b = a ∨ b = c := fun b ⟨i, s, v, z1, z2, z3⟩ => by
      rcases at0 _ i s z1 with ⟨rfl, rfl⟩ | rfl
      · simp at z2; subst z2
        rcases z3 with z3 | ⟨a', r', z3, z4⟩
        · cases z3; exact .inl rfl
        · cases z3; rw [g1] at z4; cases z4; exact .inr rfl
      · exact z3.elim
    refine q O H' (.int (boxTake cs size seed many).1) ((st.wide fpa).sub fun b f => f.elim (fp2 b) fun z => z.elim) ⟨w2, by simp only [RepS, RepD], fun b f => f.elim⟩
  | [], hl, _, _ => simp at hl
  | [_], hl, _, _ => simp at hl
  | _ :: _ :: _ :: _, hl, _, _ => simp at hl
theorem scB : FnScope ["script"] ["script"] (defScope sBox) := ⟨rfl, rfl, rfl, by decide +kernel, rfl, by decide +kernel, by decide +kernel⟩
/-- the box is made -/
theorem ok_box {f : Addr} {fd : FuncData} (F : Fun K "_law_box" "_law_box" sBox f fd) (ml : mg "len" = none) (mt : mg "list" = none) : FnOk P w K mg base CX0 1 f fd ["script"] (spF K (fun _ as => primBox as) 0) := by
  refine F.ok scB (fun vs H Q E h => ?_) (fun cdv A outer s H vs Q E hr h => ?_)
  · obtain ⟨O, as, r, as', wa, e, _⟩ := h
    dsimp only at e
    unfold primBox at e
    split at e
    case h_2 => cases e
    have := wa.len
    simp at this
    simp [this]
  obtain ⟨O, as, r, as', wa, e, q⟩ := h
  dsimp only at e
  unfold primBox at e
  split at e
  case h_2 => cases e
  rename_i ns
  split at e
  case isFalse => cases e
  rename_i hns
  have e := Option.some.inj e
  injection e with e1 e2
  subst e1 e2
  have hl := wa.len
  match vs, hl, wa, q with
  | [], hl, _, _ => simp at hl
  | _ :: _ :: _, hl, _, _ => simp at hl
  | [vb], hl, wa, q =>
    rcases wa.rep 0 _ rfl with z | ⟨u, h1, h2⟩
    · cases z
    simp at h1
    subst h1
    obtain ⟨a, rfl, hs⟩ := h2
    refine ⟨_, pss_one (ps_ret (L2.pe_lst (pa_cons (pe_callTy call_list_of (by rfl) mt PyProof.Rows.boot_list (pa_cons (pe_slice sl_list (pv 0) po_none (po_some pe_int)) pa_nil)) (pa_cons pe_int (pa_cons (pe_op op_add pe_int (pe_callB call_len_seq (by rfl) ml PySem.boot_len (pa_cons (pv 0) pa_nil))) pa_nil))))), ?_⟩
    have hcut : cutV (ns.map V.int) none (some 63) = ns.map V.int := by
      apply cutV_whole
      have : (ns.map V.int).length ≤ 63 := by simpa using hns
      constructor
      · rfl
      · show HT.sIx (ns.map V.int).length (ns.map V.int).length (some 63) = (ns.map V.int).length
        unfold HT.sIx
        simp
        omega
    refine ⟨_, rfl, _, rfl, a, _, rfl, hs.sq, fun p1 hp1 => ?_⟩
    rw [hcut]
    refine ⟨p1, _, rfl, .inl (SqL.of upd_same), fun c hc => ?_⟩
    have s1 : Same H (upd H p1 (.lst (ns.map V.int))) := fun b o hb => by rw [upd_ne (ne_of_none hb hp1)]; exact hb
    have s2 : Same (upd H p1 (.lst (ns.map V.int))) (upd (upd H p1 (.lst (ns.map V.int))) c (.lst (ns.map V.int))) := fun b o hb => by rw [upd_ne (ne_of_none hb hc)]; exact hb
    refine ⟨_, rfl, a, _, rfl, .inl ((s1.trans s2).seq hs.sq), _, _, rfl, rfl, (by show 3 ≤ sizeLine; decide), fun b hb => ?_⟩
    have s3 : Same (upd (upd H p1 (.lst (ns.map V.int))) c (.lst (ns.map V.int))) (upd (upd (upd H p1 (.lst (ns.map V.int))) c (.lst (ns.map V.int))) b (.lst [.ref c, .int 0, .int (4711 + ((ns.map V.int).length : Nat))])) := fun x o hx => by rw [upd_ne (ne_of_none hx hb)]; exact hx
    have sall := (s1.trans s2).trans s3
    have Hc : H c = none := s1.free hc
    have Hb : H b = none := (s1.trans s2).free hb
    have nbc : b ≠ c := fun z => by subst z; rw [upd_same] at hb; cases hb
    have hcb : (upd (upd (upd H p1 (.lst (ns.map V.int))) c (.lst (ns.map V.int))) b (.lst [.ref c, .int 0, .int (4711 + ((ns.map V.int).length : Nat))])) c = some (.lst (ns.map V.int)) := by rw [upd_ne (Ne.symm nbc), upd_same]
    have hln : ((ns.map V.int).length : Int) = (ns.length : Int) := by simp
    have st : Mini.Step O H F0 (fun x => O x ∨ x = b ∨ x = c) (upd (upd (upd H p1 (.lst (ns.map V.int))) c (.lst (ns.map V.int))) b (.lst [.ref c, .int 0, .int (4711 + ((ns.map V.int).length : Nat))])) (fun x => x = b ∨ x = c) := by
      refine ⟨⟨wa.own, fun x o hx _ => sall x o hx, fun x hx => ?_, fun x hx => ?_⟩, fun x hx => ?_, fun x hx _ => ?_, fun x hx => ?_⟩
      · rcases hx with hx | rfl | rfl
        · exact .inl hx
        · exact .inr Hb
        · exact .inr Hc
      · cases hq : H x with
        | none => exact absurd hq hx
        | some o => rw [sall x o hq]; exact Option.some_ne_none _
      · rcases hx with hx | rfl | rfl
        · obtain ⟨ys, hy⟩ := wa.own x hx
          exact ⟨ys, sall x _ hy⟩
        · exact ⟨_, upd_same⟩
        · exact ⟨_, hcb⟩
      · obtain ⟨ys, hy⟩ := wa.own x hx
        exact ⟨.inl hx, by rw [sall x _ hy, hy]⟩
      · rcases hx with rfl | rfl
        · exact .inr Hb
        · exact .inr Hc
    have nf : ∀ x, ¬ FpE H [Sl.sc ns] ([V.ref a].map some) x := fun x ⟨i, s, v, z1, z2, z3⟩ => by
      match i, z1 with
      | 0, z1 => have e : s = .sc ns := by simpa using z1.symm
                 subst e; exact z3
      | i + 1, z1 => simp at z1
    have at0 : ∀ (i : Nat) (s : Sl), ([Sl.no] : En)[i]? = some s → s = .no := fun i s z => by
      match i, z with
      | 0, z => simpa using z.symm
      | i + 1, z => simp at z
    have w2 : W K (fun x => O x ∨ x = b ∨ x = c) (upd (upd (upd H p1 (.lst (ns.map V.int))) c (.lst (ns.map V.int))) b (.lst [.ref c, .int 0, .int (4711 + ((ns.map V.int).length : Nat))])) [Sl.no] ([V.ref a].map some) :=
      ⟨st.own, rfl, fun i s z => .inl (at0 i s z), fun i j s t v u x n z1 z2 z3 z4 f1 f2 => by rw [at0 i s z1] at f1; exact f1⟩
    have nf2 : ∀ x, ¬ FpE (upd (upd (upd H p1 (.lst (ns.map V.int))) c (.lst (ns.map V.int))) b (.lst [.ref c, .int 0, .int (4711 + ((ns.map V.int).length : Nat))])) [Sl.no] ([V.ref a].map some) x := fun x ⟨i, s, v, z1, z2, z3⟩ => by rw [at0 i s z1] at z3; exact z3
    refine q _ _ (.ref b) ⟨st.evo, st.own, fun x hx _ => st.keepO x hx id, fun x f => ?_⟩ ⟨w2, ⟨b, c, rfl, ?_, hcb, .inr (.inl rfl), .inr (.inr rfl)⟩, fun x f => nf2 x⟩
    · rcases f with f | f
      · exact (nf2 x f).elim
      · rcases f with f | ⟨a', r', f, g⟩
        · cases f; exact .inr Hb
        · cases f; rw [upd_same] at g; cases g; exact .inr Hc
    · rw [upd_same, hln]; rfl
end
section
variable {P : Program} {w : World} {K : PySem.W.Frag} {mg : Str → Option Value} {base : Heap}
theorem all_mk {l : PySem.W.OpenLaw} {h : Heap} {fa : Addr} (X : K.In h) (G : h.Ns mainGlobals mg) (hfa : mg "law" = some (.ref fa))
    {f0 : Addr} {od0 an0 : Option Addr} {sl0 : Array (Option Value)} {oc0 kV0 dc0 pm0 cd0 ct0 : Value}
    {f1 : Addr} {od1 an1 : Option Addr} {sl1 : Array (Option Value)} {oc1 kV1 dc1 pm1 cd1 ct1 : Value}
    {f2 : Addr} {od2 an2 : Option Addr} {sl2 : Array (Option Value)} {oc2 kV2 dc2 pm2 cd2 ct2 : Value}
    {f3 : Addr} {od3 an3 : Option Addr} {sl3 : Array (Option Value)} {oc3 kV3 dc3 pm3 cd3 ct3 : Value}
    {f4 : Addr} {od4 an4 : Option Addr} {sl4 : Array (Option Value)} {oc4 kV4 dc4 pm4 cd4 ct4 : Value}
    {f5 : Addr} {od5 an5 : Option Addr} {sl5 : Array (Option Value)} {oc5 kV5 dc5 pm5 cd5 ct5 : Value}
    {f6 : Addr} {od6 an6 : Option Addr} {sl6 : Array (Option Value)} {oc6 kV6 dc6 pm6 cd6 ct6 : Value}
    {f7 : Addr} {od7 an7 : Option Addr} {sl7 : Array (Option Value)} {oc7 kV7 dc7 pm7 cd7 ct7 : Value}
    {f8 : Addr} {od8 an8 : Option Addr} {sl8 : Array (Option Value)} {oc8 kV8 dc8 pm8 cd8 ct8 : Value}
    {f9 : Addr} {od9 an9 : Option Addr} {sl9 : Array (Option Value)} {oc9 kV9 dc9 pm9 cd9 ct9 : Value}
    {f10 : Addr} {od10 an10 : Option Addr} {sl10 : Array (Option Value)} {oc10 kV10 dc10 pm10 cd10 ct10 : Value}
    {f11 : Addr} {od11 an11 : Option Addr} {sl11 : Array (Option Value)} {oc11 kV11 dc11 pm11 cd11 ct11 : Value}
    {f12 : Addr} {od12 an12 : Option Addr} {sl12 : Array (Option Value)} {oc12 kV12 dc12 pm12 cd12 ct12 : Value}
    {f13 : Addr} {od13 an13 : Option Addr} {sl13 : Array (Option Value)} {oc13 kV13 dc13 pm13 cd13 ct13 : Value}
    {f14 : Addr} {od14 an14 : Option Addr} {sl14 : Array (Option Value)} {oc14 kV14 dc14 pm14 cd14 ct14 : Value}
    {f15 : Addr} {od15 an15 : Option Addr} {sl15 : Array (Option Value)} {oc15 kV15 dc15 pm15 cd15 ct15 : Value}
    {f16 : Addr} {od16 an16 : Option Addr} {sl16 : Array (Option Value)} {oc16 kV16 dc16 pm16 cd16 ct16 : Value}
    {f17 : Addr} {od17 an17 : Option Addr} {sl17 : Array (Option Value)} {oc17 kV17 dc17 pm17 cd17 ct17 : Value}
    {f18 : Addr} {od18 an18 : Option Addr} {sl18 : Array (Option Value)} {oc18 kV18 dc18 pm18 cd18 ct18 : Value}
    {f19 : Addr} {od19 an19 : Option Addr} {sl19 : Array (Option Value)} {oc19 kV19 dc19 pm19 cd19 ct19 : Value}
    {f20 : Addr} {od20 an20 : Option Addr} {sl20 : Array (Option Value)} {oc20 kV20 dc20 pm20 cd20 ct20 : Value}
    {f21 : Addr} {od21 an21 : Option Addr} {sl21 : Array (Option Value)} {oc21 kV21 dc21 pm21 cd21 ct21 : Value}
    {f22 : Addr} {od22 an22 : Option Addr} {sl22 : Array (Option Value)} {oc22 kV22 dc22 pm22 cd22 ct22 : Value}
    {gz0 : Value}
    (a0 : PySem.W.nsIn K mainGlobals "common_divisor" = some (some (.ref f0))) (l0 : K.lookup f0 = some ⟨oc0, od0, .func (PySem.W.fnOf "common_divisor" "common_divisor" (defArgs (top 4)) (defBody (top 4)) (defScope (top 4)) .none kV0 dc0 pm0 an0 cd0 ct0), sl0⟩) (c0 : PySem.W.codeIn K cd0 "common_divisor" = true) (k0 : PySem.W.keepIn K (.ref f0) = true)
    (a1 : PySem.W.nsIn K mainGlobals "ratio" = some (some (.ref f1))) (l1 : K.lookup f1 = some ⟨oc1, od1, .func (PySem.W.fnOf "ratio" "ratio" (defArgs (top 5)) (defBody (top 5)) (defScope (top 5)) .none kV1 dc1 pm1 an1 cd1 ct1), sl1⟩) (c1 : PySem.W.codeIn K cd1 "ratio" = true) (k1 : PySem.W.keepIn K (.ref f1) = true)
    (a2 : PySem.W.nsIn K mainGlobals "less" = some (some (.ref f2))) (l2 : K.lookup f2 = some ⟨oc2, od2, .func (PySem.W.fnOf "less" "less" (defArgs (top 6)) (defBody (top 6)) (defScope (top 6)) .none kV2 dc2 pm2 an2 cd2 ct2), sl2⟩) (c2 : PySem.W.codeIn K cd2 "less" = true) (k2 : PySem.W.keepIn K (.ref f2) = true)
    (a3 : PySem.W.nsIn K mainGlobals "cost_hired" = some (some (.ref f3))) (l3 : K.lookup f3 = some ⟨oc3, od3, .func (PySem.W.fnOf "cost_hired" "cost_hired" (defArgs (top 9)) (defBody (top 9)) (defScope (top 9)) .none kV3 dc3 pm3 an3 cd3 ct3), sl3⟩) (c3 : PySem.W.codeIn K cd3 "cost_hired" = true) (k3 : PySem.W.keepIn K (.ref f3) = true)
    (a4 : PySem.W.nsIn K mainGlobals "best_known" = some (some (.ref f4))) (l4 : K.lookup f4 = some ⟨oc4, od4, .func (PySem.W.fnOf "best_known" "best_known" (defArgs (top 10)) (defBody (top 10)) (defScope (top 10)) .none kV4 dc4 pm4 an4 cd4 ct4), sl4⟩) (c4 : PySem.W.codeIn K cd4 "best_known" = true) (k4 : PySem.W.keepIn K (.ref f4) = true)
    (a5 : PySem.W.nsIn K mainGlobals "worst_ratio" = some (some (.ref f5))) (l5 : K.lookup f5 = some ⟨oc5, od5, .func (PySem.W.fnOf "worst_ratio" "worst_ratio" (defArgs (top 11)) (defBody (top 11)) (defScope (top 11)) .none kV5 dc5 pm5 an5 cd5 ct5), sl5⟩) (c5 : PySem.W.codeIn K cd5 "worst_ratio" = true) (k5 : PySem.W.keepIn K (.ref f5) = true)
    (a6 : PySem.W.nsIn K mainGlobals "best_day" = some (some (.ref f6))) (l6 : K.lookup f6 = some ⟨oc6, od6, .func (PySem.W.fnOf "best_day" "best_day" (defArgs (top 12)) (defBody (top 12)) (defScope (top 12)) .none kV6 dc6 pm6 an6 cd6 ct6), sl6⟩) (c6 : PySem.W.codeIn K cd6 "best_day" = true) (k6 : PySem.W.keepIn K (.ref f6) = true)
    (a7 : PySem.W.nsIn K mainGlobals "never_ratio" = some (some (.ref f7))) (l7 : K.lookup f7 = some ⟨oc7, od7, .func (PySem.W.fnOf "never_ratio" "never_ratio" (defArgs (top 13)) (defBody (top 13)) (defScope (top 13)) .none kV7 dc7 pm7 an7 cd7 ct7), sl7⟩) (c7 : PySem.W.codeIn K cd7 "never_ratio" = true) (k7 : PySem.W.keepIn K (.ref f7) = true)
    (a8 : PySem.W.nsIn K mainGlobals "adversary" = some (some (.ref f8))) (l8 : K.lookup f8 = some ⟨oc8, od8, .func (PySem.W.fnOf "adversary" "adversary" (defArgs (top 14)) (defBody (top 14)) (defScope (top 14)) .none kV8 dc8 pm8 an8 cd8 ct8), sl8⟩) (c8 : PySem.W.codeIn K cd8 "adversary" = true) (k8 : PySem.W.keepIn K (.ref f8) = true)
    (a9 : PySem.W.nsIn K mainGlobals "beats" = some (some (.ref f9))) (l9 : K.lookup f9 = some ⟨oc9, od9, .func (PySem.W.fnOf "beats" "beats" (defArgs (top 15)) (defBody (top 15)) (defScope (top 15)) .none kV9 dc9 pm9 an9 cd9 ct9), sl9⟩) (c9 : PySem.W.codeIn K cd9 "beats" = true) (k9 : PySem.W.keepIn K (.ref f9) = true)
    (a10 : PySem.W.nsIn K mainGlobals "average_cost" = some (some (.ref f10))) (l10 : K.lookup f10 = some ⟨oc10, od10, .func (PySem.W.fnOf "average_cost" "average_cost" (defArgs (top 16)) (defBody (top 16)) (defScope (top 16)) .none kV10 dc10 pm10 an10 cd10 ct10), sl10⟩) (c10 : PySem.W.codeIn K cd10 "average_cost" = true) (k10 : PySem.W.keepIn K (.ref f10) = true)
    (a11 : PySem.W.nsIn K mainGlobals "best_on_average" = some (some (.ref f11))) (l11 : K.lookup f11 = some ⟨oc11, od11, .func (PySem.W.fnOf "best_on_average" "best_on_average" (defArgs (top 17)) (defBody (top 17)) (defScope (top 17)) .none kV11 dc11 pm11 an11 cd11 ct11), sl11⟩) (c11 : PySem.W.codeIn K cd11 "best_on_average" = true) (k11 : PySem.W.keepIn K (.ref f11) = true)
    (a12 : PySem.W.nsIn K mainGlobals "_law_box" = some (some (.ref f12))) (l12 : K.lookup f12 = some ⟨oc12, od12, .func (PySem.W.fnOf "_law_box" "_law_box" (defArgs (top 19)) (defBody (top 19)) (defScope (top 19)) .none kV12 dc12 pm12 an12 cd12 ct12), sl12⟩) (c12 : PySem.W.codeIn K cd12 "_law_box" = true) (k12 : PySem.W.keepIn K (.ref f12) = true)
    (a13 : PySem.W.nsIn K mainGlobals "_law_draw" = some (some (.ref f13))) (l13 : K.lookup f13 = some ⟨oc13, od13, .func (PySem.W.fnOf "_law_draw" "_law_draw" (defArgs (top 21)) (defBody (top 21)) (defScope (top 21)) .none kV13 dc13 pm13 an13 cd13 ct13), sl13⟩) (c13 : PySem.W.codeIn K cd13 "_law_draw" = true) (k13 : PySem.W.keepIn K (.ref f13) = true)
    (a14 : PySem.W.nsIn K mainGlobals "_law_same" = some (some (.ref f14))) (l14 : K.lookup f14 = some ⟨oc14, od14, .func (PySem.W.fnOf "_law_same" "_law_same" (defArgs (top 22)) (defBody (top 22)) (defScope (top 22)) .none kV14 dc14 pm14 an14 cd14 ct14), sl14⟩) (c14 : PySem.W.codeIn K cd14 "_law_same" = true) (k14 : PySem.W.keepIn K (.ref f14) = true)
    (a15 : PySem.W.nsIn K mainGlobals "_law_divisor" = some (some (.ref f15))) (l15 : K.lookup f15 = some ⟨oc15, od15, .func (PySem.W.fnOf "_law_divisor" "_law_divisor" (defArgs (top 23)) (defBody (top 23)) (defScope (top 23)) .none kV15 dc15 pm15 an15 cd15 ct15), sl15⟩) (c15 : PySem.W.codeIn K cd15 "_law_divisor" = true) (k15 : PySem.W.keepIn K (.ref f15) = true)
    (a16 : PySem.W.nsIn K mainGlobals "_law_ratio" = some (some (.ref f16))) (l16 : K.lookup f16 = some ⟨oc16, od16, .func (PySem.W.fnOf "_law_ratio" "_law_ratio" (defArgs (top 24)) (defBody (top 24)) (defScope (top 24)) .none kV16 dc16 pm16 an16 cd16 ct16), sl16⟩) (c16 : PySem.W.codeIn K cd16 "_law_ratio" = true) (k16 : PySem.W.keepIn K (.ref f16) = true)
    (a17 : PySem.W.nsIn K mainGlobals "_law_plus" = some (some (.ref f17))) (l17 : K.lookup f17 = some ⟨oc17, od17, .func (PySem.W.fnOf "_law_plus" "_law_plus" (defArgs (top 25)) (defBody (top 25)) (defScope (top 25)) .none kV17 dc17 pm17 an17 cd17 ct17), sl17⟩) (c17 : PySem.W.codeIn K cd17 "_law_plus" = true) (k17 : PySem.W.keepIn K (.ref f17) = true)
    (a18 : PySem.W.nsIn K mainGlobals "_law_times" = some (some (.ref f18))) (l18 : K.lookup f18 = some ⟨oc18, od18, .func (PySem.W.fnOf "_law_times" "_law_times" (defArgs (top 26)) (defBody (top 26)) (defScope (top 26)) .none kV18 dc18 pm18 an18 cd18 ct18), sl18⟩) (c18 : PySem.W.codeIn K cd18 "_law_times" = true) (k18 : PySem.W.keepIn K (.ref f18) = true)
    (a19 : PySem.W.nsIn K mainGlobals "_law_less" = some (some (.ref f19))) (l19 : K.lookup f19 = some ⟨oc19, od19, .func (PySem.W.fnOf "_law_less" "_law_less" (defArgs (top 27)) (defBody (top 27)) (defScope (top 27)) .none kV19 dc19 pm19 an19 cd19 ct19), sl19⟩) (c19 : PySem.W.codeIn K cd19 "_law_less" = true) (k19 : PySem.W.keepIn K (.ref f19) = true)
    (a20 : PySem.W.nsIn K mainGlobals "_law_paid" = some (some (.ref f20))) (l20 : K.lookup f20 = some ⟨oc20, od20, .func (PySem.W.fnOf "_law_paid" "_law_paid" (defArgs (top 28)) (defBody (top 28)) (defScope (top 28)) .none kV20 dc20 pm20 an20 cd20 ct20), sl20⟩) (c20 : PySem.W.codeIn K cd20 "_law_paid" = true) (k20 : PySem.W.keepIn K (.ref f20) = true)
    (a21 : PySem.W.nsIn K mainGlobals "law" = some (some (.ref f21))) (l21 : K.lookup f21 = some ⟨oc21, od21, .func (PySem.W.fnOf "law" "law" (defArgs (top 29)) (defBody (top 29)) (defScope (top 29)) .none kV21 dc21 pm21 an21 cd21 ct21), sl21⟩) (c21 : PySem.W.codeIn K cd21 "law" = true) (k21 : PySem.W.keepIn K (.ref f21) = true)
    (a22 : PySem.W.nsIn K mainGlobals "_law_load" = some (some (.ref f22))) (l22 : K.lookup f22 = some ⟨oc22, od22, .func (PySem.W.fnOf "_law_load" "_law_load" (defArgs (top 20)) (defBody (top 20)) (defScope (top 20)) .none kV22 dc22 pm22 an22 cd22 ct22), sl22⟩) (c22 : PySem.W.codeIn K cd22 "_law_load" = true) (k22 : PySem.W.keepIn K (.ref f22) = true)
    (z_len : PySem.W.nsIn K mainGlobals "len" = some none)
    (z_all : PySem.W.nsIn K mainGlobals "all" = some none)
    (z_any : PySem.W.nsIn K mainGlobals "any" = some none)
    (z_sum : PySem.W.nsIn K mainGlobals "sum" = some none)
    (z_min : PySem.W.nsIn K mainGlobals "min" = some none)
    (z_max : PySem.W.nsIn K mainGlobals "max" = some none)
    (z_abs : PySem.W.nsIn K mainGlobals "abs" = some none)
    (z_tuple : PySem.W.nsIn K mainGlobals "tuple" = some none)
    (z_list : PySem.W.nsIn K mainGlobals "list" = some none)
    (z_int : PySem.W.nsIn K mainGlobals "int" = some none)
    (z_sorted : PySem.W.nsIn K mainGlobals "sorted" = some none)
    (z_str : PySem.W.nsIn K mainGlobals "str" = some none)
    (z_bool : PySem.W.nsIn K mainGlobals "bool" = some none)
    (z_isinstance : PySem.W.nsIn K mainGlobals "isinstance" = some none)
    (z_range : PySem.W.nsIn K mainGlobals "range" = some none)
    (z_enumerate : PySem.W.nsIn K mainGlobals "enumerate" = some none)
    (z_zip : PySem.W.nsIn K mainGlobals "zip" = some none)
    (z_reversed : PySem.W.nsIn K mainGlobals "reversed" = some none)
    (ga0 : PySem.W.nsIn K mainGlobals "MAX_HIRED" = some (some gz0)) (gv0 : GVal (.int 1000) gz0) :
    ∃ fd : FuncData, (∀ (s : Shared) (v : Value), BindsTo s fd ⟨[v], []⟩ [("script", v)]) ∧ ∀ base : Heap, K.In base → base.Ns mainGlobals mg → FnOk l.prog w K mg base CX0 40 fa fd ["script"] (spLaw K) := by
  have e := hfa.symm.trans (PySem.W.mg_of X G a21)
  cases e
  have F0 := fun_mk (st := top 4) l0 c0 k0
  have b0 := F0.binds (ps := ["a", "b"]) fun _ _ _ _ _ _ us hl => match us, hl with | [_, _], _ => rfl
  have m0 := PySem.W.mg_of X G a0
  have F1 := fun_mk (st := top 5) l1 c1 k1
  have b1 := F1.binds (ps := ["p", "q"]) fun _ _ _ _ _ _ us hl => match us, hl with | [_, _], _ => rfl
  have m1 := PySem.W.mg_of X G a1
  have F2 := fun_mk (st := top 6) l2 c2 k2
  have b2 := F2.binds (ps := ["one", "other"]) fun _ _ _ _ _ _ us hl => match us, hl with | [_, _], _ => rfl
  have m2 := PySem.W.mg_of X G a2
  have F3 := fun_mk (st := top 9) l3 c3 k3
  have b3 := F3.binds (ps := ["price", "day", "needed"]) fun _ _ _ _ _ _ us hl => match us, hl with | [_, _, _], _ => rfl
  have m3 := PySem.W.mg_of X G a3
  have F4 := fun_mk (st := top 10) l4 c4 k4
  have b4 := F4.binds (ps := ["price", "needed"]) fun _ _ _ _ _ _ us hl => match us, hl with | [_, _], _ => rfl
  have m4 := PySem.W.mg_of X G a4
  have F5 := fun_mk (st := top 11) l5 c5 k5
  have b5 := F5.binds (ps := ["price", "day"]) fun _ _ _ _ _ _ us hl => match us, hl with | [_, _], _ => rfl
  have m5 := PySem.W.mg_of X G a5
  have F6 := fun_mk (st := top 12) l6 c6 k6
  have b6 := F6.binds (ps := ["price"]) fun _ _ _ _ _ _ us hl => match us, hl with | [_], _ => rfl
  have m6 := PySem.W.mg_of X G a6
  have F7 := fun_mk (st := top 13) l7 c7 k7
  have b7 := F7.binds (ps := ["price", "needed"]) fun _ _ _ _ _ _ us hl => match us, hl with | [_, _], _ => rfl
  have m7 := PySem.W.mg_of X G a7
  have F8 := fun_mk (st := top 14) l8 c8 k8
  have b8 := F8.binds (ps := ["price", "day"]) fun _ _ _ _ _ _ us hl => match us, hl with | [_, _], _ => rfl
  have m8 := PySem.W.mg_of X G a8
  have F9 := fun_mk (st := top 15) l9 c9 k9
  have b9 := F9.binds (ps := ["price", "one", "other"]) fun _ _ _ _ _ _ us hl => match us, hl with | [_, _, _], _ => rfl
  have m9 := PySem.W.mg_of X G a9
  have F10 := fun_mk (st := top 16) l10 c10 k10
  have b10 := F10.binds (ps := ["price", "day", "chances"]) fun _ _ _ _ _ _ us hl => match us, hl with | [_, _, _], _ => rfl
  have m10 := PySem.W.mg_of X G a10
  have F11 := fun_mk (st := top 17) l11 c11 k11
  have b11 := F11.binds (ps := ["price", "chances"]) fun _ _ _ _ _ _ us hl => match us, hl with | [_, _], _ => rfl
  have m11 := PySem.W.mg_of X G a11
  have F12 := fun_mk (st := top 19) l12 c12 k12
  have b12 := F12.binds (ps := ["script"]) fun _ _ _ _ _ _ us hl => match us, hl with | [_], _ => rfl
  have m12 := PySem.W.mg_of X G a12
  have F13 := fun_mk (st := top 21) l13 c13 k13
  have b13 := F13.binds (ps := ["box", "many"]) fun _ _ _ _ _ _ us hl => match us, hl with | [_, _], _ => rfl
  have m13 := PySem.W.mg_of X G a13
  have F14 := fun_mk (st := top 22) l14 c14 k14
  have b14 := F14.binds (ps := ["a", "b"]) fun _ _ _ _ _ _ us hl => match us, hl with | [_, _], _ => rfl
  have m14 := PySem.W.mg_of X G a14
  have F15 := fun_mk (st := top 23) l15 c15 k15
  have b15 := F15.binds (ps := ["a", "b"]) fun _ _ _ _ _ _ us hl => match us, hl with | [_, _], _ => rfl
  have m15 := PySem.W.mg_of X G a15
  have F16 := fun_mk (st := top 24) l16 c16 k16
  have b16 := F16.binds (ps := ["p", "q"]) fun _ _ _ _ _ _ us hl => match us, hl with | [_, _], _ => rfl
  have m16 := PySem.W.mg_of X G a16
  have F17 := fun_mk (st := top 25) l17 c17 k17
  have b17 := F17.binds (ps := ["one", "other"]) fun _ _ _ _ _ _ us hl => match us, hl with | [_, _], _ => rfl
  have m17 := PySem.W.mg_of X G a17
  have F18 := fun_mk (st := top 26) l18 c18 k18
  have b18 := F18.binds (ps := ["one", "other"]) fun _ _ _ _ _ _ us hl => match us, hl with | [_, _], _ => rfl
  have m18 := PySem.W.mg_of X G a18
  have F19 := fun_mk (st := top 27) l19 c19 k19
  have b19 := F19.binds (ps := ["one", "other"]) fun _ _ _ _ _ _ us hl => match us, hl with | [_, _], _ => rfl
  have m19 := PySem.W.mg_of X G a19
  have F20 := fun_mk (st := top 28) l20 c20 k20
  have b20 := F20.binds (ps := ["price", "day", "needed"]) fun _ _ _ _ _ _ us hl => match us, hl with | [_, _, _], _ => rfl
  have m20 := PySem.W.mg_of X G a20
  have F21 := fun_mk (st := top 29) l21 c21 k21
  have b21 := F21.binds (ps := ["script"]) fun _ _ _ _ _ _ us hl => match us, hl with | [_], _ => rfl
  have m21 := PySem.W.mg_of X G a21
  have F22 := fun_mk (st := top 20) l22 c22 k22
  have b22 := F22.binds (ps := ["box"]) fun _ _ _ _ _ _ us hl => match us, hl with | [_], _ => rfl
  have m22 := PySem.W.mg_of X G a22
  have n_len := PySem.W.mg_none_of X G z_len
  have n_all := PySem.W.mg_none_of X G z_all
  have n_any := PySem.W.mg_none_of X G z_any
  have n_sum := PySem.W.mg_none_of X G z_sum
  have n_min := PySem.W.mg_none_of X G z_min
  have n_max := PySem.W.mg_none_of X G z_max
  have n_abs := PySem.W.mg_none_of X G z_abs
  have n_tuple := PySem.W.mg_none_of X G z_tuple
  have n_list := PySem.W.mg_none_of X G z_list
  have n_int := PySem.W.mg_none_of X G z_int
  have n_sorted := PySem.W.mg_none_of X G z_sorted
  have n_str := PySem.W.mg_none_of X G z_str
  have n_bool := PySem.W.mg_none_of X G z_bool
  have n_isinstance := PySem.W.mg_none_of X G z_isinstance
  have n_range := PySem.W.mg_none_of X G z_range
  have n_enumerate := PySem.W.mg_none_of X G z_enumerate
  have n_zip := PySem.W.mg_none_of X G z_zip
  have n_reversed := PySem.W.mg_none_of X G z_reversed
  have T : Top gls K mg := by
    refine ⟨gls_of fun p hp => ?_, fun b => by cases b <;> assumption, fun t => by cases t <;> assumption, n_isinstance, n_range, n_enumerate, n_zip, n_reversed⟩
    simp only [gls, List.mem_cons, List.not_mem_nil, or_false] at hp
    subst hp
    · exact gl_val (PySem.W.mg_of X G ga0) gv0
  refine ⟨PySem.W.fnOf "law" "law" (defArgs (top 29)) (defBody (top 29)) (defScope (top 29)) .none kV21 dc21 pm21 an21 cd21 ct21, fun s v => .of_eq rfl, fun base _ _ => ?_⟩
  have all : Lvl l.prog w K mg base fns (callN (tbOf es) 39) 39 := all_ok (gl := gls) T rfl (fun j x e hx he => by
    match j, hx, he with
    | 0, hx, he => cases hx; cases he; exact ⟨_, _, rfl, F0, k_common_divisor, m0, b0⟩
    | 1, hx, he => cases hx; cases he; exact ⟨_, _, rfl, F1, k_ratio, m1, b1⟩
    | 2, hx, he => cases hx; cases he; exact ⟨_, _, rfl, F2, k_less, m2, b2⟩
    | 3, hx, he => cases hx; cases he; exact ⟨_, _, rfl, F3, k_cost_hired, m3, b3⟩
    | 4, hx, he => cases hx; cases he; exact ⟨_, _, rfl, F4, k_best_known, m4, b4⟩
    | 5, hx, he => cases hx; cases he; exact ⟨_, _, rfl, F5, k_worst_ratio, m5, b5⟩
    | 6, hx, he => cases hx; cases he; exact ⟨_, _, rfl, F6, k_best_day, m6, b6⟩
    | 7, hx, he => cases hx; cases he; exact ⟨_, _, rfl, F7, k_never_ratio, m7, b7⟩
    | 8, hx, he => cases hx; cases he; exact ⟨_, _, rfl, F8, k_adversary, m8, b8⟩
    | 9, hx, he => cases hx; cases he; exact ⟨_, _, rfl, F9, k_beats, m9, b9⟩
    | 10, hx, he => cases hx; cases he; exact ⟨_, _, rfl, F10, k_average_cost, m10, b10⟩
    | 11, hx, he => cases hx; cases he; exact ⟨_, _, rfl, F11, k_best_on_average, m11, b11⟩
    | 12, hx, he => cases hx; cases he; exact ⟨f12, _, ["script"], ok_box F12 n_len n_list, m12, F12.kp, b12⟩
    | 13, hx, he => cases hx; cases he; exact ⟨f13, _, ["box", "many"], ok_draw (ok_draw0 F13 (ok_load F22 n_len n_int) b22 F22.kp m22 n_int), m13, F13.kp, b13⟩
    | 14, hx, he => cases hx; cases he; exact ⟨_, _, rfl, F14, k__law_same, m14, b14⟩
    | 15, hx, he => cases hx; cases he; exact ⟨_, _, rfl, F15, k__law_divisor, m15, b15⟩
    | 16, hx, he => cases hx; cases he; exact ⟨_, _, rfl, F16, k__law_ratio, m16, b16⟩
    | 17, hx, he => cases hx; cases he; exact ⟨_, _, rfl, F17, k__law_plus, m17, b17⟩
    | 18, hx, he => cases hx; cases he; exact ⟨_, _, rfl, F18, k__law_times, m18, b18⟩
    | 19, hx, he => cases hx; cases he; exact ⟨_, _, rfl, F19, k__law_less, m19, b19⟩
    | 20, hx, he => cases hx; cases he; exact ⟨_, _, rfl, F20, k__law_paid, m20, b20⟩
    | 21, hx, he => cases hx; cases he; exact ⟨_, _, rfl, F21, k_law, m21, b21⟩
    | j + 22, hx, he => simp [fns] at hx) 39
  exact law_imp (j := 21) (P := callN (tbOf es) 40) (fn_body F21 k_law T all (fun as => call_user rfl as)) law_true
end
theorem walk {l : PySem.W.OpenLaw} {q : Program} {loose : List Str} {XP : (Str → Option Value) → Heap → Prop} {YP : World → Heap → Prop} {d : DefRec} {K : Params → PySem.W.Frag} (hn : l.most = some 63) (hdf : d.params.defaults = [])
    (hY : ∀ (w : World) (h : Heap), YP w h → (K w.params).In h)
    (F : ∀ (w : World) (mg : Str → Option Value) (fa : Addr) (h : Heap), (K w.params).In h → h.Ns mainGlobals mg → mg d.name = some (.ref fa) →
      ∃ fd : FuncData, (∀ (s : Shared) (u : Value), BindsTo s fd ⟨[u], []⟩ [("script", u)]) ∧ ∀ base : Heap, (K w.params).In base → base.Ns mainGlobals mg → FnOk l.prog w (K w.params) mg base CX0 40 fa fd ["script"] (spLaw (K w.params))) :
    PySem.W.WalkO q loose XP YP l.row.toRowW d [] (fun f vs => PySem.call f vs) :=
  L2.walk_of (n := 63) (k := 40) (x := "script") (CX := fun _ => CX0) (sp := fun w => spLaw (K w.params)) hn (by decide) hdf ⟨rfl, by decide, by decide⟩ hY F (fun _ _ a ns hl o hS => spLaw_of hl o hS) fun _ _ _ _ _ z => z
end Law
open PySem PySem.W PyProof.Rows
set_option maxHeartbeats 0 in
theorem PySem.Challenge.cw_pantrykept_k91_whole_freezers_holds : PySem.Challenge.rw_pantrykept_k91_whole_freezers.Holds := by
  w_on; o_law; k_head; (case hw => w_witness2)
  k_fill
  refine Law.walk (l := PySem.Challenge.rw_pantrykept_k91_whole_freezers) rfl rfl (fun w h Y => PySem.W.kIn_of Y) ?F
  case F =>
    intro w mg fa h KX G hmg
    refine' Law.all_mk KX G hmg ?a0 ?l0 ?c0 ?k0 ?a1 ?l1 ?c1 ?k1 ?a2 ?l2 ?c2 ?k2 ?a3 ?l3 ?c3 ?k3 ?a4 ?l4 ?c4 ?k4 ?a5 ?l5 ?c5 ?k5 ?a6 ?l6 ?c6 ?k6 ?a7 ?l7 ?c7 ?k7 ?a8 ?l8 ?c8 ?k8 ?a9 ?l9 ?c9 ?k9 ?a10 ?l10 ?c10 ?k10 ?a11 ?l11 ?c11 ?k11 ?a12 ?l12 ?c12 ?k12 ?a13 ?l13 ?c13 ?k13 ?a14 ?l14 ?c14 ?k14 ?a15 ?l15 ?c15 ?k15 ?a16 ?l16 ?c16 ?k16 ?a17 ?l17 ?c17 ?k17 ?a18 ?l18 ?c18 ?k18 ?a19 ?l19 ?c19 ?k19 ?a20 ?l20 ?c20 ?k20 ?a21 ?l21 ?c21 ?k21 ?a22 ?l22 ?c22 ?k22 ?z_len ?z_all ?z_any ?z_sum ?z_min ?z_max ?z_abs ?z_tuple ?z_list ?z_int ?z_sorted ?z_str ?z_bool ?z_isinstance ?z_range ?z_enumerate ?z_zip ?z_reversed ?ga0 ?gv0
    (case a0 => k_is)
    (case l0 => k_is)
    (case c0 => k_is)
    (case k0 => k_is)
    (case a1 => k_is)
    (case l1 => k_is)
    (case c1 => k_is)
    (case k1 => k_is)
    (case a2 => k_is)
    (case l2 => k_is)
    (case c2 => k_is)
    (case k2 => k_is)
    (case a3 => k_is)
    (case l3 => k_is)
    (case c3 => k_is)
    (case k3 => k_is)
    (case a4 => k_is)
    (case l4 => k_is)
    (case c4 => k_is)
    (case k4 => k_is)
    (case a5 => k_is)
    (case l5 => k_is)
    (case c5 => k_is)
    (case k5 => k_is)
    (case a6 => k_is)
    (case l6 => k_is)
    (case c6 => k_is)
    (case k6 => k_is)
    (case a7 => k_is)
    (case l7 => k_is)
    (case c7 => k_is)
    (case k7 => k_is)
    (case a8 => k_is)
    (case l8 => k_is)
    (case c8 => k_is)
    (case k8 => k_is)
    (case a9 => k_is)
    (case l9 => k_is)
    (case c9 => k_is)
    (case k9 => k_is)
    (case a10 => k_is)
    (case l10 => k_is)
    (case c10 => k_is)
    (case k10 => k_is)
    (case a11 => k_is)
    (case l11 => k_is)
    (case c11 => k_is)
    (case k11 => k_is)
    (case a12 => k_is)
    (case l12 => k_is)
    (case c12 => k_is)
    (case k12 => k_is)
    (case a13 => k_is)
    (case l13 => k_is)
    (case c13 => k_is)
    (case k13 => k_is)
    (case a14 => k_is)
    (case l14 => k_is)
    (case c14 => k_is)
    (case k14 => k_is)
    (case a15 => k_is)
    (case l15 => k_is)
    (case c15 => k_is)
    (case k15 => k_is)
    (case a16 => k_is)
    (case l16 => k_is)
    (case c16 => k_is)
    (case k16 => k_is)
    (case a17 => k_is)
    (case l17 => k_is)
    (case c17 => k_is)
    (case k17 => k_is)
    (case a18 => k_is)
    (case l18 => k_is)
    (case c18 => k_is)
    (case k18 => k_is)
    (case a19 => k_is)
    (case l19 => k_is)
    (case c19 => k_is)
    (case k19 => k_is)
    (case a20 => k_is)
    (case l20 => k_is)
    (case c20 => k_is)
    (case k20 => k_is)
    (case a21 => k_is)
    (case l21 => k_is)
    (case c21 => k_is)
    (case k21 => k_is)
    (case a22 => k_is)
    (case l22 => k_is)
    (case c22 => k_is)
    (case k22 => k_is)
    (case z_len => k_is)
    (case z_all => k_is)
    (case z_any => k_is)
    (case z_sum => k_is)
    (case z_min => k_is)
    (case z_max => k_is)
    (case z_abs => k_is)
    (case z_tuple => k_is)
    (case z_list => k_is)
    (case z_int => k_is)
    (case z_sorted => k_is)
    (case z_str => k_is)
    (case z_bool => k_is)
    (case z_isinstance => k_is)
    (case z_range => k_is)
    (case z_enumerate => k_is)
    (case z_zip => k_is)
    (case z_reversed => k_is)
    (case ga0 => k_is)
    (case gv0 => first | exact ⟨by decide, _, _, rfl, ⟨_, rfl⟩, _, _, rfl, ⟨_, rfl⟩, rfl⟩ | exact ⟨by decide, _, _, rfl, ⟨_, rfl⟩, _, _, rfl, ⟨_, rfl⟩, _, _, rfl, ⟨_, rfl⟩, rfl⟩ | exact ⟨_, rfl⟩ | rfl)
